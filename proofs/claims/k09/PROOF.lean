import PyProof.Rows.All
import HandS.List
import HandS.ForSpec
import HandS.Comp
import HandS.Star
import HandS.Iter
import HandS.TupAny
import HandS.IsInst
import HandS.RaiseMore
import HandS.Text
import HandS.SlotsOwn
import HandS.Defaults
import HandS.OwnIter
import HandS.IterVal
import HandS.Keys
import PyProof.Walks
import PyProof.CollectWalk
import HandS.HeadHook2
import HandS.HeadHook3
import HandS.HeadHook4
import HandS.HeadEnd
import HandS.Words
import HandS.Dict
import HandS.More
import HandS.Strs
import HandS.SetFor
import HandS.WordsDict
import HandS.TupLen
import PySem.Challenge.RW_redomarks_k09_book_atoms
import Wide.All
import OpenK.AllK
import Wide.FinOn
import KE.KStateDown
import Lean
import HandS.WordsExc
import HandS.Head0
import HandS.Head1
import HandS.Head2
set_option Elab.async false
set_option linter.all false
set_option maxRecDepth 100000
set_option maxHeartbeats 0
namespace Mi
open PySem

abbrev Ky := Sum Int Str
/-- abstract values: tuples are values, scr is the law's own script (read only), ctp a tuple of texts of the module; fl a list that never changes again, fk and ft such dicts (keys, values) -/
inductive AV where
  | non | bl (b : Bool) | int (i : Int) | str (x : Str) | tup (xs : List AV) | ref (i : Nat) | scr (ns : List Int) | ctp (ss : List Str)
  | fl (xs : List AV) | fk (ks : List Ky) (vs : List AV) | ft (ks : List (List Ky)) (vs : List AV)
/-- abstract objects: a list, a dict with flat keys, a dict with tuple keys, an instance of the class c; dead: it became a value -/
inductive AO where
  | dead | lst (xs : List AV) | dk (kvs : List (Ky × AV)) | dt (kvs : List (List Ky × AV)) | ins (c : Nat) (fs : List (Str × AV))
abbrev AH := List AO
abbrev Fs := List (Str × AV)
inductive R (α : Type) where
  | ok (a : α) (h : AH) | ex (c : Nat) (fs : Fs) (h : AH) | bad
def R.bind {α β : Type} (r : R α) (f : α → AH → R β) : R β := match r with
  | .ok a h => f a h
  | .ex c fs h => .ex c fs h
  | .bad => .bad
@[simp] theorem bind_ok {α β : Type} (a : α) (h : AH) (f : α → AH → R β) : (R.ok a h).bind f = f a h := (rfl)
@[simp] theorem bind_ex {α β : Type} (c : Nat) (fs : Fs) (h : AH) (f : α → AH → R β) : (R.ex c fs h : R α).bind f = .ex c fs h := (rfl)
@[simp] theorem bind_bad {α β : Type} (f : α → AH → R β) : (R.bad : R α).bind f = .bad := (rfl)

abbrev Sl := List (Option AV)
abbrev SE := Sl → AH → R AV
abbrev SA := Sl → AH → R (List AV)
abbrev SB := Sl → AH → R Bool
inductive Fl where
  | nx (σ : Sl) | rt (v : AV) | bk (σ : Sl) | ct (σ : Sl)
/-- a statement's result; at a raise the slots as they are then -/
inductive RS where
  | ok (f : Fl) (h : AH) | ex (c : Nat) (fs : Fs) (σ : Sl) (h : AH) | bad
abbrev SS := Sl → AH → RS
/-- an expression's result within a statement -/
def R.to {α : Type} (r : R α) (σ : Sl) (f : α → AH → RS) : RS := match r with
  | .ok a h => f a h
  | .ex c fs h => .ex c fs σ h
  | .bad => .bad
@[simp] theorem to_ok {α : Type} (a : α) (h : AH) (σ : Sl) (f : α → AH → RS) : (R.ok a h).to σ f = f a h := (rfl)
@[simp] theorem to_ex {α : Type} (c : Nat) (fs : Fs) (h : AH) (σ : Sl) (f : α → AH → RS) : (R.ex c fs h : R α).to σ f = .ex c fs σ h := (rfl)
@[simp] theorem to_bad {α : Type} (σ : Sl) (f : α → AH → RS) : (R.bad : R α).to σ f = .bad := (rfl)
def RS.bind (r : RS) (f : Fl → AH → RS) : RS := match r with
  | .ok a h => f a h
  | .ex c fs σ h => .ex c fs σ h
  | .bad => .bad
@[simp] theorem sbind_ok (a : Fl) (h : AH) (f : Fl → AH → RS) : (RS.ok a h).bind f = f a h := (rfl)
@[simp] theorem sbind_ex (c : Nat) (fs : Fs) (σ : Sl) (h : AH) (f : Fl → AH → RS) : (RS.ex c fs σ h).bind f = .ex c fs σ h := (rfl)
@[simp] theorem sbind_bad (f : Fl → AH → RS) : RS.bad.bind f = .bad := (rfl)
/-- operators of own classes -/
inductive Dn where
  | or | and | sub | ior | eq | ne | le | len | has | get | set | call
  deriving DecidableEq
/-- the calls' environment: a def by its number, one level lower for makings; a class's operators; a class's field that iterates -/
structure CE where
  call : Nat → List AV → AH → R AV
  mak : Nat → List AV → AH → R AV
  dn : Nat → Dn → Option Nat
  it : Nat → Option Str

def sBad : SE := fun _ _ => .bad
def sVar (i : Nat) : SE := fun σ h => match σ[i]? with
  | some (some v) => .ok v h
  | _ => .bad
def sK (v : AV) : SE := fun _ h => .ok v h
def aNil : SA := fun _ h => .ok [] h
def aCons (e : SE) (r : SA) : SA := fun σ h => (e σ h).bind fun v h1 => (r σ h1).bind fun vs h2 => .ok (v :: vs) h2
/-- the items of a value that is a list or a tuple -/
def seqOf (v : AV) (h : AH) : Option (List AV) := match v with
  | .tup xs => some xs
  | .scr ns => some (ns.map .int)
  | .ctp ss => some (ss.map .str)
  | .fl xs => some xs
  | .ref a => match h[a]? with
    | some (.lst xs) => some xs
    | _ => none
  | _ => none
def aStar (e : SE) (r : SA) : SA := fun σ h => (e σ h).bind fun v h1 => match seqOf v h1 with
  | some xs => (r σ h1).bind fun vs h2 => .ok (xs ++ vs) h2
  | none => .bad
def op1 (f : AV → AH → R AV) (e : SE) : SE := fun σ h => (e σ h).bind f
def op2 (f : AV → AV → AH → R AV) (a b : SE) : SE := fun σ h => (a σ h).bind fun x h1 => (b σ h1).bind fun y h2 => f x y h2
def opN (f : List AV → AH → R AV) (a : SA) : SE := fun σ h => (a σ h).bind f
/-- a new object -/
def new (o : AO) (h : AH) : R AV := .ok (.ref h.length) (h ++ [o])
/-- a new list: b tells whether it may change -/
def newL (b : Bool) (xs : List AV) (h : AH) : R AV := if b then new (.lst xs) h else .ok (.fl xs) h
def sLst (b : Bool) (a : SA) : SE := opN (fun xs h => if xs.length ≤ sizeLine then newL b xs h else .bad) a
def sTup (a : SA) : SE := opN (fun xs h => if xs.length ≤ sizeLine then .ok (.tup xs) h else .bad) a

def omap {α β : Type} (f : α → Option β) : List α → Option (List β)
  | [] => some []
  | x :: xs => match f x with
    | none => none
    | some y => match omap f xs with
      | none => none
      | some ys => some (y :: ys)
def dat : Nat → AH → AV → Option PyData
  | 0, _, _ => none
  | n + 1, h, v => match v with
    | .non => some .none
    | .bl b => some (.bool b)
    | .int i => some (.int i)
    | .str x => some (.str x)
    | .tup xs => (omap (dat n h) xs).map .tuple
    | .scr ns => some (.list (ns.map .int))
    | .ctp ss => some (.tuple (ss.map .str))
    | .fl xs => (omap (dat n h) xs).map .list
    | .fk _ _ => none
    | .ft _ _ => none
    | .ref a => match h[a]? with
      | some (.lst xs) => (omap (dat n h) xs).map .list
      | _ => none
/-- == of data; of instances by their class's operator -/
def eqD (x y : AV) (h : AH) : Option Bool := match dat 9 h x, dat 9 h y with
  | some d, some e => if SeqAt.shaped d = true ∧ SeqAt.shaped e = true then some (PyData.eqv d e) else none
  | _, _ => none
def cls? (v : AV) (h : AH) : Option (Nat × Fs) := match v with
  | .ref a => match h[a]? with
    | some (.ins c fs) => some (c, fs)
    | _ => none
  | _ => none
/-- x op y of two instances of one class -/
def dun (C : CE) (d : Dn) (x y : AV) (h : AH) : R AV := match cls? x h, cls? y h with
  | some (c, _), some (c', _) => if c = c' then match C.dn c d with
      | some f => C.call f [x, y] h
      | none => .bad
    else .bad
  | _, _ => .bad
def oEq (C : CE) (x y : AV) (h : AH) : R AV := match eqD x y h with
  | some b => .ok (.bl b) h
  | none => match dun C .eq x y h with
    | .ok (.bl b) h1 => .ok (.bl b) h1
    | _ => .bad
def oNe (C : CE) (x y : AV) (h : AH) : R AV := match eqD x y h with
  | some b => .ok (.bl (!b)) h
  | none => .bad
/-- flat values -/
def toV : AV → Option L2.V
  | .non => some .non
  | .bl b => some (.bl b)
  | .int i => some (.int i)
  | .str x => some (.str x)
  | _ => none
def inS (x : AV) (xs : List AV) : Option Bool := match toV x, omap toV xs with
  | some u, some us => some (L2.inV u us)
  | _, _ => none

/-- a list's items -/
def lstOf (v : AV) (h : AH) : Option (List AV) := match v with
  | .fl xs => some xs
  | .ref a => match h[a]? with
    | some (.lst xs) => some xs
    | _ => none
  | _ => none
/-- x + y; b: whether a new list may change -/
def oAdd (b : Bool) (x y : AV) (h : AH) : R AV := match x, y with
  | .int i, .int j => .ok (.int (i + j)) h
  | .str a, .str b => if a.length + b.length ≤ sizeLine then .ok (.str (a ++ b)) h else .bad
  | .ctp a, .tup ys => if a ≠ [] ∧ ys ≠ [] ∧ a.length + ys.length ≤ sizeLine then .ok (.tup (a.map .str ++ ys)) h else .bad
  | .ctp a, .ctp c => if a ≠ [] ∧ c ≠ [] ∧ a.length + c.length ≤ sizeLine then .ok (.tup (a.map .str ++ c.map .str)) h else .bad
  | .tup xs, .tup ys => if xs.length + ys.length ≤ sizeLine then .ok (.tup (xs ++ ys)) h else .bad
  | x, y => match lstOf x h, lstOf y h with
    | some xs, some ys => if xs.length + ys.length ≤ sizeLine then newL b (xs ++ ys) h else .bad
    | _, _ => .bad
def oSub (C : CE) (x y : AV) (h : AH) : R AV := match x, y with
  | .int i, .int j => .ok (.int (i - j)) h
  | _, _ => dun C .sub x y h
/-- the right factor, or the left, below 2^64 -/
def oMul (x y : AV) (h : AH) : R AV := match x, y with
  | .int i, .int j => if (-(2 ^ 64) < i ∧ i < 2 ^ 64) ∨ (-(2 ^ 64) < j ∧ j < 2 ^ 64) then .ok (.int (i * j)) h else .bad
  | _, _ => .bad
def oDiv (x y : AV) (h : AH) : R AV := match x, y with
  | .int i, .int j => if 0 < j ∧ j < 1073741824 then .ok (.int (i / j)) h else .bad
  | _, _ => .bad
def oMod (x y : AV) (h : AH) : R AV := match x, y with
  | .int i, .int j => if 0 < j then .ok (.int (i % j)) h else .bad
  | _, _ => .bad
def oPow (x y : AV) (h : AH) : R AV := match x, y with
  | .int i, .int j => if 0 ≤ j ∧ j ≤ 1000000 ∧ i.natAbs < 2 ^ 64 then .ok (.int (i ^ j.toNat)) h else .bad
  | _, _ => .bad
def oOr (C : CE) (x y : AV) (h : AH) : R AV := dun C .or x y h
def oAnd (C : CE) (x y : AV) (h : AH) : R AV := dun C .and x y h
def oNeg (x : AV) (h : AH) : R AV := match x with
  | .int i => .ok (.int (-i)) h
  | _ => .bad
def oLt (x y : AV) (h : AH) : R AV := match x, y with
  | .int i, .int j => .ok (.bl (decide (i < j))) h
  | _, _ => .bad
def oLe (C : CE) (x y : AV) (h : AH) : R AV := match x, y with
  | .int i, .int j => .ok (.bl (decide (i ≤ j))) h
  | _, _ => dun C .le x y h
def oGt (x y : AV) (h : AH) : R AV := match x, y with
  | .int i, .int j => .ok (.bl (decide (j < i))) h
  | _, _ => .bad
def oGe (x y : AV) (h : AH) : R AV := match x, y with
  | .int i, .int j => .ok (.bl (decide (j ≤ i))) h
  | _, _ => .bad
/-- x in y, y a list, a tuple, an instance with __contains__ -/
def oIn (C : CE) (x y : AV) (h : AH) : R AV := match seqOf y h with
  | some ys => match inS x ys with
    | some b => .ok (.bl b) h
    | none => .bad
  | none => match cls? y h with
    | some (c, _) => match C.dn c .has with
      | some f => match C.call f [y, x] h with
        | .ok (.bl b) h1 => .ok (.bl b) h1
        | _ => .bad
      | none => .bad
    | none => .bad
def oNotIn (C : CE) (x y : AV) (h : AH) : R AV := match seqOf y h with
  | some ys => match inS x ys with
    | some b => .ok (.bl (!b)) h
    | none => .bad
  | none => match cls? y h with
    | some (c, _) => match C.dn c .has with
      | some f => match C.call f [y, x] h with
        | .ok (.bl b) h1 => .ok (.bl (!b)) h1
        | _ => .bad
      | none => .bad
    | none => .bad
def oIsN (x : AV) (h : AH) : R AV := match x with
  | .non => .ok (.bl true) h
  | _ => .ok (.bl false) h
def oNotN (x : AV) (h : AH) : R AV := match x with
  | .non => .ok (.bl false) h
  | _ => .ok (.bl true) h
/-- x[i] of a text's sign, a list, a tuple -/
def oIx (C : CE) (x y : AV) (h : AH) : R AV := match y with
  | .int i => match x with
    | .str z => if z.length ≤ sizeLine then match L2.atI z.cps.toList i with
        | some c => .ok (.str ⟨#[c]⟩) h
        | none => .bad
      else .bad
    | v => match seqOf v h with
      | some xs => match L2.atI xs i with
        | some w => .ok w h
        | none => .bad
      | none => .bad
  | _ => .bad

def tru (v : AV) (h : AH) : Option Bool := match v with
  | .non => some false
  | .bl b => some b
  | .int i => some (i != 0)
  | .str y => if y.length ≤ sizeLine then some ((y.length : Int) != 0) else none
  | .tup xs => some (!xs.isEmpty)
  | .scr ns => some (!ns.isEmpty)
  | .ctp ss => some (!ss.isEmpty)
  | .fl xs => some (!xs.isEmpty)
  | .fk _ _ => none
  | .ft _ _ => none
  | .ref a => match h[a]? with
    | some (.lst xs) => some (!xs.isEmpty)
    | some (.dk kvs) => some (!kvs.isEmpty)
    | _ => none
def tTru (e : SE) : SB := fun σ h => (e σ h).bind fun v h1 => match tru v h1 with
  | some b => .ok b h1
  | none => .bad
/-- a comparison's value as a test -/
def tBl (e : SE) : SB := fun σ h => (e σ h).bind fun v h1 => match v with
  | .bl b => .ok b h1
  | _ => .bad
def tAnd (a b : SB) : SB := fun σ h => (a σ h).bind fun x h1 => if x then b σ h1 else .ok false h1
def tOr (a b : SB) : SB := fun σ h => (a σ h).bind fun x h1 => if x then .ok true h1 else b σ h1
def tNot (a : SB) : SB := fun σ h => (a σ h).bind fun x h1 => .ok (!x) h1
def tYes : SB := fun _ h => .ok true h
/-- and, or, not of truth values, as values -/
def sAnd (a b : SE) : SE := fun σ h => (a σ h).bind fun x h1 => match x with
  | .bl true => b σ h1
  | .bl false => .ok (.bl false) h1
  | _ => .bad
def sOr (a b : SE) : SE := fun σ h => (a σ h).bind fun x h1 => match x with
  | .bl true => .ok (.bl true) h1
  | .bl false => b σ h1
  | _ => .bad
def sNot (a : SE) : SE := fun σ h => (a σ h).bind fun x h1 => match x with
  | .bl b => .ok (.bl (!b)) h1
  | _ => .bad
def sIfE (t : SB) (a b : SE) : SE := fun σ h => (t σ h).bind fun x h1 => if x then a σ h1 else b σ h1
/-- a op b op' c -/
def sChain (f g : AV → AV → AH → R AV) (a b c : SE) : SE := fun σ h => (a σ h).bind fun x h1 => (b σ h1).bind fun y h2 => (f x y h2).bind fun z h3 => match z with
  | .bl true => (c σ h3).bind fun u h4 => g y u h4
  | .bl false => .ok (.bl false) h3
  | _ => .bad

def look (f : Str) (fs : Fs) : Option AV := fs.lookup f
def putA (f : Str) (v : AV) : Fs → Fs
  | [] => [(f, v)]
  | (g, x) :: r => if g = f then (g, v) :: r else (g, x) :: putA f v r
def sFld (c : Nat) (f : Str) (e : SE) : SE := op1 (fun v h => match cls? v h with
  | some (c', fs) => if c' = c then match fs.lookup f with
      | some w => .ok w h
      | none => .bad
    else .bad
  | none => .bad) e
def ssFld (c : Nat) (f : Str) (o e : SE) : SS := fun σ h => (e σ h).to σ fun w h1 => (o σ h1).to σ fun v h2 => match v with
  | .ref a => match h2[a]? with
    | some (.ins c' fs) => if c' = c ∧ fs.length < 1000 then .ok (.nx σ) (h2.set a (.ins c (putA f w fs))) else .bad
    | _ => .bad
  | _ => .bad

def sCall (C : CE) (f : Nat) (a : SA) : SE := opN (C.call f) a
def sMk (C : CE) (c f : Nat) (a : SA) : SE := opN (fun vs h => match C.mak f (.ref h.length :: vs) (h ++ [.ins c []]) with
  | .ok .non h1 => .ok (.ref h.length) h1
  | .ex c fs h1 => .ex c fs h1
  | _ => .bad) a
/-- o.m(..), o of the class c, the method's name nm, its def f -/
def sMeth (C : CE) (c : Nat) (nm : Str) (f : Nat) (o : SE) (a : SA) : SE := fun σ h => (o σ h).bind fun v h1 => match cls? v h1 with
  | some (c', fs) => if c' = c ∧ (fs.lookup nm).isNone = true then (a σ h1).bind fun vs h2 => C.call f (v :: vs) h2 else .bad
  | none => .bad

def bLen (C : CE) (v : AV) (h : AH) : R AV := match v with
  | .str y => if y.length ≤ sizeLine then .ok (.int y.length) h else .bad
  | v => match seqOf v h with
    | some xs => .ok (.int xs.length) h
    | none => match cls? v h with
      | some (c, _) => match C.dn c .len with
        | some f => match C.call f [v] h with
          | .ok (.int i) h1 => if 0 ≤ i ∧ i ≤ 1000000 then .ok (.int i) h1 else .bad
          | _ => .bad
        | none => .bad
      | none => .bad
/-- what a loop walks -/
inductive Src where
  | lst (a : Nat) | tup (xs : List AV) | rng (lo : Int) (n : Nat)
/-- what is walked for an instance whose class iterates by a field: a list object or a list value -/
def itSrc (C : CE) (v : AV) (h : AH) : Option Src := match cls? v h with
  | some (c, fs) => match C.it c with
    | some f => match fs.lookup f with
      | some w => match w with
        | .ref a => match h[a]? with
          | some (.lst _) => some (.lst a)
          | _ => none
        | .fl xs => some (.tup xs)
        | _ => none
      | none => none
    | none => none
  | none => none
/-- list(v): of an instance its class may have a __len__, which is asked -/
def bList (b : Bool) (C : CE) (v : AV) (h : AH) : R AV := match seqOf v h with
  | some xs => newL b xs h
  | none => match cls? v h, itSrc C v h with
    | some (c, _), some (.lst a) => match C.dn c .len with
      | none => match h[a]? with
        | some (.lst xs) => if xs.length < sizeLine then newL b xs h else .bad
        | _ => .bad
      | some f => match C.call f [v] h with
        | .ok (.int k) h1 => match h1[a]? with
          | some (.lst ys) => if 0 ≤ k ∧ k ≤ 1000000 ∧ ys.length < sizeLine then newL b ys h1 else .bad
          | _ => .bad
        | _ => .bad
    | some (c, _), some (.tup xs) => match C.dn c .len with
      | none => if xs.length < sizeLine then newL b xs h else .bad
      | some f => match C.call f [v] h with
        | .ok (.int k) h1 => if 0 ≤ k ∧ k ≤ 1000000 ∧ xs.length < sizeLine then newL b xs h1 else .bad
        | _ => .bad
    | _, _ => .bad
def bInt (v : AV) (h : AH) : R AV := match v with
  | .int i => .ok (.int i) h
  | _ => .bad
def bStr (v : AV) (h : AH) : R AV := match v with
  | .str x => .ok (.str x) h
  | _ => .bad
def strL (vs : List AV) : Option (List Str) := omap (fun v => match v with | .str x => some x | _ => none) vs
def blsL (vs : List AV) : Option (List Bool) := omap (fun v => match v with | .bl x => some x | _ => none) vs
/-- the order of texts, by code points -/
def leS (a b : Str) : Bool := !PySem.Spec.ltCps b.cps.toList a.cps.toList
def sortS (l : List Str) : List Str := l.mergeSort leS
def bSorted (v : AV) (h : AH) : R AV := match lstOf v h with
  | some xs => match strL xs with
    | some ss => if ss.length < 64 then .ok (.fl ((sortS ss).map .str)) h else .bad
    | none => .bad
  | none => .bad
def bAll (v : AV) (h : AH) : R AV := match lstOf v h with
  | some xs => match blsL xs with
    | some bs => .ok (.bl (bs.all id)) h
    | none => .bad
  | none => .bad
def arg1 (g : AV → AH → R AV) : List AV → AH → R AV
  | [v], h => g v h
  | _, _ => .bad
/-- isinstance(x, C): cs tells the answer for each class; x an instance, a bool, an int, a text, None, a list -/
def bIsA (cs : List (Nat × Bool)) (v : AV) (h : AH) : R AV := match v with
  | .ref a => match h[a]? with
    | some (.ins c _) => match cs.lookup c with
      | some b => .ok (.bl b) h
      | none => .bad
    | some (.lst _) => .ok (.bl false) h
    | _ => .bad
  | .non => .ok (.bl false) h
  | .bl _ => .ok (.bl false) h
  | .int _ => .ok (.bl false) h
  | .str _ => .ok (.bl false) h
  | _ => .bad
inductive Ty where
  | bool | int | str | list | tuple
  deriving DecidableEq
def bIsT (t : Ty) (v : AV) (h : AH) : R AV := match v with
  | .non => .ok (.bl false) h
  | .bl _ => .ok (.bl (t == .bool || t == .int)) h
  | .int _ => .ok (.bl (t == .int)) h
  | .str _ => .ok (.bl (t == .str)) h
  | .tup _ => .ok (.bl (t == .tuple)) h
  | .ctp _ => .ok (.bl (t == .tuple)) h
  | .fl _ => .ok (.bl (t == .list)) h
  | .ref a => match h[a]? with
    | some (.lst _) => .ok (.bl (t == .list)) h
    | _ => .bad
  | _ => .bad
/-- a built-in type's method: the receiver's kind is looked at ahead of the arguments -/
def sBm (ty : AV → AH → Bool) (f : AV → List AV → AH → R AV) (o : SE) (a : SA) : SE := fun σ h => (o σ h).bind fun v h1 => if ty v h1 then (a σ h1).bind fun vs h2 => f v vs h2 else .bad
def isLst (v : AV) (h : AH) : Bool := (lstOf v h).isSome
def isStr (v : AV) (_ : AH) : Bool := match v with
  | .str _ => true
  | _ => false
def mAppend (l : AV) (vs : List AV) (h : AH) : R AV := match l, vs with
  | .ref a, [v] => match h[a]? with
    | some (.lst xs) => if xs.length < sizeLine then .ok .non (h.set a (.lst (xs ++ [v]))) else .bad
    | _ => .bad
  | _, _ => .bad
def mJoin (s : AV) (vs : List AV) (h : AH) : R AV := match s, vs with
  | .str a, [v] => match seqOf v h with
    | some xs => match strL xs with
      | some ss => if (ss.map (·.length)).sum + ss.length * a.length ≤ 16777216 then .ok (.str (Txt.join a ss)) h else .bad
      | none => .bad
    | none => .bad
  | _, _ => .bad

def Src.at (s : Src) (i : Nat) (h : AH) : Option (Option AV) := match s with
  | .lst a => match h[a]? with
    | some (.lst xs) => some xs[i]?
    | _ => none
  | .tup xs => some xs[i]?
  | .rng lo n => some (if i < n then some (.int (lo + i)) else none)
def Src.len (s : Src) (h : AH) : Nat := match s with
  | .lst a => match h[a]? with
    | some (.lst xs) => xs.length
    | _ => 0
  | .tup xs => xs.length
  | .rng _ n => n
abbrev SI := Sl → AH → R Src
/-- a key as a value -/
def kyA : Ky → AV
  | .inl i => .int i
  | .inr x => .str x
def iSeq (e : SE) : SI := fun σ h => (e σ h).bind fun v h1 => match v with
  | .tup xs => .ok (.tup xs) h1
  | .ctp ss => .ok (.tup (ss.map .str)) h1
  | .fl xs => .ok (.tup xs) h1
  | .scr ns => .ok (.tup (ns.map .int)) h1
  | .str x => .ok (.tup (x.cps.toList.map fun c => .str ⟨#[c]⟩)) h1
  | .fk ks _ => .ok (.tup (ks.map kyA)) h1
  | .ft ks _ => .ok (.tup (ks.map fun k => .tup (k.map kyA))) h1
  | .ref a => match h1[a]? with
    | some (.lst _) => .ok (.lst a) h1
    | _ => .bad
  | _ => .bad
/-- over an instance whose class iterates by a field -/
def iOwn (C : CE) (e : SE) : SI := fun σ h => (e σ h).bind fun v h1 => match itSrc C v h1 with
  | some s => .ok s h1
  | none => .bad
def iRng1 (e : SE) : SI := fun σ h => (e σ h).bind fun v h1 => match v with
  | .int j => if -(2 ^ 62) ≤ j ∧ j < 2 ^ 62 then .ok (.rng 0 j.toNat) h1 else .bad
  | _ => .bad
def iRng2 (a b : SE) : SI := fun σ h => (a σ h).bind fun x h1 => (b σ h1).bind fun y h2 => match x, y with
  | .int i, .int j => if -(2 ^ 62) ≤ i ∧ i < 2 ^ 62 ∧ -(2 ^ 62) ≤ j ∧ j < 2 ^ 62 then .ok (.rng i (j - i).toNat) h2 else .bad
  | _, _ => .bad
/-- a target: a name, a tuple of names -/
abbrev SG := AV → Sl → Option Sl
def gNm (i : Nat) : SG := fun v σ => some (σ.set i (some v))
def gsN : List Nat → List AV → Sl → Option Sl
  | [], [], σ => some σ
  | i :: is, v :: vs, σ => gsN is vs (σ.set i (some v))
  | _, _, _ => none
def gTp (is : List Nat) : SG := fun v σ => match v with
  | .tup xs => gsN is xs σ
  | _ => none
def forL (s : Src) (g : SG) (b : SS) : Nat → Nat → SS
  | k, i, σ, h => match s.at i h with
    | none => .bad
    | some none => .ok (.nx σ) h
    | some (some v) => match k with
      | 0 => .bad
      | k + 1 => match g v σ with
        | none => .bad
        | some σ1 => (b σ1 h).bind fun f h2 => match f with
          | .nx σ2 => forL s g b k (i + 1) σ2 h2
          | .ct σ2 => forL s g b k (i + 1) σ2 h2
          | .bk σ2 => .ok (.nx σ2) h2
          | .rt v => .ok (.rt v) h2
def sFor (it : SI) (g : SG) (b : SS) : SS := fun σ h => (it σ h).to σ fun s h1 => forL s g b (s.len h1) 0 σ h1
def wipeA (σ : Sl) : List Nat → Sl
  | [] => σ
  | v :: vs => (wipeA σ vs).set v none
/-- a comprehension: the list grows at D -/
def lcL (s : Src) (g : SG) (t : SB) (e : SE) (D : Nat) (σ : Sl) : Nat → Nat → AH → R AV
  | k, i, h => match s.at i h with
    | none => .bad
    | some none => .ok (.ref D) h
    | some (some v) => match k with
      | 0 => .bad
      | k + 1 => match g v σ with
        | some σ1 => match t σ1 h with
          | .ok true h2 => match e σ1 h2 with
            | .ok w h3 => match h3[D]? with
              | some (.lst acc) => if acc.length < sizeLine then lcL s g t e D σ k (i + 1) (h3.set D (.lst (acc ++ [w]))) else .bad
              | _ => .bad
            | _ => .bad
          | .ok false h2 => lcL s g t e D σ k (i + 1) h2
          | _ => .bad
        | none => .bad
/-- a comprehension whose list is a value -/
def lcF (s : Src) (g : SG) (t : SB) (e : SE) (σ : Sl) : Nat → Nat → List AV → AH → R AV
  | k, i, acc, h => match s.at i h with
    | none => .bad
    | some none => .ok (.fl acc) h
    | some (some v) => match k with
      | 0 => .bad
      | k + 1 => match g v σ with
        | some σ1 => match t σ1 h with
          | .ok true h2 => match e σ1 h2 with
            | .ok w h3 => if acc.length < sizeLine then lcF s g t e σ k (i + 1) (acc ++ [w]) h3 else .bad
            | _ => .bad
          | .ok false h2 => lcF s g t e σ k (i + 1) acc h2
          | _ => .bad
        | none => .bad
def sLcF (it : SI) (g : SG) (t : SB) (e : SE) (vs : List Nat) : SE := fun σ h => (it σ h).bind fun s h1 => lcF s g t e (wipeA σ vs) (s.len h1) 0 [] h1
def sLc (it : SI) (g : SG) (t : SB) (e : SE) (vs : List Nat) : SE := fun σ h => (it σ h).bind fun s h1 => lcL s g t e h1.length (wipeA σ vs) (s.len (h1 ++ [.lst []])) 0 (h1 ++ [.lst []])

def ssBad : SS := fun _ _ => .bad
def ssNil : SS := fun σ h => .ok (.nx σ) h
def ssSeq (a b : SS) : SS := fun σ h => (a σ h).bind fun f h1 => match f with
  | .nx σ1 => b σ1 h1
  | f => .ok f h1
def ssSet (i : Nat) (e : SE) : SS := fun σ h => (e σ h).to σ fun v h1 => .ok (.nx (σ.set i (some v))) h1
def ssExpr (e : SE) : SS := fun σ h => (e σ h).to σ fun _ h1 => .ok (.nx σ) h1
def ssRet (e : SE) : SS := fun σ h => (e σ h).to σ fun v h1 => .ok (.rt v) h1
def ssRetN : SS := fun _ h => .ok (.rt .non) h
def ssIf (t : SB) (a b : SS) : SS := fun σ h => (t σ h).to σ fun x h1 => if x then a σ h1 else b σ h1
/-- a, b = e -/
def ssUnp (g : SG) (e : SE) : SS := fun σ h => (e σ h).to σ fun v h1 => match g v σ with
  | some σ1 => .ok (.nx σ1) h1
  | none => .bad
/-- l[i] = e of a list -/
def oSetIx (l i v : AV) (h : AH) : Option AH := match l, i with
  | .ref a, .int j => match h[a]? with
    | some (.lst xs) => match L2.ixN xs.length j with
      | some k => some (h.set a (.lst (xs.set k v)))
      | none => none
    | _ => none
  | _, _ => none
def ssIx (o i e : SE) : SS := fun σ h => (e σ h).to σ fun v h1 => (o σ h1).to σ fun l h2 => (i σ h2).to σ fun j h3 => match oSetIx l j v h3 with
  | some h4 => .ok (.nx σ) h4
  | none => .bad

/-- a op= b at a name -/
def ssAug (j : Nat) (f : AV → AV → AH → R AV) (e : SE) : SS := fun σ h => match σ[j]? with
  | some (some x) => (e σ h).to σ fun y h1 => (f x y h1).to σ fun z h2 => .ok (.nx (σ.set j (some z))) h2
  | _ => .bad

def endF (r : RS) : R AV := match r with
  | .ok (.nx _) h1 => .ok .non h1
  | .ok (.rt v) h1 => .ok v h1
  | .ex c fs _ h1 => .ex c fs h1
  | _ => .bad
/-- a body's slots at the start -/
def slots (n : Nat) (vs : List AV) : Sl := vs.map some ++ List.replicate (n - vs.length) none
/-- a def of np plain parameters and n slots -/
def runF (np n : Nat) (b : SS) (vs : List AV) (h : AH) : R AV := if vs.length = np then endF (b (slots n vs) h) else .bad
/-- a def of np plain parameters and a starred one -/
def runS (np n : Nat) (b : SS) (vs : List AV) (h : AH) : R AV := if np ≤ vs.length ∧ vs.length ≤ 1000000 then endF (b (slots n (vs.take np ++ [.tup (vs.drop np)])) h) else .bad
end Mi

namespace Mi
open PySem PySem.Spec PyProof.Rows L2

/-- things that stand as they stand, not told -/
abbrev Hid := List (Addr × HO)
structure Dm where
  K : PySem.W.Frag
  cls : Nat → Addr
  hid : Hid
/-- the script: known and frozen -/
def ScrAt (K : PySem.W.Frag) (H : Hp) (a : Addr) (ns : List Int) : Prop :=
  (∃ o, H a = some (.frz o (.lst (ns.map .int)))) ∨ ∃ (o : Obj) (its : Array Value) (n : Nat), K.lookup a = some o ∧ o.cls = .type "list" ∧ o.dict = none ∧ o.data = .seq its n ∧ its.size ≤ sizeLine ∧ Vals (ns.map V.int) its.toList
theorem ScrAt.sq {K : PySem.W.Frag} {H : Hp} {a : Addr} {ns : List Int} (h : ScrAt K H a ns) : SqL K H a (ns.map V.int) := by
  rcases h with ⟨o, h⟩ | h
  · exact .inl (.inr ⟨o, h⟩)
  · exact .inr h
/-- a tuple that stays, with no dict of its own: a tuple of the module, one made by tuple(..) -/
def CtAt (K : PySem.W.Frag) (H : Hp) (a : Addr) (xs : List V) : Prop :=
  (∃ o : Obj, o.dict = none ∧ H a = some (.frz o (.tup xs))) ∨ ∃ (o : Obj) (its : Array Value) (n : Nat), K.lookup a = some o ∧ o.cls = .type "tuple" ∧ o.dict = none ∧ o.data = .seq its n ∧ its.size ≤ sizeLine ∧ Vals xs its.toList
theorem CtAt.sq {K : PySem.W.Frag} {H : Hp} {a : Addr} {xs : List V} (h : CtAt K H a xs) : SqT K H a xs := by
  rcases h with ⟨o, _, h⟩ | ⟨o, its, n, h1, h2, h3, h4, h5, h6⟩
  · exact .inl (.inr ⟨o, h⟩)
  · exact .inr ⟨o, its, n, h1, h2, h4, h5, h6⟩
mutual
def VR (K : PySem.W.Frag) (m : List Addr) (H : Hp) : AV → V → Prop
  | .non, u => u = .non
  | .bl b, u => u = .bl b
  | .int i, u => u = .int i
  | .str x, u => u = .str x
  | .ref i, u => ∃ a, m[i]? = some a ∧ u = .ref a
  | .scr ns, u => ∃ a, u = .ref a ∧ ScrAt K H a ns
  | .tup xs, u => ∃ p us, u = .ref p ∧ H p = some (.tup us) ∧ VRs K m H xs us
  | .ctp ss, u => ∃ p, u = .ref p ∧ CtAt K H p (ss.map V.str)
  | .fl xs, u => ∃ p us, u = .ref p ∧ (∃ o, H p = some (.frz o (.lst us))) ∧ VRs K m H xs us
  | .fk ks vs, u => ∃ p ps, u = .ref p ∧ (∃ o, H p = some (.frz o (.dK ps))) ∧ ps.map (·.1) = ks ∧ VRs K m H vs (ps.map (·.2))
  | .ft ks vs, u => ∃ p ps, u = .ref p ∧ (∃ o, H p = some (.frz o (.dT ps))) ∧ ps.map (·.1) = ks ∧ VRs K m H vs (ps.map (·.2))
def VRs (K : PySem.W.Frag) (m : List Addr) (H : Hp) : List AV → List V → Prop
  | [], us => us = []
  | x :: xs, us => ∃ u r, us = u :: r ∧ VR K m H x u ∧ VRs K m H xs r
end
/-- tuples and frozen things stay -/
def Keep (H H' : Hp) : Prop := (∀ a xs, H a = some (.tup xs) → H' a = some (.tup xs)) ∧ ∀ a o u, H a = some (.frz o u) → H' a = some (.frz o u)
theorem Keep.rfl' {H : Hp} : Keep H H := ⟨fun _ _ h => h, fun _ _ _ h => h⟩
theorem Keep.trans {H H1 H2 : Hp} (a : Keep H H1) (b : Keep H1 H2) : Keep H H2 := ⟨fun c xs h => b.1 c xs (a.1 c xs h), fun c o u h => b.2 c o u (a.2 c o u h)⟩
theorem Keep.new {H : Hp} {p : Addr} {o : HO} (n : H p = none) : Keep H (upd H p o) :=
  ⟨fun a xs h => by rw [upd_ne (ne_of_none h n)]; exact h, fun a q u h => by rw [upd_ne (ne_of_none h n)]; exact h⟩
/-- what may change -/
def Chg : HO → Prop
  | .tup _ => False
  | .frz _ _ => False
  | _ => True
theorem Keep.chg {H : Hp} {p : Addr} {o o' : HO} (e : H p = some o) (c : Chg o) : Keep H (upd H p o') := by
  refine ⟨fun a xs h => ?_, fun a q u h => ?_⟩
  · by_cases z : a = p
    · subst z; rw [e] at h; cases h; exact c.elim
    · rw [upd_ne z]; exact h
  · by_cases z : a = p
    · subst z; rw [e] at h; cases h; exact c.elim
    · rw [upd_ne z]; exact h
theorem SqT.keep {K : PySem.W.Frag} {H H' : Hp} {a : Addr} {xs : List V} (k : Keep H H') (h : SqT K H a xs) : SqT K H' a xs := by
  rcases h with (h | ⟨o, h⟩) | h
  · exact .inl (.inl (k.1 _ _ h))
  · exact .inl (.inr ⟨o, k.2 _ _ _ h⟩)
  · exact .inr h
theorem CtAt.keep {K : PySem.W.Frag} {H H' : Hp} {a : Addr} {xs : List V} (k : Keep H H') (h : CtAt K H a xs) : CtAt K H' a xs := by
  rcases h with ⟨o, d, h⟩ | h
  · exact .inl ⟨o, d, k.2 _ _ _ h⟩
  · exact .inr h
theorem ScrAt.keep {K : PySem.W.Frag} {H H' : Hp} {a : Addr} {ns : List Int} (k : Keep H H') (h : ScrAt K H a ns) : ScrAt K H' a ns := by
  rcases h with ⟨o, h⟩ | h
  · exact .inl ⟨o, k.2 _ _ _ h⟩
  · exact .inr h
theorem pre_get {m m' : List Addr} {i : Nat} {a : Addr} (p : m <+: m') (h : m[i]? = some a) : m'[i]? = some a := by
  obtain ⟨t, rfl⟩ := p
  rw [List.getElem?_append_left (List.getElem?_eq_some_iff.mp h).1]
  exact h
mutual
theorem VR.mono {K : PySem.W.Frag} {m m' : List Addr} {H H' : Hp} (p : m <+: m') (k : Keep H H') : ∀ (x : AV) (u : V), VR K m H x u → VR K m' H' x u
  | .non, _, h => h
  | .bl _, _, h => h
  | .int _, _, h => h
  | .str _, _, h => h
  | .ref i, _, ⟨a, h, e⟩ => ⟨a, pre_get p h, e⟩
  | .scr ns, _, ⟨a, e, h⟩ => ⟨a, e, h.keep k⟩
  | .tup xs, _, ⟨q, us, e, h, r⟩ => ⟨q, us, e, k.1 _ _ h, VRs.mono p k xs us r⟩
  | .ctp ss, _, ⟨q, e, h⟩ => ⟨q, e, CtAt.keep k h⟩
  | .fl xs, _, ⟨q, us, e, ⟨o, h⟩, r⟩ => ⟨q, us, e, ⟨o, k.2 _ _ _ h⟩, VRs.mono p k xs us r⟩
  | .fk ks vs, _, ⟨q, us, e, ⟨o, h⟩, y, r⟩ => ⟨q, us, e, ⟨o, k.2 _ _ _ h⟩, y, VRs.mono p k vs _ r⟩
  | .ft ks vs, _, ⟨q, us, e, ⟨o, h⟩, y, r⟩ => ⟨q, us, e, ⟨o, k.2 _ _ _ h⟩, y, VRs.mono p k vs _ r⟩
theorem VRs.mono {K : PySem.W.Frag} {m m' : List Addr} {H H' : Hp} (p : m <+: m') (k : Keep H H') : ∀ (xs : List AV) (us : List V), VRs K m H xs us → VRs K m' H' xs us
  | [], _, h => h
  | x :: xs, _, ⟨u, r, e, h, t⟩ => ⟨u, r, e, VR.mono p k x u h, VRs.mono p k xs r t⟩
end
section
variable {K : PySem.W.Frag} {m m' : List Addr} {H H' : Hp}
theorem VRs.length : ∀ {xs : List AV} {us : List V}, VRs K m H xs us → us.length = xs.length
  | [], _, h => by rw [show _ = [] from h]; rfl
  | x :: xs, _, ⟨u, r, e, _, t⟩ => by subst e; simp [VRs.length t]
theorem VRs.get : ∀ {xs : List AV} {us : List V} {i : Nat} {x : AV}, VRs K m H xs us → xs[i]? = some x → ∃ u, us[i]? = some u ∧ VR K m H x u
  | [], _, _, _, _, e => by simp at e
  | y :: ys, _, 0, x, ⟨u, r, eu, h, _⟩, e => by
    subst eu; simp at e; subst e; exact ⟨u, rfl, h⟩
  | y :: ys, _, i + 1, x, ⟨u, r, eu, _, t⟩, e => by
    subst eu
    obtain ⟨w, h1, h2⟩ := VRs.get (i := i) (x := x) t (by simpa using e)
    exact ⟨w, by simpa using h1, h2⟩
theorem VRs.append : ∀ {xs ys : List AV} {us ws : List V}, VRs K m H xs us → VRs K m H ys ws → VRs K m H (xs ++ ys) (us ++ ws)
  | [], _, us, _, h, k => by rw [show us = [] from h]; exact k
  | x :: xs, _, _, _, ⟨u, r, e, h, t⟩, k => by subst e; exact ⟨u, _, rfl, h, VRs.append t k⟩
theorem VRs.set : ∀ {xs : List AV} {us : List V} (i : Nat) {x : AV} {u : V}, VR K m H x u → VRs K m H xs us → VRs K m H (xs.set i x) (us.set i u)
  | [], us, _, _, _, _, h => by rw [show us = [] from h]; rfl
  | y :: ys, _, 0, x, u, hx, ⟨w, r, e, _, t⟩ => by subst e; exact ⟨u, r, rfl, hx, t⟩
  | y :: ys, _, i + 1, x, u, hx, ⟨w, r, e, h, t⟩ => by subst e; exact ⟨w, _, rfl, h, VRs.set i hx t⟩
theorem VRs.take : ∀ {xs : List AV} {us : List V} (n : Nat), VRs K m H xs us → VRs K m H (xs.take n) (us.take n)
  | [], us, n, h => by rw [show us = [] from h]; simp [VRs]
  | _ :: _, _, 0, _ => by simp [VRs]
  | x :: xs, _, n + 1, ⟨u, r, e, h, t⟩ => by subst e; exact ⟨u, _, rfl, h, VRs.take n t⟩
theorem VRs.drop : ∀ {xs : List AV} {us : List V} (n : Nat), VRs K m H xs us → VRs K m H (xs.drop n) (us.drop n)
  | [], us, n, h => by rw [show us = [] from h]; simp [VRs]
  | x :: xs, _, 0, h => h
  | x :: xs, _, n + 1, ⟨u, r, e, h, t⟩ => by subst e; exact VRs.drop n t
theorem vrs_ints (ns : List Int) : VRs K m H (ns.map .int) (ns.map V.int) := by
  induction ns with
  | nil => rfl
  | cons n r ih => exact ⟨_, _, rfl, rfl, ih⟩
theorem vrs_strs : ∀ {xs : List AV} {us : List V} {ss : List Str}, strL xs = some ss → VRs K m H xs us → us = ss.map V.str
  | [], us, ss, e, h => by
    have z : ss = [] := by simpa [strL, omap] using e.symm
    subst z; exact h
  | x :: xs, _, ss, e, ⟨u, r, eu, h, t⟩ => by
    subst eu
    cases x <;> simp only [strL, omap] at e <;> try cases e
    rename_i z
    split at e
    · cases e
    · rename_i ys hy
      cases e
      rw [vrs_strs (ss := ys) hy t, show u = V.str z from h]
      rfl
theorem strs_map (ss : List Str) : strL (ss.map .str) = some ss := by
  induction ss with
  | nil => rfl
  | cons s r ih =>
    simp only [strL] at ih
    simp only [strL, List.map_cons, omap, ih]
theorem vrs_of_strs (ss : List Str) : VRs K m H (ss.map .str) (ss.map V.str) := by
  induction ss with
  | nil => rfl
  | cons n r ih => exact ⟨_, _, rfl, rfl, ih⟩
theorem vrs_bls : ∀ {xs : List AV} {us : List V} {ss : List Bool}, blsL xs = some ss → VRs K m H xs us → us = ss.map V.bl
  | [], us, ss, e, h => by
    have z : ss = [] := by simpa [blsL, omap] using e.symm
    subst z; exact h
  | x :: xs, _, ss, e, ⟨u, r, eu, h, t⟩ => by
    subst eu
    cases x <;> simp only [blsL, omap] at e <;> try cases e
    rename_i z
    split at e
    · cases e
    · rename_i ys hy
      cases e
      rw [vrs_bls (ss := ys) hy t, show u = V.bl z from h]
      rfl
theorem vr_toV {x : AV} {u v : V} (e : toV x = some v) (h : VR K m H x u) : u = v ∧ flatV v = true := by
  cases x <;> simp only [toV] at e <;> cases e <;> exact ⟨h, rfl⟩
theorem vrs_toV : ∀ {xs : List AV} {us vs : List V}, omap toV xs = some vs → VRs K m H xs us → us = vs ∧ vs.all flatV = true
  | [], us, vs, e, h => by
    have z : vs = [] := by simpa [omap] using e.symm
    subst z; exact ⟨h, rfl⟩
  | x :: xs, _, vs, e, ⟨u, r, eu, h, t⟩ => by
    subst eu
    simp only [omap] at e
    split at e
    · cases e
    · rename_i y hy
      split at e
      · cases e
      · rename_i ys hys
        cases e
        obtain ⟨e1, f1⟩ := vr_toV hy h
        obtain ⟨e2, f2⟩ := vrs_toV hys t
        subst e1 e2
        exact ⟨rfl, by rw [List.all_cons, f1, f2]; rfl⟩
end

/-- a dict's pairs, an instance's fields -/
def KVR {κ : Type} (K : PySem.W.Frag) (m : List Addr) (H : Hp) : List (κ × AV) → List (κ × V) → Prop
  | [], qs => qs = []
  | p :: ps, qs => ∃ u r, qs = (p.1, u) :: r ∧ VR K m H p.2 u ∧ KVR K m H ps r
theorem KVR.mono {κ : Type} {K : PySem.W.Frag} {m m' : List Addr} {H H' : Hp} (p : m <+: m') (k : Keep H H') : ∀ {xs : List (κ × AV)} {us : List (κ × V)}, KVR K m H xs us → KVR K m' H' xs us
  | [], _, h => h
  | x :: xs, _, ⟨u, r, e, h, t⟩ => ⟨u, r, e, VR.mono p k _ u h, KVR.mono p k t⟩
theorem KVR.length {κ : Type} {K : PySem.W.Frag} {m : List Addr} {H : Hp} : ∀ {xs : List (κ × AV)} {us : List (κ × V)}, KVR K m H xs us → us.length = xs.length
  | [], _, h => by rw [show _ = [] from h]; rfl
  | x :: xs, _, ⟨u, r, e, _, t⟩ => by subst e; simp [KVR.length t]
theorem KVR.lookup {K : PySem.W.Frag} {m : List Addr} {H : Hp} {f : Str} : ∀ {xs : Fs} {us : List (Str × V)} {v : AV}, KVR K m H xs us → xs.lookup f = some v → ∃ u, us.lookup f = some u ∧ VR K m H v u
  | [], _, _, _, e => by simp at e
  | x :: xs, _, v, ⟨u, r, e, h, t⟩, q => by
    subst e
    obtain ⟨g, w⟩ := x
    rw [List.lookup_cons] at q ⊢
    cases hb : f == g with
    | true => rw [hb] at q; cases q; exact ⟨u, rfl, h⟩
    | false => rw [hb] at q; exact KVR.lookup t q
theorem KVR.lookup_none {K : PySem.W.Frag} {m : List Addr} {H : Hp} {f : Str} : ∀ {xs : Fs} {us : List (Str × V)}, KVR K m H xs us → xs.lookup f = none → us.lookup f = none
  | [], _, h, _ => by rw [show _ = [] from h]; rfl
  | x :: xs, _, ⟨u, r, e, h, t⟩, q => by
    subst e
    obtain ⟨g, w⟩ := x
    rw [List.lookup_cons] at q ⊢
    cases hb : f == g with
    | true => rw [hb] at q; cases q
    | false => rw [hb] at q; exact KVR.lookup_none t q
theorem KVR.put {K : PySem.W.Frag} {m : List Addr} {H : Hp} {f : Str} {v : AV} {u : V} (hv : VR K m H v u) : ∀ {xs : Fs} {us : List (Str × V)}, KVR K m H xs us → KVR K m H (putA f v xs) (putF f u us)
  | [], _, h => by rw [show _ = [] from h]; exact ⟨u, [], rfl, hv, rfl⟩
  | x :: xs, _, ⟨w, r, e, h, t⟩ => by
    subst e
    obtain ⟨g, y⟩ := x
    show KVR K m H (if g = f then (g, v) :: xs else (g, y) :: putA f v xs) (if g = f then (g, u) :: r else (g, w) :: putF f u r)
    by_cases z : g = f
    · rw [if_pos z, if_pos z]; exact ⟨u, r, rfl, hv, t⟩
    · rw [if_neg z, if_neg z]; exact ⟨w, _, rfl, h, KVR.put hv t⟩
/-- an object at a -/
def OR (D : Dm) (m : List Addr) (H : Hp) (a : Addr) : AO → Prop
  | .dead => ∃ u, H a = some u
  | .lst xs => ∃ vs, H a = some (.lst vs) ∧ VRs D.K m H xs vs
  | .dk kvs => ∃ ps, H a = some (.dK ps) ∧ KVR D.K m H kvs ps
  | .dt kvs => ∃ ps, H a = some (.dT ps) ∧ KVR D.K m H kvs ps
  | .ins c fs => ∃ dx gs, H a = some (.ins (D.cls c) dx gs) ∧ KVR D.K m H fs gs
theorem OR.tracked {D : Dm} {m : List Addr} {H : Hp} {a : Addr} {o : AO} (h : OR D m H a o) : ∃ u, H a = some u := by
  cases o with
  | dead => exact h
  | lst xs => obtain ⟨vs, e, _⟩ := h; exact ⟨_, e⟩
  | dk kvs => obtain ⟨vs, e, _⟩ := h; exact ⟨_, e⟩
  | dt kvs => obtain ⟨vs, e, _⟩ := h; exact ⟨_, e⟩
  | ins c fs => obtain ⟨dx, vs, e, _⟩ := h; exact ⟨_, e⟩
/-- it stands as it stood -/
theorem OR.stay {D : Dm} {m m' : List Addr} {H H' : Hp} {a : Addr} {o : AO} (p : m <+: m') (k : Keep H H') (e : ∀ u, H a = some u → H' a = some u) (h : OR D m H a o) : OR D m' H' a o := by
  cases o with
  | dead => obtain ⟨u, q⟩ := h; exact ⟨u, e _ q⟩
  | lst xs => obtain ⟨vs, q, r⟩ := h; exact ⟨vs, e _ q, VRs.mono p k _ _ r⟩
  | dk kvs => obtain ⟨vs, q, r⟩ := h; exact ⟨vs, e _ q, KVR.mono p k r⟩
  | dt kvs => obtain ⟨vs, q, r⟩ := h; exact ⟨vs, e _ q, KVR.mono p k r⟩
  | ins c fs => obtain ⟨dx, vs, q, r⟩ := h; exact ⟨dx, vs, e _ q, KVR.mono p k r⟩
structure Rel (D : Dm) (m : List Addr) (h : AH) (H : Hp) : Prop where
  len : m.length = h.length
  nd : m.Nodup
  ob : ∀ (i : Nat) (o : AO) (a : Addr), h[i]? = some o → m[i]? = some a → OR D m H a o
  hd : ∀ q ∈ D.hid, H q.1 = some q.2 ∧ q.1 ∉ m
section
variable {D : Dm} {m m' : List Addr} {H H' : Hp} {h h' : AH}
theorem Rel.at_ (r : Rel D m h H) {i : Nat} {o : AO} (e : h[i]? = some o) : ∃ a, m[i]? = some a ∧ OR D m H a o := by
  have hi : i < m.length := by rw [r.len]; exact (List.getElem?_eq_some_iff.mp e).1
  exact ⟨m[i], List.getElem?_eq_getElem hi, r.ob i o _ e (List.getElem?_eq_getElem hi)⟩
theorem Rel.free (r : Rel D m h H) {p : Addr} (n : H p = none) : p ∉ m := fun hp => by
  obtain ⟨i, hi⟩ := List.getElem?_of_mem hp
  have hl : i < h.length := by rw [← r.len]; exact (List.getElem?_eq_some_iff.mp hi).1
  obtain ⟨u, e⟩ := (r.ob i h[i] p (List.getElem?_eq_getElem hl) hi).tracked
  rw [n] at e; cases e
theorem nd_get {m : List Addr} (nd : m.Nodup) {i j : Nat} {a : Addr} (h1 : m[i]? = some a) (h2 : m[j]? = some a) : i = j := by
  obtain ⟨p, e1⟩ := List.getElem?_eq_some_iff.mp h1
  obtain ⟨q, e2⟩ := List.getElem?_eq_some_iff.mp h2
  exact (List.getElem_inj nd).mp (e1.trans e2.symm)
theorem st_new {p : Addr} {o : HO} (n : H p = none) : ∀ a u, H a = some u → upd H p o a = some u := fun a u e => by rw [upd_ne (ne_of_none e n)]; exact e
/-- a new object: H' tracks it at p, all else as it was -/
theorem Rel.push (r : Rel D m h H) {p : Addr} {o : AO} (n : H p = none) (k : Keep H H') (st : ∀ a u, H a = some u → H' a = some u) (ho : OR D (m ++ [p]) H' p o) : Rel D (m ++ [p]) (h ++ [o]) H' := by
  have pre : m <+: m ++ [p] := ⟨[p], rfl⟩
  have np := r.free n
  refine ⟨by simp [r.len], ?_, fun i q a e1 e2 => ?_, fun q hq => ⟨st _ _ (r.hd q hq).1, fun z => ?_⟩⟩
  · exact List.nodup_append.mpr ⟨r.nd, by simp, fun a ha b hb => by
      have e : b = p := by simpa using hb
      subst e; exact fun z => np (z ▸ ha)⟩
  · by_cases hi : i < h.length
    · rw [List.getElem?_append_left hi] at e1
      rw [List.getElem?_append_left (by rw [r.len]; exact hi)] at e2
      exact (r.ob i q a e1 e2).stay pre k (st a)
    · have e1' : i = h.length := by
        have z := (List.getElem?_eq_some_iff.mp e1).1
        simp at z; omega
      subst e1'
      simp at e1
      subst e1
      rw [← r.len] at e2
      simp at e2
      subst e2
      exact ho
  · rcases List.mem_append.mp z with z | z
    · exact (r.hd q hq).2 z
    · have e : q.1 = p := by simpa using z
      have y := (r.hd q hq).1
      rw [e, n] at y; cases y
/-- something new that is not told -/
theorem Rel.fresh (r : Rel D m h H) {p : Addr} {o : HO} (n : H p = none) : Rel D m h (upd H p o) :=
  ⟨r.len, r.nd, fun i q a e1 e2 => (r.ob i q a e1 e2).stay (List.prefix_refl m) (Keep.new n) (st_new n a), fun q hq => ⟨st_new n _ _ (r.hd q hq).1, (r.hd q hq).2⟩⟩
/-- an object changed -/
theorem Rel.put (r : Rel D m h H) {i : Nat} {p : Addr} {o : AO} (e : m[i]? = some p) (k : Keep H H') (st : ∀ a, a ≠ p → ∀ u, H a = some u → H' a = some u) (ho : OR D m H' p o) : Rel D m (h.set i o) H' := by
  refine ⟨by simp [r.len], r.nd, fun j q a e1 e2 => ?_, fun q hq => ⟨st _ (fun z => (r.hd q hq).2 (by rw [z]; exact List.mem_of_getElem? e)) _ (r.hd q hq).1, (r.hd q hq).2⟩⟩
  by_cases hij : j = i
  · subst hij
    rw [e] at e2; cases e2
    have hl : j < h.length := by rw [← r.len]; exact (List.getElem?_eq_some_iff.mp e).1
    rw [List.getElem?_set_self hl] at e1
    cases e1
    exact ho
  · rw [List.getElem?_set_ne (Ne.symm hij)] at e1
    have hp : a ≠ p := fun z => hij (nd_get r.nd (z ▸ e2) e)
    exact (r.ob j q a e1 e2).stay (List.prefix_refl m) k (st a hp)
/-- more is not told -/
theorem Rel.hide (r : Rel D m h H) {p : Addr} {o : HO} (e : H p = some o) (n : p ∉ m) : Rel ⟨D.K, D.cls, (p, o) :: D.hid⟩ m h H :=
  ⟨r.len, r.nd, fun i q a e1 e2 => by
    have z := r.ob i q a e1 e2
    cases q <;> exact z, fun q hq => by
    rcases List.mem_cons.mp hq with rfl | hq
    · exact ⟨e, n⟩
    · exact r.hd q hq⟩
theorem Rel.show_ {p : Addr} {o : HO} {hid : Hid} {K : PySem.W.Frag} {cls : Nat → Addr} (r : Rel ⟨K, cls, (p, o) :: hid⟩ m h H) : H p = some o ∧ p ∉ m ∧ Rel ⟨K, cls, hid⟩ m h H :=
  ⟨(r.hd (p, o) (List.mem_cons_self)).1, (r.hd (p, o) (List.mem_cons_self)).2, ⟨r.len, r.nd, fun i q a e1 e2 => by
    have z := r.ob i q a e1 e2
    cases q <;> exact z, fun q hq => r.hd q (List.mem_cons_of_mem _ hq)⟩⟩
/-- what is not told changes -/
theorem Rel.side (r : Rel D m h H) {p : Addr} {o : HO} (k : Keep H (upd H p o)) (n : p ∉ m) (nh : ∀ q ∈ D.hid, q.1 ≠ p) : Rel D m h (upd H p o) :=
  ⟨r.len, r.nd, fun i q a e1 e2 => (r.ob i q a e1 e2).stay (List.prefix_refl m) k fun u e => by
    have na : a ≠ p := fun z => n (by rw [← z]; exact List.mem_of_getElem? e2)
    rw [upd_ne na]; exact e, fun q hq => ⟨by rw [upd_ne (nh q hq)]; exact (r.hd q hq).1, (r.hd q hq).2⟩⟩
end
/-- slots -/
def RelS (K : PySem.W.Frag) (m : List Addr) (H : Hp) (σ' : Sl) (σ : L2.St) : Prop := σ'.length = σ.length ∧ ∀ (i : Nat) (v : AV), σ'[i]? = some (some v) → ∃ u : V, σ[i]? = some (some u) ∧ VR K m H v u
theorem RelS.mono {K : PySem.W.Frag} {m m' : List Addr} {H H' : Hp} {σ' : Sl} {σ : L2.St} (p : m <+: m') (k : Keep H H') (r : RelS K m H σ' σ) : RelS K m' H' σ' σ :=
  ⟨r.1, fun i v e => let ⟨u, e1, h⟩ := r.2 i v e; ⟨u, e1, VR.mono p k _ _ h⟩⟩
theorem RelS.set {K : PySem.W.Frag} {m : List Addr} {H : Hp} {σ' : Sl} {σ : L2.St} {v : AV} {u : V} (r : RelS K m H σ' σ) (i : Nat) (h : VR K m H v u) : RelS K m H (σ'.set i (some v)) (σ.set i (some u)) := by
  refine ⟨by simp [r.1], fun j w e => ?_⟩
  by_cases hj : j = i
  · subst hj
    have hl : j < σ'.length := by simpa using (List.getElem?_eq_some_iff.mp e).1
    rw [List.getElem?_set_self hl] at e
    cases e
    exact ⟨u, List.getElem?_set_self (by rw [← r.1]; exact hl), h⟩
  · rw [List.getElem?_set_ne (Ne.symm hj)] at e
    obtain ⟨x, e1, h1⟩ := r.2 j w e
    exact ⟨x, by rw [List.getElem?_set_ne (Ne.symm hj)]; exact e1, h1⟩
theorem RelS.unset {K : PySem.W.Frag} {m : List Addr} {H : Hp} {σ' : Sl} {σ : L2.St} {x : Option V} (r : RelS K m H σ' σ) (i : Nat) : RelS K m H (σ'.set i none) (σ.set i x) := by
  refine ⟨by simp [r.1], fun j w e => ?_⟩
  by_cases hj : j = i
  · subst hj
    have hl : j < σ'.length := by simpa using (List.getElem?_eq_some_iff.mp e).1
    rw [List.getElem?_set_self hl] at e
    cases e
  · rw [List.getElem?_set_ne (Ne.symm hj)] at e
    obtain ⟨x, e1, h1⟩ := r.2 j w e
    exact ⟨x, by rw [List.getElem?_set_ne (Ne.symm hj)]; exact e1, h1⟩
theorem RelS.wipe {K : PySem.W.Frag} {m : List Addr} {H : Hp} {σ' : Sl} {σ : L2.St} (r : RelS K m H σ' σ) : ∀ vs : List Nat, RelS K m H (wipeA σ' vs) (L2.wipe σ vs)
  | [] => r
  | v :: vs => by
    unfold wipeA L2.wipe
    exact (RelS.wipe r vs).unset v

/-- an exception's fields -/
def ExOk (K : PySem.W.Frag) (m : List Addr) (H : Hp) (fs : Fs) (d : Option Addr) : Prop := fs = [] ∨ ∃ x gs, d = some x ∧ H x = some (.xd gs) ∧ KVR K m H fs gs
/-- what is to be shown of a result -/
def Post {α β : Type} (D : Dm) (m : List Addr) (H : Hp) (rel : List Addr → Hp → α → β → Prop) (r : R α) (Q : β → Hp → Prop) (E : XK) : Prop := match r with
  | .ok v h' => ∀ m' H' u, m <+: m' → Keep H H' → Rel D m' h' H' → rel m' H' v u → Q u H'
  | .ex c fs h' => ∀ m' H' d, m <+: m' → Keep H H' → Rel D m' h' H' → ExOk D.K m' H' fs d → E (.ref (D.cls c)) d H'
  | .bad => False
abbrev relV (K : PySem.W.Frag) : List Addr → Hp → AV → V → Prop := fun m H x u => VR K m H x u
abbrev relVs (K : PySem.W.Frag) : List Addr → Hp → List AV → List V → Prop := fun m H x u => VRs K m H x u
abbrev relB : List Addr → Hp → Bool → Bool → Prop := fun _ _ x u => x = u
theorem Post.mono {α β : Type} {D : Dm} {m m1 : List Addr} {H H1 : Hp} {rel : List Addr → Hp → α → β → Prop} {r : R α} {Q : β → Hp → Prop} {E : XK} (p : m <+: m1) (k : Keep H H1) (h : Post D m H rel r Q E) : Post D m1 H1 rel r Q E := by
  cases r with
  | ok v h' => exact fun m' H' u a b c d => h m' H' u (p.trans a) (k.trans b) c d
  | ex c fs h' => exact fun m' H' u a b c d => h m' H' u (p.trans a) (k.trans b) c d
  | bad => exact h
/-- in a row -/
theorem Post.bind {α β γ δ : Type} {D : Dm} {m : List Addr} {H : Hp} {rel : List Addr → Hp → α → β → Prop} {rel2 : List Addr → Hp → γ → δ → Prop} {r : R α} {f : α → AH → R γ} {Q : β → Hp → Prop} {Q2 : δ → Hp → Prop} {E : XK}
    (h : Post D m H rel2 (r.bind f) Q2 E) (g : ∀ v h1 m1 H1 u, r = .ok v h1 → m <+: m1 → Keep H H1 → Rel D m1 h1 H1 → rel m1 H1 v u → Post D m1 H1 rel2 (f v h1) Q2 E → Q u H1) : Post D m H rel r Q E := by
  cases r with
  | ok v h1 => exact fun m1 H1 u a b c d => g v h1 m1 H1 u rfl a b c d (h.mono a b)
  | ex c fs h' => exact h
  | bad => exact h
/-- a value at hand -/
theorem Post.now {α β : Type} {D : Dm} {m : List Addr} {H : Hp} {rel : List Addr → Hp → α → β → Prop} {v : α} {h' : AH} {u : β} {Q : β → Hp → Prop} {E : XK} (h : Post D m H rel (.ok v h') Q E) (r : Rel D m h' H) (q : rel m H v u) : Q u H :=
  h m H u (List.prefix_refl m) .rfl' r q
/-- a statement's result -/
def PostS (D : Dm) (m : List Addr) (H : Hp) (r : RS) (Dn : Ends) (W : WX) : Prop := match r with
  | .ok fl h' => ∀ m' H', m <+: m' → Keep H H' → Rel D m' h' H' → match fl with
    | .nx σ1 => ∀ σ2, RelS D.K m' H' σ1 σ2 → Dn.nx σ2 H'
    | .rt v => ∀ u, VR D.K m' H' v u → Dn.rt u H'
    | .bk σ1 => ∀ σ2, RelS D.K m' H' σ1 σ2 → Dn.bk σ2 H'
    | .ct σ1 => ∀ σ2, RelS D.K m' H' σ1 σ2 → Dn.ct σ2 H'
  | .ex c fs σ1 h' => ∀ m' H' d σ2, m <+: m' → Keep H H' → Rel D m' h' H' → RelS D.K m' H' σ1 σ2 → ExOk D.K m' H' fs d → W (.ref (D.cls c)) d σ2 H'
  | .bad => False
theorem PostS.mono {D : Dm} {m m1 : List Addr} {H H1 : Hp} {r : RS} {Dn : Ends} {W : WX} (p : m <+: m1) (k : Keep H H1) (h : PostS D m H r Dn W) : PostS D m1 H1 r Dn W := by
  cases r with
  | ok v h' => exact fun m' H' a b c => h m' H' (p.trans a) (k.trans b) c
  | ex c fs σ h' => exact fun m' H' d σ2 a b c => h m' H' d σ2 (p.trans a) (k.trans b) c
  | bad => exact h
/-- an expression within a statement -/
theorem PostS.to {α β : Type} {D : Dm} {m : List Addr} {H : Hp} {rel : List Addr → Hp → α → β → Prop} {r : R α} {σ' : Sl} {σ : L2.St} {f : α → AH → RS} {Q : β → Hp → Prop} {Dn : Ends} {W : WX} (rs : RelS D.K m H σ' σ)
    (h : PostS D m H (r.to σ' f) Dn W) (g : ∀ v h1 m1 H1 u, r = .ok v h1 → m <+: m1 → Keep H H1 → Rel D m1 h1 H1 → rel m1 H1 v u → PostS D m1 H1 (f v h1) Dn W → Q u H1) : Post D m H rel r Q (fun c d H' => W c d σ H') := by
  cases r with
  | ok v h1 => exact fun m1 H1 u a b c d => g v h1 m1 H1 u rfl a b c d (h.mono a b)
  | ex c fs h' => exact fun m1 H1 d a b c e => h m1 H1 d σ a b c (rs.mono a b) e
  | bad => exact h

abbrev dm (X : Cx) (cl : Nat → Addr) (hid : Hid) : Dm := ⟨X.K, cl, hid⟩
abbrev atW (W : WX) (σ : L2.St) : XK := fun c d H => W c d σ H
def PEm (cl : Nat → Addr) (X : Cx) (W : WX) (e : Expr) (f : SE) : Prop := Takes X W → ∃ t, PE X e t ∧ ∀ (hid : Hid) (m : List Addr) (h : AH) (H : Hp) (σ' : Sl) (σ : L2.St) (Q : VK),
  Rel (dm X cl hid) m h H → RelS X.K m H σ' σ → Post (dm X cl hid) m H (relV X.K) (f σ' h) Q (atW W σ) → t σ H Q
def PTm (cl : Nat → Addr) (X : Cx) (W : WX) (e : Expr) (f : SB) : Prop := Takes X W → ∃ t, PT X e t ∧ ∀ (hid : Hid) (m : List Addr) (h : AH) (H : Hp) (σ' : Sl) (σ : L2.St) (Q : Bool → Hp → Prop),
  Rel (dm X cl hid) m h H → RelS X.K m H σ' σ → Post (dm X cl hid) m H relB (f σ' h) Q (atW W σ) → t σ H Q
def PWm (cl : Nat → Addr) (X : Cx) (W : WX) (e : Expr) (f : SB) : Prop := Takes X W → ∃ t, PW X e t ∧ ∀ (hid : Hid) (m : List Addr) (h : AH) (H : Hp) (σ' : Sl) (σ : L2.St) (Q : Bool → Hp → Prop),
  Rel (dm X cl hid) m h H → RelS X.K m H σ' σ → Post (dm X cl hid) m H relB (f σ' h) Q (atW W σ) → t σ H Q
def PAm (cl : Nat → Addr) (X : Cx) (W : WX) (es : List Expr) (f : SA) : Prop := Takes X W → ∃ t, PA X es t ∧ ∀ (hid : Hid) (m : List Addr) (h : AH) (H : Hp) (σ' : Sl) (σ : L2.St) (Q : List V → Hp → Prop),
  Rel (dm X cl hid) m h H → RelS X.K m H σ' σ → Post (dm X cl hid) m H (relVs X.K) (f σ' h) Q (atW W σ) → t σ H Q
def PSm (cl : Nat → Addr) (X : Cx) (W : WX) (st : Stmt) (f : SS) : Prop := Takes X W → ∃ t, PS X st t ∧ ∀ (hid : Hid) (m : List Addr) (h : AH) (H : Hp) (σ' : Sl) (σ : L2.St) (Dn : Ends),
  Rel (dm X cl hid) m h H → RelS X.K m H σ' σ → PostS (dm X cl hid) m H (f σ' h) Dn W → t Dn σ H
def PSsm (cl : Nat → Addr) (X : Cx) (W : WX) (st : List Stmt) (f : SS) : Prop := Takes X W → ∃ t, PSs X st t ∧ ∀ (hid : Hid) (m : List Addr) (h : AH) (H : Hp) (σ' : Sl) (σ : L2.St) (Dn : Ends),
  Rel (dm X cl hid) m h H → RelS X.K m H σ' σ → PostS (dm X cl hid) m H (f σ' h) Dn W → t Dn σ H
/-- a target that stores into the slots js -/
def PGm (cl : Nat → Addr) (X : Cx) (tg : Expr) (g : SG) (js : List Nat) : Prop := ∃ t, PG X tg t ∧ ∀ (m : List Addr) (H : Hp) (σ' σ1 : Sl) (σ : L2.St) (v : AV) (u : V) (Q : L2.St → Hp → Prop),
  RelS X.K m H σ' σ → VR X.K m H v u → g v σ' = some σ1 → (∀ σ2 : L2.St, RelS X.K m H σ1 σ2 → σ2.length = σ.length → (∀ j, j ∉ js → σ2[j]? = σ[j]?) → Q σ2 H) → t u σ H Q
/-- what is walked: its iterator's answers -/
def SrcOk (D : Dm) (m : List Addr) (H : Hp) (s : Src) (J : It) : Prop := ∀ hid' m' h' H' i, m <+: m' → Keep H H' → Rel ⟨D.K, D.cls, hid'⟩ m' h' H' → match s.at i h' with
  | none => True
  | some none => J.stop i H'
  | some (some v) => J.go i H' ∧ ∀ x H'', J.yld i H' x H'' → H'' = H' ∧ VR D.K m' H'' v x
def PIm (cl : Nat → Addr) (X : Cx) (W : WX) (tg it : Expr) (f : SI) : Prop := Takes X W → ∃ wi, PI X tg it wi ∧ ∀ (hid : Hid) (m : List Addr) (h : AH) (H : Hp) (σ' : Sl) (σ : L2.St) (Rk : It → Hp → Prop),
  Rel (dm X cl hid) m h H → RelS X.K m H σ' σ → Post (dm X cl hid) m H (fun m H s J => SrcOk (dm X cl hid) m H s J) (f σ' h) Rk (atW W σ) → wi σ H Rk

/-- P, behind some things locked for good -/
inductive FH (P : Hp → Prop) : Hp → Prop
  | now {H : Hp} : P H → FH P H
  | lock {H : Hp} (d : Addr) (u : HO) : H d = some u → Mut (some u) → (∀ od, FH P (upd H d (.frz od u))) → FH P H
abbrev FQ (Q : VK) : VK := fun v H => FH (Q v) H
section
variable {X : Cx} {pins : List (Addr × Obj)} {σ : L2.St} {H : Hp} {s : Shared}
theorem inv_fh {P : Hp → Prop} (q : FH P H) : Inv X pins σ H s → ∃ H', Inv X pins σ H' s ∧ P H' := by
  induction q with
  | now h => exact fun I => ⟨_, I, h⟩
  | lock d u e mu _ ih => exact fun I => let ⟨od, I'⟩ := I.lock e mu; ih od I'
theorem ep_fq {Q : VK} {u : Value} (h : EP X pins σ (FQ Q) u s) : EP X pins σ Q u s := by
  obtain ⟨v, H', I, r, q⟩ := h
  obtain ⟨H2, I2, q2⟩ := inv_fh q I
  exact ⟨v, H2, I2, r, q2⟩
theorem fqE {e : Expr} {t : TE} (h : PE X e t) : PE X e (fun σ H Q => t σ H (FQ Q)) := ⟨fun pins s σ H Q I q => thn (h.run pins s σ H _ I q) fun _ _ z => ep_fq z⟩
/-- a statement's ends, behind locks -/
def fEnds (D : Ends) : Ends := ⟨fun σ H => FH (D.nx σ) H, fun v H => FH (D.rt v) H, fun σ H => FH (D.bk σ) H, fun σ H => FH (D.ct σ) H⟩
theorem fqS {st : Stmt} {t : TS} (h : PS X st t) : PS X st (fun D σ H => t (fEnds D) σ H) := ⟨fun pins s σ H D I q => thn (h.run pins s σ H _ I q) fun f s1 z => by
  cases f with
  | next => obtain ⟨σ', H', I', q'⟩ := z; obtain ⟨H2, I2, q2⟩ := inv_fh q' I'; exact ⟨σ', H2, I2, q2⟩
  | brk => obtain ⟨σ', H', I', q'⟩ := z; obtain ⟨H2, I2, q2⟩ := inv_fh q' I'; exact ⟨σ', H2, I2, q2⟩
  | cont => obtain ⟨σ', H', I', q'⟩ := z; obtain ⟨H2, I2, q2⟩ := inv_fh q' I'; exact ⟨σ', H2, I2, q2⟩
  | ret u => obtain ⟨v, σ', H', I', r, q'⟩ := z; obtain ⟨H2, I2, q2⟩ := inv_fh q' I'; exact ⟨v, σ', H2, I2, r, q2⟩⟩
end
section
variable {D : Dm} {m : List Addr} {H : Hp} {h : AH}
/-- a new list that is a value from now on -/
theorem vr_fl {K : PySem.W.Frag} {xs : List AV} {us : List V} {p : Addr} {od : Obj} (n : H p = none) (hx : VRs K m H xs us) : VR K m (upd H p (.frz od (.lst us))) (.fl xs) (.ref p) := ⟨p, us, rfl, ⟨od, upd_same⟩, VRs.mono (List.prefix_refl m) (Keep.new n) _ _ hx⟩
theorem fl_now {xs : List AV} {us : List V} {p : Addr} {h' : AH} {Q : V → Hp → Prop} {E : XK} (r : Rel D m h' H) (hx : VRs D.K m H xs us) (hq : Post D m H (relV D.K) (.ok (.fl xs) h') Q E) (n : H p = none) : FQ Q (.ref p) (upd H p (.lst us)) :=
  .lock p (.lst us) upd_same trivial fun od => .now (by rw [upd_upd]; exact hq m _ _ (List.prefix_refl m) (Keep.new n) (r.fresh n) (vr_fl n hx))
end
end Mi

namespace Mi
open PySem PySem.Spec PyProof.Rows L2
section
variable {cl : Nat → Addr} {X : Cx} {W : WX} {e a b c : Expr} {es : List Expr} {pos p : Pos} {x : Str}

theorem m_bad : PEm cl X W e sBad := fun _ => ⟨fun _ _ _ => False, ⟨fun _ _ _ _ _ _ h => h.elim⟩, fun _ _ _ _ _ _ _ _ _ h => h⟩
theorem m_var (i : Nat) (hN : X.N[i]? = some x := by rfl) (hv : Vis X.env.scope x := by first | exact Or.inl rfl | exact Or.inr (Or.inl rfl) | exact Or.inr (Or.inr rfl)) (hd : (x == ("__debug__" : Str)) = false := by decide)
    (hcd : (x == ("__classdict__" : Str)) = false := by decide) : PEm cl X W (.Name x pos) (sVar i) := fun _ => ⟨tVar i, pe_var hN hv hd hcd, fun hid m h H σ' σ Q r rs q => by
  unfold sVar at q
  split at q
  · rename_i v ev
    obtain ⟨u, e1, hu⟩ := rs.2 i v ev
    exact ⟨u, e1, q.now r hu⟩
  · exact q.elim⟩
theorem m_int {i : Int} {j : Nat} : PEm cl X W (.Constant (.int i) j pos) (sK (.int i)) := fun _ => ⟨_, pe_int, fun hid m h H σ' σ Q r rs q => q.now r rfl⟩
theorem m_bl {i : Bool} {j : Nat} : PEm cl X W (.Constant (.bool i) j pos) (sK (.bl i)) := fun _ => ⟨_, pe_bl, fun hid m h H σ' σ Q r rs q => q.now r rfl⟩
theorem m_non {j : Nat} : PEm cl X W (.Constant .none j pos) (sK .non) := fun _ => ⟨_, pe_non, fun hid m h H σ' σ Q r rs q => q.now r rfl⟩
theorem m_str {s : Str} {j : Nat} : PEm cl X W (.Constant (.str s) j pos) (sK (.str s)) := fun _ => ⟨_, pe_str, fun hid m h H σ' σ Q r rs q => q.now r rfl⟩
/-- a module's constant -/
theorem m_glob {v : AV} {y : V} {u : Value} (hg : Gl X x) (hm : X.mg x = some u) (r : RelV y u) (hv : ∀ m H, VR X.K m H v y) (hd : (x == ("__debug__" : Str)) = false := by decide) : PEm cl X W (.Name x pos) (sK v) :=
  fun _ => ⟨_, pe_glob hg hm r hd, fun hid m h H σ' σ Q rl rs q => q.now rl (hv m H)⟩

theorem m_nil : PAm cl X W [] aNil := fun _ => ⟨_, pa_nil, fun hid m h H σ' σ Q r rs q => q.now r (rel := relVs X.K) (v := []) rfl⟩
theorem m_cons {f : SE} {g : SA} (ha : PEm cl X W e f) (hr : PAm cl X W es g) (hs : starEach (e :: es) X.env = (false, eval e X.env) :: starEach es X.env := by rfl) : PAm cl X W (e :: es) (aCons f g) := fun tk => by
  obtain ⟨ta, h1, s1⟩ := ha tk
  obtain ⟨tr, h2, s2⟩ := hr tk
  refine ⟨_, pa_cons h1 h2 hs, fun hid m h H σ' σ Q r rs q => s1 hid m h H σ' σ _ r rs (Post.bind q fun v h1 m1 H1 u e1 p1 k1 r1 v1 q1 => ?_)⟩
  refine s2 hid m1 h1 H1 σ' σ _ r1 (rs.mono p1 k1) (Post.bind q1 fun vs h2 m2 H2 us e2 p2 k2 r2 v2 q2 => ?_)
  exact q2.now r2 (rel := relVs X.K) ⟨_, _, rfl, VR.mono p2 k2 _ _ v1, v2⟩
theorem seqOf_sq {D : Dm} {m : List Addr} {H : Hp} {h : AH} {v : AV} {u : V} {xs : List AV} (r : Rel D m h H) (hv : VR D.K m H v u) (e : seqOf v h = some xs) : ∃ p us, u = .ref p ∧ (SqL D.K H p us ∨ SqT D.K H p us) ∧ VRs D.K m H xs us := by
  cases v with
  | tup ys =>
    cases e
    obtain ⟨p, us, e1, h1, h2⟩ := hv
    exact ⟨p, us, e1, .inr (.inl (.inl h1)), h2⟩
  | ctp ss =>
    cases e
    obtain ⟨p, e1, h1⟩ := hv
    exact ⟨p, _, e1, .inr h1.sq, vrs_of_strs ss⟩
  | scr ns =>
    cases e
    obtain ⟨p, e1, h1⟩ := hv
    exact ⟨p, _, e1, .inl h1.sq, vrs_ints ns⟩
  | fl ys =>
    cases e
    obtain ⟨p, us, e1, ⟨o, h1⟩, h2⟩ := hv
    exact ⟨p, us, e1, .inl (.inl (.inr ⟨o, h1⟩)), h2⟩
  | ref i =>
    obtain ⟨p, h1, h2⟩ := hv
    simp only [seqOf] at e
    split at e
    · rename_i ys hy
      cases e
      obtain ⟨us, h3, h4⟩ := r.ob i _ p hy h1
      exact ⟨p, us, h2, .inl (SqL.of h3), h4⟩
    · cases e
  | _ => cases e
/-- a list's items, to be read -/
theorem lst_rd {D : Dm} {m : List Addr} {H : Hp} {h : AH} {v : AV} {u : V} {xs : List AV} (r : Rel D m h H) (hv : VR D.K m H v u) (e : lstOf v h = some xs) : ∃ p us, u = .ref p ∧ Rd H p (.lst us) ∧ VRs D.K m H xs us := by
  cases v with
  | fl ys =>
    cases e
    obtain ⟨p, us, e1, ⟨o, h1⟩, h2⟩ := hv
    exact ⟨p, us, e1, .inr ⟨o, h1⟩, h2⟩
  | ref i =>
    obtain ⟨p, h1, h2⟩ := hv
    simp only [lstOf] at e
    split at e
    · rename_i ys hy
      cases e
      obtain ⟨us, h3, h4⟩ := r.ob i _ p hy h1
      exact ⟨p, us, h2, .inl h3, h4⟩
    · cases e
  | _ => cases e
theorem lst_sq {D : Dm} {m : List Addr} {H : Hp} {h : AH} {v : AV} {u : V} {xs : List AV} (r : Rel D m h H) (hv : VR D.K m H v u) (e : lstOf v h = some xs) : ∃ p us, u = .ref p ∧ SqL D.K H p us ∧ VRs D.K m H xs us := by
  obtain ⟨p, us, e1, h1, h2⟩ := lst_rd r hv e
  exact ⟨p, us, e1, .inl h1, h2⟩
theorem m_star {f : SE} {g : SA} {sp : Pos} (ha : PEm cl X W e f) (hr : PAm cl X W es g) (hs : starEach (.Starred e sp :: es) X.env = (true, eval e X.env) :: starEach es X.env := by rfl) : PAm cl X W (.Starred e sp :: es) (aStar f g) := fun tk => by
  obtain ⟨ta, h1, s1⟩ := ha tk
  obtain ⟨tr, h2, s2⟩ := hr tk
  refine ⟨_, StX.pa_star h1 h2 hs, fun hid m h H σ' σ Q r rs q => s1 hid m h H σ' σ _ r rs (Post.bind q fun v h1 m1 H1 u e1 p1 k1 r1 v1 q1 => ?_)⟩
  split at q1
  · rename_i xs hx
    obtain ⟨p, us, e2, hq, hv⟩ := seqOf_sq r1 v1 hx
    refine ⟨p, us, e2, hq.symm, s2 hid m1 h1 H1 σ' σ _ r1 (rs.mono p1 k1) (Post.bind q1 fun vs h2 m2 H2 ws e2 p2 k2 r2 v2 q2 => ?_)⟩
    exact q2.now r2 (rel := relVs X.K) (VRs.append (VRs.mono p2 k2 _ _ hv) v2)
  · exact q1.elim

abbrev R2s := L2.St → R2
def OpRs (X : Cx) (f : Value → Value → Sem Value) (r : R2s) : Prop :=
  ∀ (pins : List (Addr × Obj)) (s : Shared) (σ : L2.St) (H : Hp) (x y : V) (v u : Value) (Q : VK), Inv X pins σ H s → RelV x v → RelV y u → r σ x y H Q →
    wpAny (model X.prog X.w) X.A (f v u) (EP X pins σ Q) X.xe s
theorem OpRs.fq {X : Cx} {f : Value → Value → Sem Value} {r : R2s} (h : OpRs X f r) : OpRs X f (fun σ x y H Q => r σ x y H (FQ Q)) := fun pins s σ H x y v u Q I rx ry q => thn (h pins s σ H x y v u _ I rx ry q) fun _ _ z => ep_fq z
theorem OpRs.of {f : Value → Value → Sem Value} {r : R2} (h : OpR X f r) : OpRs X f (fun _ => r) := h
theorem OpRs.or {f : Value → Value → Sem Value} {r r' : R2s} (h : OpRs X f r) (h' : OpRs X f r') : OpRs X f (fun σ x y H Q => r σ x y H Q ∨ r' σ x y H Q) := fun pins s σ H x y v u Q I rx ry q =>
  q.elim (h pins s σ H x y v u Q I rx ry) (h' pins s σ H x y v u Q I rx ry)
def tOps (r : R2s) (ta tb : TE) : TE := fun σ H Q => ta σ H fun x H1 => tb σ H1 fun y H2 => r σ x y H2 Q
/-- an operator's shadow f: of any two related values -/
def BinOk (cl : Nat → Addr) (X : Cx) (W : WX) (g : Value → Value → Sem Value) (f : AV → AV → AH → R AV) : Prop := Takes X W → ∃ r : R2s, OpRs X g r ∧
  ∀ (hid : Hid) (m : List Addr) (h : AH) (H : Hp) (σ : L2.St) (x y : AV) (u v : V) (Q : VK), Rel (dm X cl hid) m h H → VR X.K m H x u → VR X.K m H y v → Post (dm X cl hid) m H (relV X.K) (f x y h) Q (atW W σ) → r σ u v H Q
theorem op2_post {D : Dm} {m : List Addr} {h : AH} {H : Hp} {σ' : Sl} {f : AV → AV → AH → R AV} {fa fb : SE} {Q : VK} {E : XK} (q : Post D m H (relV D.K) (op2 f fa fb σ' h) Q E) {Q1 : VK}
    (k : ∀ x h1 m1 H1 u, m <+: m1 → Keep H H1 → Rel D m1 h1 H1 → VR D.K m1 H1 x u → Post D m1 H1 (relV D.K) ((fb σ' h1).bind fun y h2 => f x y h2) Q E → Q1 u H1) : Post D m H (relV D.K) (fa σ' h) Q1 E :=
  Post.bind q fun x h1 m1 H1 u _ p1 k1 r1 v1 q1 => k x h1 m1 H1 u p1 k1 r1 v1 q1
theorem m_bin {op : Operator} {f : AV → AV → AH → R AV} {fa fb : SE} (ho : BinOk cl X W (binaryOp op) f) (ha : PEm cl X W a fa) (hb : PEm cl X W b fb) : PEm cl X W (.BinOp a op b pos) (op2 f fa fb) := fun tk => by
  obtain ⟨r, hr, sr⟩ := ho tk
  obtain ⟨ta, h1, s1⟩ := ha tk
  obtain ⟨tb, h2, s2⟩ := hb tk
  refine ⟨tOps r ta tb, ⟨fun pins s σ H Q I h => wpAny_BinOp (binT h1 h2 I h fun v u s2 x y H2 I2 rx ry q => hr pins s2 σ H2 x y v u Q I2 rx ry q)⟩, fun hid m h H σ' σ Q rl rs q => ?_⟩
  refine s1 hid m h H σ' σ _ rl rs (op2_post q fun x h1 m1 H1 u p1 k1 r1 v1 q1 => ?_)
  refine s2 hid m1 h1 H1 σ' σ _ r1 (rs.mono p1 k1) (Post.bind q1 fun y h2 m2 H2 v _ p2 k2 r2 v2 q2 => ?_)
  exact sr hid m2 h2 H2 σ x y u v Q r2 (VR.mono p2 k2 _ _ v1) v2 q2
theorem m_cmp {op : CmpOp} {f : AV → AV → AH → R AV} {fa fb : SE} (ho : BinOk cl X W (compareOp op) f) (ha : PEm cl X W a fa) (hb : PEm cl X W b fb) (hm : behindInMarks op b = false := by rfl) : PEm cl X W (.Compare a [op] [b] pos) (op2 f fa fb) := fun tk => by
  obtain ⟨r, hr, sr⟩ := ho tk
  obtain ⟨ta, h1, s1⟩ := ha tk
  obtain ⟨tb, h2, s2⟩ := hb tk
  refine ⟨tOps r ta tb, ⟨fun pins s σ H Q I h => wpAny_Compare1 (binT h1 h2 I h fun v u s2 x y H2 I2 rx ry q => hr pins s2 σ H2 x y v u Q I2 rx ry q) hm⟩, fun hid m h H σ' σ Q rl rs q => ?_⟩
  refine s1 hid m h H σ' σ _ rl rs (op2_post q fun x h1 m1 H1 u p1 k1 r1 v1 q1 => ?_)
  refine s2 hid m1 h1 H1 σ' σ _ r1 (rs.mono p1 k1) (Post.bind q1 fun y h2 m2 H2 v _ p2 k2 r2 v2 q2 => ?_)
  exact sr hid m2 h2 H2 σ x y u v Q r2 (VR.mono p2 k2 _ _ v1) v2 q2
/-- a comparison as a test -/
theorem mt_cmp {op : CmpOp} {f : AV → AV → AH → R AV} {fa fb : SE} (ho : BinOk cl X W (compareOp op) f) (ha : PEm cl X W a fa) (hb : PEm cl X W b fb) (hm : behindInMarks op b = false := by rfl) : PTm cl X W (.Compare a [op] [b] pos) (tBl (op2 f fa fb)) := fun tk => by
  obtain ⟨r, hr, sr⟩ := ho tk
  obtain ⟨ta, h1, s1⟩ := ha tk
  obtain ⟨tb, h2, s2⟩ := hb tk
  refine ⟨tTest (tOps r ta tb), ⟨fun pins s σ H Q I h => ?_⟩, fun hid m h H σ' σ Q rl rs q => ?_⟩
  · refine wpAny_isTrue_Compare1 (thn (h1.run pins s σ H _ I h) fun v s1 ⟨x, H1, I1, r1, q1⟩ => thn (h2.run pins s1 σ H1 _ I1 q1) fun u s2 ⟨y, H2, I2, r2, q2⟩ =>
      thn (hr pins s2 σ H2 x y v u _ I2 r1 r2 q2) fun c s3 ⟨z, H3, I3, r3, k, e, q3⟩ => ?_) hm
    subst e
    cases r3
    exact wpAny_truthy_bool ⟨H3, I3, q3⟩
  · unfold tBl at q
    have q' : Post (dm X cl hid) m H (relV X.K) (op2 f fa fb σ' h) (fun x H' => ∃ k, x = .bl k ∧ Q k H') (atW W σ) := Post.bind q fun v h1 m1 H1 u ev p1 k1 r1 v1 q1 => by
      cases v with
      | bl b => exact ⟨b, v1, q1.now r1 rfl⟩
      | _ => exact q1.elim
    refine s1 hid m h H σ' σ _ rl rs (op2_post q' fun x h1 m1 H1 u p1 k1 r1 v1 q1 => ?_)
    refine s2 hid m1 h1 H1 σ' σ _ r1 (rs.mono p1 k1) (Post.bind q1 fun y h2 m2 H2 v _ p2 k2 r2 v2 q2 => ?_)
    exact sr hid m2 h2 H2 σ x y u v _ r2 (VR.mono p2 k2 _ _ v1) v2 q2

theorem BinOk.bad {g : Value → Value → Sem Value} : BinOk cl X W g (fun _ _ _ => .bad) := fun _ => ⟨fun _ _ _ _ _ => False, fun _ _ _ _ _ _ _ _ _ _ _ _ h => h.elim, fun _ _ _ _ _ _ _ _ _ _ _ _ _ q => q⟩
section
variable {D : Dm} {m : List Addr} {H : Hp} {h : AH}
theorem vr_lst (r : Rel D m h H) {i : Nat} {xs : List AV} {u : V} (hv : VR D.K m H (.ref i) u) (e : h[i]? = some (.lst xs)) : ∃ p us, u = .ref p ∧ m[i]? = some p ∧ H p = some (.lst us) ∧ VRs D.K m H xs us := by
  obtain ⟨p, h1, h2⟩ := hv
  obtain ⟨us, h3, h4⟩ := r.ob i _ p e h1
  exact ⟨p, us, h2, h1, h3, h4⟩
/-- a new object at hand -/
theorem Post.fresh {o : AO} {Q : VK} {E : XK} {p : Addr} {q : HO} (r : Rel D m h H) (hq : Post D m H (relV D.K) (new o h) Q E) (n : H p = none) (ho : OR D (m ++ [p]) (upd H p q) p o) : Q (.ref p) (upd H p q) :=
  hq (m ++ [p]) (upd H p q) (.ref p) ⟨[p], rfl⟩ (Keep.new n) (r.push n (Keep.new n) (st_new n) ho) ⟨p, by rw [← r.len]; simp, rfl⟩
theorem Post.newLst {xs : List AV} {us : List V} {Q : VK} {E : XK} (r : Rel D m h H) (hx : VRs D.K m H xs us) (hq : Post D m H (relV D.K) (new (.lst xs) h) Q E) : ∀ p, H p = none → Q (.ref p) (upd H p (.lst us)) :=
  fun p n => Post.fresh r hq n ⟨us, upd_same, VRs.mono ⟨[p], rfl⟩ (Keep.new n) _ _ hx⟩
theorem Post.newL {b : Bool} {xs : List AV} {us : List V} {Q : VK} {E : XK} (r : Rel D m h H) (hx : VRs D.K m H xs us) (hq : Post D m H (relV D.K) (newL b xs h) Q E) : ∀ p, H p = none → FQ Q (.ref p) (upd H p (.lst us)) := fun p n => by
  cases b with
  | true => exact .now (Post.newLst r hx hq p n)
  | false => exact fl_now r hx hq n
/-- a changed list -/
theorem Rel.lst (r : Rel D m h H) {i : Nat} {p : Addr} {us ws : List V} {ys : List AV} (e : m[i]? = some p) (hp : H p = some (.lst us)) (hw : VRs D.K m H ys ws) : Rel D m (h.set i (.lst ys)) (upd H p (.lst ws)) :=
  r.put e (Keep.chg hp trivial) (fun a na u z => by rw [upd_ne na]; exact z) ⟨ws, upd_same, VRs.mono (List.prefix_refl m) (Keep.chg hp trivial) _ _ hw⟩
end
theorem Post.newTup {D : Dm} {m : List Addr} {H : Hp} {h : AH} {xs : List AV} {us : List V} {Q : VK} {E : XK} (r : Rel D m h H) (hx : VRs D.K m H xs us) (hq : Post D m H (relV D.K) (.ok (.tup xs) h) Q E) : ∀ p, H p = none → Q (.ref p) (upd H p (.tup us)) := fun p n =>
  hq m (upd H p (.tup us)) (.ref p) (List.prefix_refl m) (Keep.new n) (r.fresh n) ⟨p, us, rfl, upd_same, VRs.mono (List.prefix_refl m) (Keep.new n) _ _ hx⟩
/-- list + list, each to be read -/
def rCatR : R2 := fun x y H Q => ∃ l b xs zs, x = .ref l ∧ y = .ref b ∧ Rd H l (.lst xs) ∧ Rd H b (.lst zs) ∧ xs.length + zs.length ≤ sizeLine ∧ ∀ p, H p = none → Q (.ref p) (upd H p (.lst (xs ++ zs)))
theorem op_catR : OpR X (binaryOp .Add) rCatR := by
  intro pins s σ H x y v u Q I rx ry h
  obtain ⟨l, b, xs, zs, rfl, rfl, hH, hB, hz, q⟩ := h
  cases rx
  cases ry
  obtain ⟨z, its, n, r, e⟩ := hH.ok I.hok
  obtain ⟨z2, its2, n2, r2, e2⟩ := hB.ok I.hok
  have hl := r.length
  have hl2 := r2.length
  refine PySem.P.add_list e e2 ?_ (by rw [List.size_toArray, List.size_toArray]; omega)
  have ea : its.toArray ++ its2.toArray = (its ++ its2).toArray := by simp
  rw [ea]
  exact ⟨.ref _, _, I.lnew (t' := s.toks) (r.append r2) (by rw [List.length_append]; omega), rfl, q _ I.fresh⟩
theorem k_add (b : Bool) : BinOk cl X W (binaryOp .Add) (oAdd b) := fun _ => ⟨_, (OpRs.of op_add).or ((OpRs.of op_add_str).or ((OpRs.of op_catR).fq.or ((OpRs.of op_catT).or (OpRs.of op_catA)))), fun hid m h H σ x y u v Q r hx hy q => by
  unfold oAdd at q
  split at q
  · exact .inl ⟨_, _, hx, hy, q.now r rfl⟩
  · split at q
    · rename_i hl
      exact .inr (.inl ⟨_, _, hx, hy, hl, q.now r rfl⟩)
    · exact q.elim
  · split at q
    · rename_i ss ys hl
      obtain ⟨p, e1, h1⟩ := hx
      have h1 := h1.sq
      obtain ⟨p', us', e3, h3, h4⟩ := hy
      have hn : us' ≠ [] := fun z => by
        have y := h4.length
        rw [z] at y
        exact hl.2.1 (List.length_eq_zero_iff.mp y.symm)
      exact .inr (.inr (.inr (.inl ⟨p, p', _, us', e1, e3, h1, .inl (.inl h3), fun z => hl.1 (List.map_eq_nil_iff.mp z), by rw [List.length_map, h4.length]; exact hl.2.2, fun z => (hn z).elim, fun _ => Post.newTup r ((vrs_of_strs ss).append h4) q⟩)))
    · exact q.elim
  · split at q
    · rename_i ss ss2 hl
      obtain ⟨p, e1, h1⟩ := hx
      obtain ⟨p', e3, h3⟩ := hy
      exact .inr (.inr (.inr (.inl ⟨p, p', _, _, e1, e3, h1.sq, h3.sq, fun z => hl.1 (List.map_eq_nil_iff.mp z), by rw [List.length_map, List.length_map]; exact hl.2.2, fun z => (hl.2.1 (List.map_eq_nil_iff.mp z)).elim, fun _ => Post.newTup r ((vrs_of_strs ss).append (vrs_of_strs ss2)) q⟩)))
    · exact q.elim
  · split at q
    · rename_i xs ys hl
      obtain ⟨p, us, e1, h1, h2⟩ := hx
      obtain ⟨p', us', e3, h3, h4⟩ := hy
      refine .inr (.inr (.inr (.inr ⟨p, p', us, us', e1, e3, .inl (.inl h1), .inl (.inl h3), by rw [h2.length, h4.length]; exact hl, fun z => ?_, fun z y => ?_, fun _ _ => Post.newTup r (h2.append h4) q⟩)))
      · have e : xs = [] := List.length_eq_zero_iff.mp (by rw [← h2.length, z]; rfl)
        subst e
        exact q.now r ⟨p', us', e3 ▸ rfl, h3, h4⟩
      · have e : ys = [] := List.length_eq_zero_iff.mp (by rw [← h4.length, y]; rfl)
        subst e
        rw [List.append_nil] at q
        exact q.now r ⟨p, us, e1 ▸ rfl, h1, h2⟩
    · exact q.elim
  · split at q
    · rename_i xs ys e1 e2
      split at q
      · rename_i hl
        obtain ⟨p, us, e3, h3, h4⟩ := lst_rd r hx e1
        obtain ⟨p', us', e3', h3', h4'⟩ := lst_rd r hy e2
        exact .inr (.inr (.inl ⟨p, p', us, us', e3, e3', h3, h3', by rw [h4.length, h4'.length]; exact hl, Post.newL r (h4.append h4') q⟩))
      · exact q.elim
    · exact q.elim⟩
theorem k_mul : BinOk cl X W (binaryOp .Mult) oMul := fun _ => ⟨_, OpRs.of op_mul, fun hid m h H σ x y u v Q r hx hy q => by
  unfold oMul at q
  split at q
  · split at q
    · rename_i hl
      exact ⟨_, _, hx, hy, hl, q.now r rfl⟩
    · exact q.elim
  · exact q.elim⟩
theorem k_div : BinOk cl X W (binaryOp .FloorDiv) oDiv := fun _ => ⟨_, OpRs.of op_fdiv, fun hid m h H σ x y u v Q r hx hy q => by
  unfold oDiv at q
  split at q
  · split at q
    · rename_i hl
      exact ⟨_, _, hx, hy, hl, q.now r rfl⟩
    · exact q.elim
  · exact q.elim⟩
theorem k_mod : BinOk cl X W (binaryOp .Mod) oMod := fun _ => ⟨_, OpRs.of op_mod, fun hid m h H σ x y u v Q r hx hy q => by
  unfold oMod at q
  split at q
  · split at q
    · rename_i hl
      exact ⟨_, _, hx, hy, hl, q.now r rfl⟩
    · exact q.elim
  · exact q.elim⟩
theorem k_pow : BinOk cl X W (binaryOp .Pow) oPow := fun _ => ⟨_, OpRs.of op_pow, fun hid m h H σ x y u v Q r hx hy q => by
  unfold oPow at q
  split at q
  · split at q
    · rename_i hl
      exact ⟨_, _, hx, hy, hl, q.now r rfl⟩
    · exact q.elim
  · exact q.elim⟩
theorem k_lt : BinOk cl X W (compareOp .Lt) oLt := fun _ => ⟨_, OpRs.of op_lt, fun hid m h H σ x y u v Q r hx hy q => by
  unfold oLt at q
  split at q
  · exact ⟨_, _, hx, hy, q.now r rfl⟩
  · exact q.elim⟩
theorem k_gt : BinOk cl X W (compareOp .Gt) oGt := fun _ => ⟨_, OpRs.of op_gt, fun hid m h H σ x y u v Q r hx hy q => by
  unfold oGt at q
  split at q
  · exact ⟨_, _, hx, hy, q.now r rfl⟩
  · exact q.elim⟩
theorem k_ge : BinOk cl X W (compareOp .GtE) oGe := fun _ => ⟨_, OpRs.of op_ge, fun hid m h H σ x y u v Q r hx hy q => by
  unfold oGe at q
  split at q
  · exact ⟨_, _, hx, hy, q.now r rfl⟩
  · exact q.elim⟩
theorem vr_nn {K : PySem.W.Frag} {m : List Addr} {H : Hp} {v : AV} {u : V} (hv : VR K m H v u) (h : v ≠ .non) : u ≠ .non := by
  cases v with
  | non => exact (h rfl).elim
  | bl _ => rw [show u = _ from hv]; exact fun z => nomatch z
  | int _ => rw [show u = _ from hv]; exact fun z => nomatch z
  | str _ => rw [show u = _ from hv]; exact fun z => nomatch z
  | ref _ => obtain ⟨_, _, e⟩ := hv; rw [e]; exact fun z => nomatch z
  | scr _ => obtain ⟨_, e, _⟩ := hv; rw [e]; exact fun z => nomatch z
  | fl _ => obtain ⟨_, _, e, _⟩ := hv; rw [e]; exact fun z => nomatch z
  | fk _ _ => obtain ⟨_, _, e, _⟩ := hv; rw [e]; exact fun z => nomatch z
  | ft _ _ => obtain ⟨_, _, e, _⟩ := hv; rw [e]; exact fun z => nomatch z
  | ctp _ => obtain ⟨_, e, _⟩ := hv; rw [e]; exact fun z => nomatch z
  | tup _ => obtain ⟨_, _, e, _⟩ := hv; rw [e]; exact fun z => nomatch z
/-- x is None, x is not None -/
def oIs (x y : AV) (h : AH) : R AV := match y with
  | .non => oIsN x h
  | _ => .bad
def oIsNot (x y : AV) (h : AH) : R AV := match y with
  | .non => oNotN x h
  | _ => .bad
theorem k_is : BinOk cl X W (compareOp .Is) oIs := fun _ => ⟨_, OpRs.of op_isN, fun hid m h H σ x y u v Q r hx hy q => by
  unfold oIs at q
  split at q
  · refine ⟨hy, ?_⟩
    unfold oIsN at q
    split at q
    · rw [show u = .non from hx]; exact q.now r rfl
    · rename_i hn
      have z := vr_nn hx hn
      rw [decide_eq_false z]; exact q.now r rfl
  · exact q.elim⟩
theorem k_isnot : BinOk cl X W (compareOp .IsNot) oIsNot := fun _ => ⟨_, OpRs.of op_notN, fun hid m h H σ x y u v Q r hx hy q => by
  unfold oIsNot at q
  split at q
  · refine ⟨hy, ?_⟩
    unfold oNotN at q
    split at q
    · rw [show u = .non from hx]; exact q.now r rfl
    · rename_i hn
      have z := vr_nn hx hn
      rw [decide_eq_false z]; exact q.now r rfl
  · exact q.elim⟩
end
end Mi

namespace Mi
open PySem PySem.Spec PyProof.Rows L2

theorem dat_dp {D : Dm} {m : List Addr} {H : Hp} {h : AH} (r : Rel D m h H) : ∀ (n : Nat) (v : AV) (u : V) (d : PyData), dat n h v = some d → VR D.K m H v u → Dp D.K H u d
  | 0, _, _, _, e, _ => by cases e
  | n + 1, v, u, d, e, hv => by
    have all : ∀ (xs : List AV) (us : List V) (ds : List PyData), omap (dat n h) xs = some ds → VRs D.K m H xs us → DpAll D.K H us ds := by
      intro xs
      induction xs with
      | nil => intro us ds e hv; cases e; rw [show us = [] from hv]; exact .nil
      | cons x xs ih =>
        intro us ds e hv
        obtain ⟨u, r', eu, h1, h2⟩ := hv
        subst eu
        simp only [omap] at e
        split at e
        · cases e
        · rename_i y hy
          split at e
          · cases e
          · rename_i ys hys
            cases e
            exact .cons (dat_dp r n x u y hy h1) (ih _ _ hys h2)
    cases v with
    | non => cases e; rw [show u = _ from hv]; exact .non
    | bl b => cases e; rw [show u = _ from hv]; exact .bl b
    | int b => cases e; rw [show u = _ from hv]; exact .int b
    | str b => cases e; rw [show u = _ from hv]; exact .str b
    | tup xs =>
      obtain ⟨p, us, e1, h1, h2⟩ := hv
      subst e1
      simp only [dat, Option.map_eq_some_iff] at e
      obtain ⟨ds, e2, rfl⟩ := e
      exact .tup (.inl (.inl h1)) (all _ _ _ e2 h2)
    | ctp ss =>
      cases e
      obtain ⟨p, e1, h1⟩ := hv
      subst e1
      refine .tup h1.sq ?_
      clear h1
      induction ss with
      | nil => exact .nil
      | cons k ks ih => exact .cons (.str k) ih
    | scr ns =>
      cases e
      obtain ⟨p, e1, h1⟩ := hv
      subst e1
      refine .lst h1.sq ?_
      clear h1
      induction ns with
      | nil => exact .nil
      | cons k ks ih => exact .cons (.int k) ih
    | fl xs =>
      obtain ⟨p, us, e1, ⟨o, h1⟩, h2⟩ := hv
      subst e1
      simp only [dat, Option.map_eq_some_iff] at e
      obtain ⟨ds, e2, rfl⟩ := e
      exact .lst (.inl (.inr ⟨o, h1⟩)) (all _ _ _ e2 h2)
    | fk ks vs => cases e
    | ft ks vs => cases e
    | ref i =>
      simp only [dat] at e
      split at e
      · rename_i xs hx
        obtain ⟨p, us, e1, _, h1, h2⟩ := vr_lst r hv hx
        subst e1
        rw [Option.map_eq_some_iff] at e
        obtain ⟨ds, e2, rfl⟩ := e
        exact .lst (SqL.of h1) (all _ _ _ e2 h2)
      · cases e
section
variable {cl : Nat → Addr} {X : Cx} {W : WX} {C : CE} {k : Nat} {e a b c : Expr} {es : List Expr} {pos p apos : Pos} {x : Str}

theorem eqD_of {D : Dm} {m : List Addr} {H : Hp} {h : AH} {x y : AV} {u v : V} {b : Bool} (r : Rel D m h H) (hx : VR D.K m H x u) (hy : VR D.K m H y v) (e : eqD x y h = some b) :
    ∃ d e, Dp D.K H u d ∧ Dp D.K H v e ∧ SeqAt.shaped d = true ∧ SeqAt.shaped e = true ∧ b = PyData.eqv d e := by
  unfold eqD at e
  split at e
  · rename_i d1 d2 h1 h2
    split at e
    · rename_i hs
      cases e
      exact ⟨d1, d2, dat_dp r 9 _ _ _ h1 hx, dat_dp r 9 _ _ _ h2 hy, hs.1, hs.2, rfl⟩
    · cases e
  · cases e

/-- a def's promise: what its shadow g does -/
def spF (cl : Nat → Addr) (K : PySem.W.Frag) (g : List AV → AH → R AV) : Sp := fun vs H Q E => ∃ (hid : Hid) (m : List Addr) (h : AH) (as : List AV),
  Rel ⟨K, cl, hid⟩ m h H ∧ VRs K m H as vs ∧ Post ⟨K, cl, hid⟩ m H (relV K) (g as h) Q E
abbrev FnM (cl : Nat → Addr) (X : Cx) (k : Nat) (f : Addr) (g : List AV → AH → R AV) : Prop := FnR X.prog X.w X.K X.mg X.base (L2.CX X.prog X.w) k f (spF cl X.K g)
/-- the callee runs, what it raises is taken at the slots -/
theorem run_fnRs {pins : List (Addr × Obj)} {σ : L2.St} {H : Hp} {s : Shared} {k : Nat} {f : Addr} {sp : Sp} {Q : VK} {us : List Value} {vs : List V} (F : FnR X.prog X.w X.K X.mg X.base (L2.CX X.prog X.w) k f sp) (hr : Room k X.A) (tk : Takes X W) (I : Inv X pins σ H s) (r : Vals vs us) (h : sp vs H Q (atW W σ)) :
    codeAny (model X.prog X.w) X.A (.call (.ref f) ⟨us, []⟩) (fun r s' => match r with | .ok (.ret v) => EP X pins σ Q v s' | .ok _ => False | .error e => X.xe e s') s := by
  refine codeAny_mono (F X.A X.stack s H us vs Q (atW W σ) hr I.env0 r h) fun r s' hq => ?_
  cases r with
  | error e => exact passAt tk σ pins H s e s' I hq
  | ok fl =>
    cases fl with
    | ret u => exact I.after hq
    | next => exact False.elim hq
    | brk => exact False.elim hq
    | cont => exact False.elim hq
theorem m_call {f : Addr} {i : Nat} {fa : SA} (F : FnM cl X k f (C.call i)) (hr : Room k X.A) (hg : Gl X x) (hm : X.mg x = some (.ref f)) (hk : PySem.W.keepIn X.K (.ref f) = true) (ha : PAm cl X W (e :: es) fa)
    (hdb : (x == ("__debug__" : Str)) = false := by decide) (he : starEach (e :: es) X.env = (false, eval e X.env) :: starEach es X.env := by rfl) (hpl : (backTo pos (starEach es X.env)).any (·.1) = false := by rfl) :
    PEm cl X W (.Call (.Name x p) (e :: es) [] pos) (sCall C i fa) := fun tk => by
  obtain ⟨ta, h1, s1⟩ := ha tk
  refine ⟨fun σ H Q => ta σ H fun vs H1 => spF cl X.K (C.call i) vs H1 Q (atW W σ), ⟨fun pins s σ H Q I h => ?_⟩, fun hid m h H σ' σ Q r rs q => ?_⟩
  · refine wpAny_Call_Name_kw (ld_glob I hg hm ?_ hdb)
    refine PySem.W.callWith_K (h₀ := X.base) I.ok.mod.kin hk (thn (h1.run pos pins s σ H _ I h) fun us s1 ⟨vs, H1, I1, r, q⟩ => ⟨I1.kIn, ?_⟩) he hpl
    exact wpAny_call (run_fnRs F hr tk I1 r q)
  · exact s1 hid m h H σ' σ _ r rs (Post.bind q fun vs h1 m1 H1 us _ p1 k1 r1 v1 q1 => ⟨hid, m1, h1, vs, r1, v1, q1⟩)
theorem m_call0 {f : Addr} {i : Nat} (F : FnM cl X k f (C.call i)) (hr : Room k X.A) (hg : Gl X x) (hm : X.mg x = some (.ref f)) (hk : PySem.W.keepIn X.K (.ref f) = true)
    (hdb : (x == ("__debug__" : Str)) = false := by decide) : PEm cl X W (.Call (.Name x p) [] [] pos) (sCall C i aNil) := fun tk => by
  refine ⟨fun σ H Q => spF cl X.K (C.call i) [] H Q (atW W σ), ⟨fun pins s σ H Q I h => ?_⟩, fun hid m h H σ' σ Q r rs q => ?_⟩
  · refine wpAny_Call_Name_kw (ld_glob I hg hm ?_ hdb)
    exact PySem.W.callWith_K0 I.kIn hk (wpAny_call (run_fnRs (us := []) (vs := []) F hr tk I .nil h))
  · exact ⟨hid, m, h, [], r, rfl, q⟩
/-- f( *y) -/
theorem m_callS1 {f : Addr} {i : Nat} {fe : SE} {sp_ : Pos} (F : FnM cl X k f (C.call i)) (hr : Room k X.A) (hg : Gl X x) (hm : X.mg x = some (.ref f)) (hk : PySem.W.keepIn X.K (.ref f) = true) (ha : PEm cl X W e fe)
    (hdb : (x == ("__debug__" : Str)) = false := by decide) (hst : starEach [.Starred e sp_] X.env = [(true, eval e X.env)] := by rfl) :
    PEm cl X W (.Call (.Name x p) [.Starred e sp_] [] pos) (sCall C i (aStar fe aNil)) := fun tk => by
  obtain ⟨ta, h1, s1⟩ := ha tk
  refine ⟨fun σ H Q => ta σ H fun y H1 => ∃ a xs, y = V.ref a ∧ (SqT X.K H1 a xs ∨ SqL X.K H1 a xs) ∧ spF cl X.K (C.call i) xs H1 Q (atW W σ), ⟨fun pins s σ H Q I h => ?_⟩, fun hid m h H σ' σ Q r rs q => ?_⟩
  · refine wpAny_Call_Name_kw (ld_glob I hg hm ?_ hdb)
    refine PySem.W.callWith_S (h₀ := X.base) I.ok.mod.kin hk (thn (h1.run pins s σ H _ I h) fun v s1 ⟨y, H1, I1, ry, a, xs, ey, hxs, q⟩ => ?_) hst
    subst ey
    obtain rfl : v = Value.ref a := ry
    exact StX.star_any I1 hxs fun us s2 I2 rv => ⟨I2.kIn, wpAny_call (run_fnRs F hr tk I2 rv q)⟩
  · refine s1 hid m h H σ' σ _ r rs ?_
    unfold sCall opN aStar at q
    cases hf : fe σ' h with
    | ok v h1 =>
      rw [hf] at q
      simp only [bind_ok] at q
      intro m1 H1 u p1 k1 r1 v1
      have q1 := Post.mono p1 k1 q
      split at q1
      · rename_i xs hx
        simp only [aNil, bind_ok, List.append_nil] at q1
        obtain ⟨p, us, e2, hq, hv⟩ := seqOf_sq r1 v1 hx
        exact ⟨p, us, e2, hq.symm, hid, m1, h1, xs, r1, hv, q1⟩
      · exact q1.elim
    | ex c fs h1 => rw [hf] at q; exact q
    | bad => rw [hf] at q; exact q

/-- what stands behind C() ahead of __init__ -/
theorem Rel.ins {D : Dm} {m : List Addr} {h : AH} {H : Hp} (r : Rel D m h H) {c : Nat} {x dx : Addr} (nx : H x = none) (ndx : H dx = none) (ne : dx ≠ x) :
    m <+: m ++ [x] ∧ Keep H (upd (upd H dx (.own x)) x (.ins (D.cls c) dx [])) ∧ Rel D (m ++ [x]) (h ++ [.ins c []]) (upd (upd H dx (.own x)) x (.ins (D.cls c) dx [])) := by
  have n2 : upd H dx (.own x) x = none := by rw [upd_ne (Ne.symm ne)]; exact nx
  have k : Keep H (upd (upd H dx (.own x)) x (.ins (D.cls c) dx [])) := (Keep.new ndx).trans (Keep.new n2)
  refine ⟨⟨[x], rfl⟩, k, r.push nx k (fun a u e => ?_) ⟨dx, [], upd_same, rfl⟩⟩
  rw [upd_ne (ne_of_none e nx), upd_ne (ne_of_none e ndx)]
  exact e
theorem mk_post {cl : Nat → Addr} {K : PySem.W.Frag} {m : List Addr} {h : AH} {H : Hp} {c i : Nat} {vs : List AV} {us : List V} {Q : VK} {E : XK} (r : Rel ⟨K, cl, hid⟩ m h H) (hv : VRs K m H vs us)
    (q : Post ⟨K, cl, hid⟩ m H (relV K) (match C.mak i (.ref h.length :: vs) (h ++ [.ins c []]) with
      | .ok .non h1 => .ok (.ref h.length) h1
      | .ex c fs h1 => .ex c fs h1
      | _ => .bad) Q E) : ∀ x dx, H x = none → H dx = none → dx ≠ x → spF cl K (C.mak i) (V.ref x :: us) (upd (upd H dx (.own x)) x (.ins (cl c) dx [])) (fun v H2 => v = .non ∧ Q (.ref x) H2) E := by
  intro x dx nx ndx ne
  obtain ⟨p1, k1, r1⟩ := Rel.ins (c := c) r nx ndx ne
  have hx : (m ++ [x])[h.length]? = some x := by rw [← r.len]; simp
  refine ⟨hid, m ++ [x], h ++ [.ins c []], .ref h.length :: vs, r1, ⟨_, us, rfl, ⟨x, hx, rfl⟩, VRs.mono p1 k1 _ _ hv⟩, ?_⟩
  split at q
  · rename_i h1 e1
    rw [e1]
    exact fun m' H' u a b c d => ⟨d, q m' H' (.ref x) (p1.trans a) (k1.trans b) c ⟨x, pre_get a hx, rfl⟩⟩
  · rename_i c' fs h1 e1
    rw [e1]
    exact fun m' H' u a b c d => q m' H' u (p1.trans a) (k1.trans b) c d
  · exact q.elim
theorem run_mk {pins : List (Addr × Obj)} {σ : L2.St} {H : Hp} {s : Shared} {Q : VK} {us : List Value} {vs : List V} {Ca f : Addr} {sp : Sp} (M : Mk X.K Ca f) (F : FnR X.prog X.w X.K X.mg X.base (L2.CX X.prog X.w) k f sp) (hr : Room (k + 1) X.A) (tk : Takes X W) (I : Inv X pins σ H s) (r : Vals vs us)
    (h : ∀ x dx, H x = Option.none → H dx = Option.none → dx ≠ x → sp (V.ref x :: vs) (upd (upd H dx (.own x)) x (.ins Ca dx [])) (fun v H2 => v = .non ∧ Q (.ref x) H2) (atW W σ)) :
    wpAny (model X.prog X.w) X.A (call (.ref Ca) us) (EP X pins σ Q) X.xe s := by
  have hq := h (s.heap.objs.size + 1) s.heap.objs.size (I.hok.fresh (Nat.le_succ _)) (I.hok.fresh (Nat.le_refl _)) (Nat.ne_of_lt (Nat.lt_succ_self _))
  have I2 := Inv.made (C := Ca) I
  have r2 : Vals (V.ref (s.heap.objs.size + 1) :: vs) (Value.ref (s.heap.objs.size + 1) :: us) := .cons rfl r
  refine wpAny_call (make_map (f := f) I.kIn M.makes M.init (beq_iff_eq.mp M.fn) (codeAny_mono (F _ X.stack _ _ (Value.ref (s.heap.objs.size + 1) :: us) _ _ (atW W σ) (hr.make Ca us []) (I2.env0.make Ca us []) r2 hq) fun r s' hq' => ?_))
  cases r with
  | error e => exact passAt tk σ pins _ _ e s' I2 hq'
  | ok fl =>
    cases fl with
    | ret u =>
      obtain ⟨v, H', I3, rv, ev, q3⟩ := I2.after hq'
      subst ev
      exact ⟨rv, ⟨V.ref (s.heap.objs.size + 1), H', I3, rfl, q3⟩⟩
    | next => exact False.elim hq'
    | brk => exact False.elim hq'
    | cont => exact False.elim hq'
theorem m_mk {f : Addr} {i c : Nat} {fa : SA} (M : Mk X.K (cl c) f) (F : FnM cl X k f (C.mak i)) (hr : Room (k + 1) X.A) (hg : Gl X x) (hm : X.mg x = some (.ref (cl c))) (ha : PAm cl X W (e :: es) fa)
    (hdb : (x == ("__debug__" : Str)) = false := by decide) (he : starEach (e :: es) X.env = (false, eval e X.env) :: starEach es X.env := by rfl) (hpl : (backTo pos (starEach es X.env)).any (·.1) = false := by rfl) :
    PEm cl X W (.Call (.Name x p) (e :: es) [] pos) (sMk C c i fa) := fun tk => by
  obtain ⟨ta, h1, s1⟩ := ha tk
  refine ⟨fun σ H Q => ta σ H fun vs H1 => ∀ x dx, H1 x = none → H1 dx = none → dx ≠ x → spF cl X.K (C.mak i) (V.ref x :: vs) (upd (upd H1 dx (.own x)) x (.ins (cl c) dx [])) (fun v H2 => v = .non ∧ Q (.ref x) H2) (atW W σ), ⟨fun pins s σ H Q I h => ?_⟩, fun hid m h H σ' σ Q r rs q => ?_⟩
  · refine wpAny_Call_Name_kw (ld_glob I hg hm ?_ hdb)
    refine PySem.W.callWith_K (h₀ := X.base) I.ok.mod.kin M.kp (thn (h1.run pos pins s σ H _ I h) fun us s1 ⟨vs, H1, I1, r, q⟩ => ⟨I1.kIn, ?_⟩) he hpl
    exact run_mk M F hr tk I1 r q
  · exact s1 hid m h H σ' σ _ r rs (Post.bind q fun vs h1 m1 H1 us _ p1 k1 r1 v1 q1 => mk_post r1 v1 q1)
theorem m_mk0 {f : Addr} {i c : Nat} (M : Mk X.K (cl c) f) (F : FnM cl X k f (C.mak i)) (hr : Room (k + 1) X.A) (hg : Gl X x) (hm : X.mg x = some (.ref (cl c)))
    (hdb : (x == ("__debug__" : Str)) = false := by decide) : PEm cl X W (.Call (.Name x p) [] [] pos) (sMk C c i aNil) := fun tk => by
  refine ⟨fun σ H Q => ∀ x dx, H x = none → H dx = none → dx ≠ x → spF cl X.K (C.mak i) [V.ref x] (upd (upd H dx (.own x)) x (.ins (cl c) dx [])) (fun v H2 => v = .non ∧ Q (.ref x) H2) (atW W σ), ⟨fun pins s σ H Q I h => ?_⟩, fun hid m h H σ' σ Q r rs q => ?_⟩
  · refine wpAny_Call_Name_kw (ld_glob I hg hm ?_ hdb)
    exact PySem.W.callWith_K0 I.kIn M.kp (run_mk (us := []) (vs := []) M F hr tk I .nil h)
  · exact mk_post (vs := []) (us := []) r rfl q
/-- C( *y) -/
theorem m_mkS1 {f : Addr} {i c : Nat} {fe : SE} {sp_ : Pos} (M : Mk X.K (cl c) f) (F : FnM cl X k f (C.mak i)) (hr : Room (k + 1) X.A) (hg : Gl X x) (hm : X.mg x = some (.ref (cl c))) (ha : PEm cl X W e fe)
    (hdb : (x == ("__debug__" : Str)) = false := by decide) (hst : starEach [.Starred e sp_] X.env = [(true, eval e X.env)] := by rfl) :
    PEm cl X W (.Call (.Name x p) [.Starred e sp_] [] pos) (sMk C c i (aStar fe aNil)) := fun tk => by
  obtain ⟨ta, h1, s1⟩ := ha tk
  refine ⟨fun σ H Q => ta σ H fun y H1 => ∃ a xs, y = V.ref a ∧ (SqT X.K H1 a xs ∨ SqL X.K H1 a xs) ∧ ∀ x dx, H1 x = none → H1 dx = none → dx ≠ x → spF cl X.K (C.mak i) (V.ref x :: xs) (upd (upd H1 dx (.own x)) x (.ins (cl c) dx [])) (fun v H2 => v = .non ∧ Q (.ref x) H2) (atW W σ),
    ⟨fun pins s σ H Q I h => ?_⟩, fun hid m h H σ' σ Q r rs q => ?_⟩
  · refine wpAny_Call_Name_kw (ld_glob I hg hm ?_ hdb)
    refine PySem.W.callWith_S (h₀ := X.base) I.ok.mod.kin M.kp (thn (h1.run pins s σ H _ I h) fun v s1 ⟨y, H1, I1, ry, a, xs, ey, hxs, q⟩ => ?_) hst
    subst ey
    obtain rfl : v = Value.ref a := ry
    exact StX.star_any I1 hxs fun us s2 I2 rv => ⟨I2.kIn, run_mk M F hr tk I2 rv q⟩
  · refine s1 hid m h H σ' σ _ r rs ?_
    unfold sMk opN aStar at q
    cases hf : fe σ' h with
    | ok v h1 =>
      rw [hf] at q
      simp only [bind_ok] at q
      intro m1 H1 u p1 k1 r1 v1
      have q1 := Post.mono p1 k1 q
      split at q1
      · rename_i xs hx
        simp only [aNil, bind_ok, List.append_nil] at q1
        obtain ⟨p, us, e2, hq, hv⟩ := seqOf_sq r1 v1 hx
        exact ⟨p, us, e2, hq.symm, mk_post r1 hv q1⟩
      · exact q1.elim
    | ex c fs h1 => rw [hf] at q; exact q
    | bad => rw [hf] at q; exact q
end
end Mi

namespace Mi
open PySem PySem.Spec PyProof.Rows L2
/-- the class c has for the operator d the def number i, under the name nm -/
structure DunF (cl : Nat → Addr) (X : Cx) (k : Nat) (C : CE) (nm : Str) (c i : Nat) (f : Addr) : Prop where
  at_ : PySem.W.findIn X.K (.ref (cl c)) nm = some (some (.ref f))
  fn : PySem.W.isFn X.K (.ref f) = true
  run : FnM cl X k f (C.call i)
  lk : PySem.W.fnIn X.K f = true
def DunT (cl : Nat → Addr) (X : Cx) (k : Nat) (C : CE) (d : Dn) (nm : Str) : Prop := ∀ c i, C.dn c d = some i → (∃ f, DunF cl X k C nm c i f) ∧ PySem.W.selfFirst X.K (cl c) = true ∧ PySem.W.noSeq X.K (cl c) = true
theorem DunT.none {cl : Nat → Addr} {X : Cx} {k : Nat} {C : CE} {d : Dn} {nm : Str} (h : ∀ c, C.dn c d = none) : DunT cl X k C d nm := fun c i e => by rw [h c] at e; cases e
section
variable {cl : Nat → Addr} {X : Cx} {W : WX} {C : CE} {k : Nat}
theorem cls_get {D : Dm} {m : List Addr} {H : Hp} {h : AH} {x : AV} {u : V} {c : Nat} {fs : Fs} (r : Rel D m h H) (hx : VR D.K m H x u) (e : cls? x h = some (c, fs)) : ∃ a dx gs, u = .ref a ∧ H a = some (.ins (D.cls c) dx gs) ∧ KVR D.K m H fs gs ∧ ∃ i, x = .ref i ∧ m[i]? = some a ∧ h[i]? = some (.ins c fs) := by
  cases x with
  | ref i =>
    simp only [cls?] at e
    split at e
    · rename_i c' fs' hi
      cases e
      obtain ⟨a, h1, h2⟩ := hx
      obtain ⟨dx, gs, h3, h4⟩ := r.ob i _ a hi h1
      exact ⟨a, dx, gs, h2, h3, h4, i, rfl, h1, hi⟩
    · cases e
  | _ => cases e
/-- x op y of two instances of one class -/
def rDun (cl : Nat → Addr) (X : Cx) (W : WX) (C : CE) (d : Dn) (g : V → VK → VK) : R2s := fun σ x y H Q => ∃ (c i : Nat) (a b dx dy : Addr) (fs gs : List (Str × V)), C.dn c d = some i ∧ x = .ref a ∧ y = .ref b ∧ H a = some (.ins (cl c) dx fs) ∧ H b = some (.ins (cl c) dy gs) ∧
  spF cl X.K (C.call i) [x, y] H (fun v H' => g v Q v H') (atW W σ)
theorem inst_at {pins : List (Addr × Obj)} {σ : L2.St} {H : Hp} {s : Shared} {a Ca dx : Addr} {fs : List (Str × V)} (I : Inv X pins σ H s) (h : H a = some (.ins Ca dx fs)) : ∃ ox od, PySem.W.InstAt s.heap a ox Ca od := by
  obtain ⟨mA, O, _⟩ := ins_get I.hok h
  obtain ⟨od, J, _⟩ := O.look
  exact ⟨_, _, J⟩
theorem run_call {pins : List (Addr × Obj)} {σ : L2.St} {H : Hp} {s : Shared} {f : Addr} {sp : Sp} {Q : VK} {us : List Value} {vs : List V} (F : FnR X.prog X.w X.K X.mg X.base (L2.CX X.prog X.w) k f sp) (hr : Room k X.A) (tk : Takes X W) (I : Inv X pins σ H s) (r : Vals vs us) (h : sp vs H Q (atW W σ)) :
    wpAny (model X.prog X.w) X.A (call (.ref f) us) (EP X pins σ Q) X.xe s := wpAny_call (run_fnRs F hr tk I r h)
abbrev gId : V → VK → VK := fun _ Q => Q
theorem bin_dun {op : Operator} {d : Dn} {nm : Str} (T : DunT cl X k C d nm) (hn : PySem.dunder op.info.2 = nm) (hr : Room k X.A) (tk : Takes X W) : OpRs X (binaryOp op) (rDun cl X W C d gId) := by
  intro pins s σ H x y v u Q I rx ry h
  obtain ⟨c, i, a, b, dx, dy, fs, gs, e, rfl, rfl, ha, hb, q⟩ := h
  cases (show v = Value.ref a from rx)
  cases (show u = Value.ref b from ry)
  obtain ⟨⟨f, F⟩, hs, _⟩ := T c i e
  obtain ⟨ox, od, J⟩ := inst_at I ha
  obtain ⟨ox', od', J'⟩ := inst_at I hb
  obtain ⟨m, hF⟩ := I.fr
  refine PySem.W.binop_K hF I.ok.mod.kin J J'.type hs (by rw [hn]; exact F.at_) F.fn ?_
  refine wpAny_mono (run_call (us := [.ref a, .ref b]) (vs := [.ref a, .ref b]) F.run hr tk I (.cons rfl (.cons rfl .nil)) q) (fun w s' z => ?_) fun _ _ x => x
  obtain ⟨z', H', I', rz, qz⟩ := z
  exact SlX.cmpback rz ⟨z', H', I', rz, qz⟩
theorem inp_dun {op : Operator} {d : Dn} {nm : Str} (T : DunT cl X k C d nm) (hn : dunderI op.info.2 = nm) (hr : Room k X.A) (tk : Takes X W) : OpRs X (inplaceOp op) (rDun cl X W C d gId) := by
  intro pins s σ H x y v u Q I rx ry h
  obtain ⟨c, i, a, b, dx, dy, fs, gs, e, rfl, rfl, ha, hb, q⟩ := h
  cases (show v = Value.ref a from rx)
  cases (show u = Value.ref b from ry)
  obtain ⟨⟨f, F⟩, hs, _⟩ := T c i e
  obtain ⟨ox, od, J⟩ := inst_at I ha
  obtain ⟨m, hF⟩ := I.fr
  refine PySem.W.ksp_inplace hF I.ok.mod.kin J hs (by rw [hn]; exact F.at_) F.fn ?_
  refine wpAny_mono (run_call (us := [.ref a, .ref b]) (vs := [.ref a, .ref b]) F.run hr tk I (.cons rfl (.cons rfl .nil)) q) (fun w s' z => ?_) fun _ _ x => x
  obtain ⟨z', H', I', rz, qz⟩ := z
  exact SlX.cmpback rz ⟨z', H', I', rz, qz⟩
theorem cmp_dun {op : CmpOp} {d : Dn} {nm : Str} (T : DunT cl X k C d nm) (hop : ∀ a b, compareOp op a b = richCompare op a b) (hn : (cmpInfo op).2.1 = nm) (hr : Room k X.A) (tk : Takes X W) : OpRs X (compareOp op) (rDun cl X W C d gId) := by
  intro pins s σ H x y v u Q I rx ry h
  obtain ⟨c, i, a, b, dx, dy, fs, gs, e, rfl, rfl, ha, hb, q⟩ := h
  cases (show v = Value.ref a from rx)
  cases (show u = Value.ref b from ry)
  obtain ⟨⟨f, F⟩, hs, _⟩ := T c i e
  obtain ⟨ox, od, J⟩ := inst_at I ha
  obtain ⟨ox', od', J'⟩ := inst_at I hb
  obtain ⟨m, hF⟩ := I.fr
  rw [hop]
  refine PySem.W.cmp_K (op := op) (tb := .ref (cl c)) hr.units0 hF I.ok.mod.kin J J'.type (by unfold PySem.W.notFirst; simp) (by rw [hn]; exact F.at_) F.fn ?_
  refine wpAny_mono (run_call (us := [.ref a, .ref b]) (vs := [.ref a, .ref b]) F.run hr tk I (.cons rfl (.cons rfl .nil)) q) (fun w s' z => ?_) fun _ _ x => x
  obtain ⟨z', H', I', rz, qz⟩ := z
  exact SlX.cmpback rz ⟨z', H', I', rz, qz⟩
/-- from the shadow dun to the promise -/
theorem dun_post {d : Dn} {m : List Addr} {h : AH} {H : Hp} {σ : L2.St} {x y : AV} {u v : V} {Q : VK} (r : Rel (dm X cl hid) m h H) (hx : VR X.K m H x u) (hy : VR X.K m H y v)
    (q : Post (dm X cl hid) m H (relV X.K) (dun C d x y h) Q (atW W σ)) : rDun cl X W C d gId σ u v H Q := by
  unfold dun at q
  split at q
  · rename_i c fs c' fs' h1 h2
    split at q
    · rename_i hc
      subst hc
      split at q
      · rename_i i e
        obtain ⟨a, dx, gs, rfl, h3, h4, _⟩ := cls_get r hx h1
        obtain ⟨b, dy, gs', rfl, h3', h4', _⟩ := cls_get r hy h2
        exact ⟨c, i, a, b, dx, dy, gs, gs', e, rfl, rfl, h3, h3', hid, m, h, [x, y], r, ⟨_, _, rfl, hx, _, _, rfl, hy, rfl⟩, q⟩
      · exact q.elim
    · exact q.elim
  · exact q.elim
theorem k_or (T : DunT cl X k C .or "__or__") (hr : Room k X.A) : BinOk cl X W (binaryOp .BitOr) (oOr C) := fun tk => ⟨_, bin_dun T (by rfl) hr tk, fun hid m h H σ x y u v Q r hx hy q => dun_post r hx hy q⟩
theorem k_and (T : DunT cl X k C .and "__and__") (hr : Room k X.A) : BinOk cl X W (binaryOp .BitAnd) (oAnd C) := fun tk => ⟨_, bin_dun T (by rfl) hr tk, fun hid m h H σ x y u v Q r hx hy q => dun_post r hx hy q⟩
theorem k_ior (T : DunT cl X k C .ior "__ior__") (hr : Room k X.A) : BinOk cl X W (inplaceOp .BitOr) (fun x y h => dun C .ior x y h) := fun tk => ⟨_, inp_dun T (by rfl) hr tk, fun hid m h H σ x y u v Q r hx hy q => dun_post r hx hy q⟩
theorem k_sub (T : DunT cl X k C .sub "__sub__") (hr : Room k X.A) : BinOk cl X W (binaryOp .Sub) (oSub C) := fun tk => ⟨_, (OpRs.of op_sub).or (bin_dun T (by rfl) hr tk), fun hid m h H σ x y u v Q r hx hy q => by
  unfold oSub at q
  split at q
  · exact .inl ⟨_, _, hx, hy, q.now r rfl⟩
  · exact .inr (dun_post r hx hy q)⟩
theorem k_le (T : DunT cl X k C .le "__le__") (hr : Room k X.A) : BinOk cl X W (compareOp .LtE) (oLe C) := fun tk => ⟨_, (OpRs.of op_le).or (cmp_dun T (fun _ _ => rfl) (by rfl) hr tk), fun hid m h H σ x y u v Q r hx hy q => by
  unfold oLe at q
  split at q
  · exact .inl ⟨_, _, hx, hy, q.now r rfl⟩
  · exact .inr (dun_post r hx hy q)⟩
theorem k_eq (T : DunT cl X k C .eq "__eq__") (hr : Room k X.A) : BinOk cl X W (compareOp .Eq) (oEq C) := fun tk => ⟨_, (OpRs.of (op_eqD hr.units)).or (cmp_dun T (fun _ _ => rfl) (by rfl) hr tk), fun hid m h H σ x y u v Q r hx hy q => by
  unfold oEq at q
  split at q
  · rename_i b e
    obtain ⟨d, e2, h1, h2, h3, h4, h5⟩ := eqD_of r hx hy e
    subst h5
    exact .inl ⟨d, e2, h1, h2, h3, h4, q.now r rfl⟩
  · refine .inr (dun_post r hx hy ?_)
    split at q
    · rename_i b h1 e; rw [e]; exact q
    · exact q.elim⟩
theorem k_ne : Room k X.A → BinOk cl X W (compareOp .NotEq) (oNe C) := fun hr tk => ⟨_, OpRs.of (op_neD hr.units), fun hid m h H σ x y u v Q r hx hy q => by
  unfold oNe at q
  split at q
  · rename_i b e
    obtain ⟨d, e2, h1, h2, h3, h4, h5⟩ := eqD_of r hx hy e
    subst h5
    exact ⟨d, e2, h1, h2, h3, h4, q.now r rfl⟩
  · exact q.elim⟩
/-- x in y, y an instance -/
def rHas (cl : Nat → Addr) (X : Cx) (W : WX) (C : CE) (neg : Bool) : R2s := fun σ x y H Q => ∃ (c i : Nat) (b dy : Addr) (gs : List (Str × V)), C.dn c .has = some i ∧ y = .ref b ∧ H b = some (.ins (cl c) dy gs) ∧
  spF cl X.K (C.call i) [y, x] H (fun v H' => ∃ t, v = .bl t ∧ Q (.bl (if neg then !t else t)) H') (atW W σ)
theorem in_has (T : DunT cl X k C .has "__contains__") (hr : Room k X.A) (tk : Takes X W) : OpRs X (compareOp .In) (rHas cl X W C false) := by
  intro pins s σ H x y v u Q I rx ry h
  obtain ⟨c, i, b, dy, gs, e, rfl, hb, q⟩ := h
  cases (show u = Value.ref b from ry)
  obtain ⟨⟨f, F⟩, hs, _⟩ := T c i e
  obtain ⟨ox', od', J'⟩ := inst_at I hb
  obtain ⟨m, hF⟩ := I.fr
  refine PySem.W.in_K hF I.ok.mod.kin J' F.at_ F.fn ?_
  refine wpAny_mono (run_call (us := [.ref b, v]) (vs := [.ref b, x]) F.run hr tk I (.cons rfl (.cons rx .nil)) q) (fun w s' z => ?_) fun _ _ x => x
  obtain ⟨z', H', I', rz, t, et, qz⟩ := z
  subst et
  cases (show w = Value.bool t from rz)
  exact wpAny_truthy_bool ⟨.bl t, H', I', rfl, qz⟩
theorem notin_has (T : DunT cl X k C .has "__contains__") (hr : Room k X.A) (tk : Takes X W) : OpRs X (compareOp .NotIn) (rHas cl X W C true) := by
  intro pins s σ H x y v u Q I rx ry h
  obtain ⟨c, i, b, dy, gs, e, rfl, hb, q⟩ := h
  cases (show u = Value.ref b from ry)
  obtain ⟨⟨f, F⟩, hs, _⟩ := T c i e
  obtain ⟨ox', od', J'⟩ := inst_at I hb
  obtain ⟨m, hF⟩ := I.fr
  refine PySem.W.notIn_K hF I.ok.mod.kin J' F.at_ F.fn ?_
  refine wpAny_mono (run_call (us := [.ref b, v]) (vs := [.ref b, x]) F.run hr tk I (.cons rfl (.cons rx .nil)) q) (fun w s' z => ?_) fun _ _ x => x
  obtain ⟨z', H', I', rz, t, et, qz⟩ := z
  subst et
  cases (show w = Value.bool t from rz)
  exact wpAny_truthy_bool ⟨.bl (!t), H', I', rfl, qz⟩
theorem inS_of {D : Dm} {m : List Addr} {H : Hp} {x : AV} {xs : List AV} {u : V} {us : List V} {b : Bool} (hx : VR D.K m H x u) (hs : VRs D.K m H xs us) (e : inS x xs = some b) : flatV u = true ∧ us.all flatV = true ∧ b = inV u us := by
  unfold inS at e
  split at e
  · rename_i w ws h1 h2
    cases e
    obtain ⟨e1, f1⟩ := vr_toV h1 hx
    obtain ⟨e2, f2⟩ := vrs_toV h2 hs
    subst e1 e2
    exact ⟨f1, f2, rfl⟩
  · cases e
theorem k_in (T : DunT cl X k C .has "__contains__") (hr : Room k X.A) : BinOk cl X W (compareOp .In) (oIn C) := fun tk => ⟨_, (OpRs.of op_in_seq).or (in_has T hr tk), fun hid m h H σ x y u v Q r hx hy q => by
  unfold oIn at q
  split at q
  · rename_i ys e
    split at q
    · rename_i b eb
      obtain ⟨p, us, e2, hq, hv⟩ := seqOf_sq r hy e
      obtain ⟨f1, f2, f3⟩ := inS_of hx hv eb
      exact .inl ⟨p, us, e2, hq, f1, f2, by subst f3; exact q.now r rfl⟩
    · exact q.elim
  · split at q
    · rename_i c fs e
      split at q
      · rename_i i ei
        obtain ⟨b, dy, gs, rfl, h3, h4, _⟩ := cls_get r hy e
        refine .inr ⟨c, i, b, dy, gs, ei, rfl, h3, hid, m, h, [y, x], r, ⟨_, _, rfl, hy, _, _, rfl, hx, rfl⟩, ?_⟩
        split at q
        · rename_i t h1 et
          show Post _ _ _ _ (C.call i [y, x] h) _ _
          rw [et]
          exact fun m' H' u a b c d => ⟨t, d, q m' H' (.bl t) a b c rfl⟩
        · exact q.elim
      · exact q.elim
    · exact q.elim⟩
theorem k_notin (T : DunT cl X k C .has "__contains__") (hr : Room k X.A) : BinOk cl X W (compareOp .NotIn) (oNotIn C) := fun tk => ⟨_, (OpRs.of op_notIn_seq).or (notin_has T hr tk), fun hid m h H σ x y u v Q r hx hy q => by
  unfold oNotIn at q
  split at q
  · rename_i ys e
    split at q
    · rename_i b eb
      obtain ⟨p, us, e2, hq, hv⟩ := seqOf_sq r hy e
      obtain ⟨f1, f2, f3⟩ := inS_of hx hv eb
      exact .inl ⟨p, us, e2, hq, f1, f2, by subst f3; exact q.now r rfl⟩
    · exact q.elim
  · split at q
    · rename_i c fs e
      split at q
      · rename_i i ei
        obtain ⟨b, dy, gs, rfl, h3, h4, _⟩ := cls_get r hy e
        refine .inr ⟨c, i, b, dy, gs, ei, rfl, h3, hid, m, h, [y, x], r, ⟨_, _, rfl, hy, _, _, rfl, hx, rfl⟩, ?_⟩
        split at q
        · rename_i t h1 et
          show Post _ _ _ _ (C.call i [y, x] h) _ _
          rw [et]
          exact fun m' H' u a b c d => ⟨t, d, q m' H' (.bl (!t)) a b c rfl⟩
        · exact q.elim
      · exact q.elim
    · exact q.elim⟩
end
end Mi

namespace Mi
open PySem PySem.Spec PyProof.Rows L2
section
variable {cl : Nat → Addr} {X : Cx} {W : WX} {C : CE} {k : Nat} {e a b c o i tg iter elt : Expr} {es : List Expr} {pos p apos pos' : Pos} {x f : Str} {rest : List Expr}

theorem tru_of {D : Dm} {m : List Addr} {H : Hp} {h : AH} {v : AV} {u : V} {t : Bool} (r : Rel D m h H) (hv : VR D.K m H v u) (e : tru v h = some t) : TruV D.K u H t := by
  cases v with
  | non => cases e; rw [show u = _ from hv]; rfl
  | bl b => cases e; rw [show u = _ from hv]; rfl
  | int b => cases e; rw [show u = _ from hv]; rfl
  | str y =>
    simp only [tru] at e
    split at e
    · rename_i hl; cases e; rw [show u = _ from hv]; exact ⟨hl, rfl⟩
    · cases e
  | tup xs =>
    cases e
    obtain ⟨q, us, e1, h1, h2⟩ := hv
    subst e1
    refine .inr (.inl ⟨us, .inl (.inl h1), ?_⟩)
    have z := h2.length
    cases xs <;> cases us <;> first | rfl | (simp at z)
  | ctp ss =>
    cases e
    obtain ⟨q, e1, h1⟩ := hv
    subst e1
    refine .inr (.inl ⟨_, h1.sq, ?_⟩)
    cases ss <;> rfl
  | scr ns =>
    cases e
    obtain ⟨q, e1, h1⟩ := hv
    subst e1
    refine .inl ⟨_, h1.sq, ?_⟩
    cases ns <;> rfl
  | fl xs =>
    cases e
    obtain ⟨q, us, e1, ⟨o, h1⟩, h2⟩ := hv
    subst e1
    refine .inl ⟨us, .inl (.inr ⟨o, h1⟩), ?_⟩
    have z := h2.length
    cases xs <;> cases us <;> first | rfl | (simp at z)
  | fk ks vs => cases e
  | ft ks vs => cases e
  | ref j =>
    simp only [tru] at e
    split at e
    · rename_i xs hx
      cases e
      obtain ⟨q, us, e1, _, h1, h2⟩ := vr_lst r hv hx
      subst e1
      refine .inl ⟨us, SqL.of h1, ?_⟩
      have z := h2.length
      cases xs <;> cases us <;> first | rfl | (simp at z)
    · rename_i kvs hx
      cases e
      obtain ⟨q, h1, e1⟩ := hv
      subst e1
      obtain ⟨ps, h2, h3⟩ := r.ob j _ q hx h1
      refine .inr (.inr ⟨ps, h2, ?_⟩)
      have z := h3.length
      cases kvs <;> cases ps <;> first | rfl | (simp at z)
    · cases e
theorem mt_tru {fe : SE} (ha : PEm cl X W e fe) (he : ∀ whole, isTrue e X.env whole = (do let v ← whole; standAt e.pos; holding [v] (truthy v)) := by intro _; rfl) : PTm cl X W e (tTru fe) := fun tk => by
  obtain ⟨ta, h1, s1⟩ := ha tk
  refine ⟨_, pt_truth h1 he, fun hid m h H σ' σ Q r rs q => s1 hid m h H σ' σ _ r rs (Post.bind q fun v h1 m1 H1 u _ p1 k1 r1 v1 q1 => ?_)⟩
  split at q1
  · rename_i t et
    exact ⟨t, tru_of r1 v1 et, q1.now r1 rfl⟩
  · exact q1.elim
theorem mt_of {fe : SB} (h : PWm cl X W e fe) : PTm cl X W e fe := fun tk => by
  obtain ⟨t, h1, s1⟩ := h tk
  exact ⟨t, h1.pt, s1⟩
theorem mw_and1 {fe : SB} (h : PTm cl X W a fe) : PWm cl X W (.BoolOp .And [a] pos) fe := fun tk => by
  obtain ⟨t, h1, s1⟩ := h tk
  exact ⟨t, pw_and1 h1, s1⟩
theorem mw_or1 {fe : SB} (h : PTm cl X W a fe) : PWm cl X W (.BoolOp .Or [a] pos) fe := fun tk => by
  obtain ⟨t, h1, s1⟩ := h tk
  exact ⟨t, pw_or1 h1, s1⟩
theorem mw_and {fa fb : SB} (ha : PTm cl X W a fa) (hb : PWm cl X W (.BoolOp .And (b :: rest) pos) fb) : PWm cl X W (.BoolOp .And (a :: b :: rest) pos) (tAnd fa fb) := fun tk => by
  obtain ⟨ta, h1, s1⟩ := ha tk
  obtain ⟨tb, h2, s2⟩ := hb tk
  refine ⟨_, pw_and h1 h2, fun hid m h H σ' σ Q r rs q => s1 hid m h H σ' σ _ r rs (Post.bind q fun v h1 m1 H1 u _ p1 k1 r1 v1 q1 => ?_)⟩
  cases v1
  cases v with
  | true => exact s2 hid m1 h1 H1 σ' σ _ r1 (rs.mono p1 k1) q1
  | false => exact q1.now r1 rfl
theorem mw_or {fa fb : SB} (ha : PTm cl X W a fa) (hb : PWm cl X W (.BoolOp .Or (b :: rest) pos) fb) : PWm cl X W (.BoolOp .Or (a :: b :: rest) pos) (tOr fa fb) := fun tk => by
  obtain ⟨ta, h1, s1⟩ := ha tk
  obtain ⟨tb, h2, s2⟩ := hb tk
  refine ⟨_, pw_or h1 h2, fun hid m h H σ' σ Q r rs q => s1 hid m h H σ' σ _ r rs (Post.bind q fun v h1 m1 H1 u _ p1 k1 r1 v1 q1 => ?_)⟩
  cases v1
  cases v with
  | false => exact s2 hid m1 h1 H1 σ' σ _ r1 (rs.mono p1 k1) q1
  | true => exact q1.now r1 rfl
theorem mt_not {fa : SB} (ha : PTm cl X W a fa) : PTm cl X W (.UnaryOp .Not a pos) (tNot fa) := fun tk => by
  obtain ⟨ta, h1, s1⟩ := ha tk
  refine ⟨_, pt_not h1, fun hid m h H σ' σ Q r rs q => s1 hid m h H σ' σ _ r rs (Post.bind q fun v h1 m1 H1 u _ p1 k1 r1 v1 q1 => ?_)⟩
  cases v1
  exact q1.now r1 rfl
/-- as values -/
theorem m_one {op : BoolOp} {fe : SE} (h : PEm cl X W a fe) : PEm cl X W (.BoolOp op [a] pos) fe := fun tk => by
  obtain ⟨t, h1, s1⟩ := h tk
  exact ⟨t, pe_one h1, s1⟩
theorem m_and {fa fb : SE} (ha : PEm cl X W a fa) (hb : PEm cl X W (.BoolOp .And (b :: rest) pos) fb) : PEm cl X W (.BoolOp .And (a :: b :: rest) pos) (sAnd fa fb) := fun tk => by
  obtain ⟨ta, h1, s1⟩ := ha tk
  obtain ⟨tb, h2, s2⟩ := hb tk
  refine ⟨_, pe_and h1 h2, fun hid m h H σ' σ Q r rs q => s1 hid m h H σ' σ _ r rs (Post.bind q fun v h1 m1 H1 u _ p1 k1 r1 v1 q1 => ?_)⟩
  split at q1
  · exact ⟨true, v1, s2 hid m1 h1 H1 σ' σ _ r1 (rs.mono p1 k1) q1⟩
  · exact ⟨false, v1, q1.now r1 rfl⟩
  · exact q1.elim
theorem m_or {fa fb : SE} (ha : PEm cl X W a fa) (hb : PEm cl X W (.BoolOp .Or (b :: rest) pos) fb) : PEm cl X W (.BoolOp .Or (a :: b :: rest) pos) (sOr fa fb) := fun tk => by
  obtain ⟨ta, h1, s1⟩ := ha tk
  obtain ⟨tb, h2, s2⟩ := hb tk
  refine ⟨_, pe_or h1 h2, fun hid m h H σ' σ Q r rs q => s1 hid m h H σ' σ _ r rs (Post.bind q fun v h1 m1 H1 u _ p1 k1 r1 v1 q1 => ?_)⟩
  split at q1
  · exact ⟨true, v1, q1.now r1 rfl⟩
  · exact ⟨false, v1, s2 hid m1 h1 H1 σ' σ _ r1 (rs.mono p1 k1) q1⟩
  · exact q1.elim
theorem m_not {fa : SE} (ha : PEm cl X W a fa) : PEm cl X W (.UnaryOp .Not a pos) (sNot fa) := fun tk => by
  obtain ⟨ta, h1, s1⟩ := ha tk
  refine ⟨_, pe_not h1, fun hid m h H σ' σ Q r rs q => s1 hid m h H σ' σ _ r rs (Post.bind q fun v h1 m1 H1 u _ p1 k1 r1 v1 q1 => ?_)⟩
  split at q1
  · exact ⟨_, v1, q1.now r1 rfl⟩
  · exact q1.elim
theorem m_ife {ft : SB} {fa fb : SE} (ht : PTm cl X W c ft) (ha : PEm cl X W a fa) (hb : PEm cl X W b fb) : PEm cl X W (.IfExp c a b pos) (sIfE ft fa fb) := fun tk => by
  obtain ⟨tt, h0, s0⟩ := ht tk
  obtain ⟨ta, h1, s1⟩ := ha tk
  obtain ⟨tb, h2, s2⟩ := hb tk
  refine ⟨_, pe_ifExp h0 h1 h2, fun hid m h H σ' σ Q r rs q => s0 hid m h H σ' σ _ r rs (Post.bind q fun v h1 m1 H1 u _ p1 k1 r1 v1 q1 => ?_)⟩
  cases v1
  cases v with
  | true => exact s1 hid m1 h1 H1 σ' σ _ r1 (rs.mono p1 k1) q1
  | false => exact s2 hid m1 h1 H1 σ' σ _ r1 (rs.mono p1 k1) q1
theorem m_neg {fa : SE} (ha : PEm cl X W a fa) : PEm cl X W (.UnaryOp .USub a pos) (op1 oNeg fa) := fun tk => by
  obtain ⟨ta, h1, s1⟩ := ha tk
  refine ⟨_, pe_un un_neg h1, fun hid m h H σ' σ Q r rs q => s1 hid m h H σ' σ _ r rs (Post.bind q fun v h1 m1 H1 u _ p1 k1 r1 v1 q1 => ?_)⟩
  unfold oNeg at q1
  split at q1
  · exact ⟨_, v1, q1.now r1 rfl⟩
  · exact q1.elim

theorem m_lst (b : Bool) {fa : SA} (ha : PAm cl X W es fa) : PEm cl X W (.List es pos) (sLst b fa) := fun tk => by
  obtain ⟨ta, h1, s1⟩ := ha tk
  refine ⟨_, fqE (pe_lst h1), fun hid m h H σ' σ Q r rs q => s1 hid m h H σ' σ _ r rs (Post.bind q fun v h1 m1 H1 u _ p1 k1 r1 v1 q1 => ?_)⟩
  split at q1
  · rename_i hl
    exact ⟨by rw [v1.length]; exact hl, Post.newL r1 v1 q1⟩
  · exact q1.elim
theorem m_tup {fa : SA} {x1 : Nat} (ha : PAm cl X W es fa) : PEm cl X W (.Tuple es x1 pos) (sTup fa) := fun tk => by
  obtain ⟨ta, h1, s1⟩ := ha tk
  refine ⟨_, pe_tup h1, fun hid m h H σ' σ Q r rs q => s1 hid m h H σ' σ _ r rs (Post.bind q fun v h1 m1 H1 u _ p1 k1 r1 v1 q1 => ?_)⟩
  split at q1
  · rename_i hl
    exact ⟨by rw [v1.length]; exact hl, Post.newTup r1 v1 q1⟩
  · exact q1.elim
theorem atI_vrs {D : Dm} {m : List Addr} {H : Hp} {xs : List AV} {us : List V} {i : Int} {w : AV} (hv : VRs D.K m H xs us) (e : atI xs i = some w) : ∃ u, atI us i = some u ∧ VR D.K m H w u := by
  unfold atI at e ⊢
  rw [hv.length]
  cases z : ixN xs.length i with
  | none => rw [z] at e; cases e
  | some j =>
    rw [z] at e
    obtain ⟨u, e1, h1⟩ := hv.get (show xs[j]? = some w from e)
    exact ⟨u, e1, h1⟩
/-- an index's shadow -/
def IxOk (cl : Nat → Addr) (X : Cx) (W : WX) (f : AV → AV → AH → R AV) : Prop := Takes X W → ∃ r : R2s, (∀ (value slice : Expr) (pins : List (Addr × Obj)) (s : Shared) (σ : L2.St) (H : Hp) (x y : V) (v u : Value) (Q : VK), Inv X pins σ H s → RelV x v → RelV y u → r σ x y H Q →
    subscripted slice false v u = operate [v, u] (getItem v u) → wpAny (model X.prog X.w) X.A (subscriptTail value slice v u) (EP X pins σ Q) X.xe s) ∧
  ∀ (hid : Hid) (m : List Addr) (h : AH) (H : Hp) (σ : L2.St) (x y : AV) (u v : V) (Q : VK), Rel (dm X cl hid) m h H → VR X.K m H x u → VR X.K m H y v → Post (dm X cl hid) m H (relV X.K) (f x y h) Q (atW W σ) → r σ u v H Q
theorem k_ix : IxOk cl X W (oIx C) := fun tk => ⟨fun _ => rIx X.K, fun value slice pins s σ H x y v u Q I rx ry q hs => ix_seq value slice pins s σ H x y v u Q I rx ry q hs, fun hid m h H σ x y u v Q r hx hy q => by
  unfold oIx at q
  split at q
  · split at q
    · split at q
      · rename_i hl
        split at q
        · rename_i c0 e0
          exact .inr (.inr ⟨_, _, c0, hx, hy, hl, e0, q.now r rfl⟩)
        · exact q.elim
      · exact q.elim
    · split at q
      · rename_i xs e0
        split at q
        · rename_i w0 e1
          obtain ⟨p0, us, e2, hq, hv⟩ := seqOf_sq r hx e0
          obtain ⟨u0, e3, h3⟩ := atI_vrs hv e1
          rcases hq with hq | hq
          · exact .inl ⟨p0, us, _, u0, e2, hy, hq, e3, q.now r h3⟩
          · exact .inr (.inl ⟨p0, us, _, u0, e2, hy, hq, e3, q.now r h3⟩)
        · exact q.elim
      · exact q.elim
  · exact q.elim⟩
theorem m_ix {fo fi : SE} {g : AV → AV → AH → R AV} (hk : IxOk cl X W g) (ha : PEm cl X W o fo) (hb : PEm cl X W i fi) (hs : PlainIx i := by exact fun _ _ => rfl) : PEm cl X W (.Subscript o i pos) (op2 g fo fi) := fun tk => by
  obtain ⟨r, hr, sr⟩ := hk tk
  obtain ⟨ta, h1, s1⟩ := ha tk
  obtain ⟨tb, h2, s2⟩ := hb tk
  refine ⟨tOps r ta tb, ⟨fun pins s σ H Q I h => Subscript_ (binT h1 h2 I h fun v u s2 x y H2 I2 rx ry q => hr o i pins s2 σ H2 x y v u Q I2 rx ry q (hs _ _))⟩, fun hid m h H σ' σ Q rl rs q => ?_⟩
  refine s1 hid m h H σ' σ _ rl rs (op2_post q fun x h1 m1 H1 u p1 k1 r1 v1 q1 => ?_)
  refine s2 hid m1 h1 H1 σ' σ _ r1 (rs.mono p1 k1) (Post.bind q1 fun y h2 m2 H2 v _ p2 k2 r2 v2 q2 => ?_)
  exact sr hid m2 h2 H2 σ x y u v Q r2 (VR.mono p2 k2 _ _ v1) v2 q2
theorem m_fld {fe : SE} {c0 : Nat} (hC : Cls X.K (cl c0)) (hN : NoAttr X.K (cl c0) f) (ha : PEm cl X W e fe) (hb : attributeBase e f X.env (eval e X.env) = eval e X.env := by rfl) : PEm cl X W (.Attribute e f pos) (sFld c0 f fe) := fun tk => by
  obtain ⟨ta, h1, s1⟩ := ha tk
  refine ⟨_, pe_fld h1 hb, fun hid m h H σ' σ Q r rs q => s1 hid m h H σ' σ _ r rs (Post.bind q fun v h1 m1 H1 u _ p1 k1 r1 v1 q1 => ?_)⟩
  split at q1
  · rename_i c' fs e1
    split at q1
    · rename_i ec
      subst ec
      split at q1
      · rename_i w ew
        obtain ⟨a0, dx, gs, e2, h3, h4, _⟩ := cls_get r1 v1 e1
        obtain ⟨u0, e5, h5⟩ := h4.lookup ew
        exact ⟨a0, _, dx, gs, u0, e2, h3, hC, hN, e5, q1.now r1 h5⟩
      · exact q1.elim
    · exact q1.elim
  · exact q1.elim
theorem ms_fld {fo fe : SE} {c0 : Nat} (hC : Cls X.K (cl c0)) (hN : NoAttr X.K (cl c0) f) (ha : PEm cl X W o fo) (he : PEm cl X W e fe) (hs : swapsWith e (some (.Attribute o f pos')) pos.line X.env = pure false := by rfl) : PSm cl X W (.Assign [.Attribute o f pos'] e pos) (ssFld c0 f fo fe) := fun tk => by
  obtain ⟨ta, h1, s1⟩ := ha tk
  obtain ⟨te, h2, s2⟩ := he tk
  refine ⟨_, ps_fld h1 h2 hs, fun hid m h H σ' σ Dn r rs q => s2 hid m h H σ' σ _ r rs (PostS.to rs q fun w h1 m1 H1 y _ p1 k1 r1 v1 q1 => ?_)⟩
  refine s1 hid m1 h1 H1 σ' σ _ r1 (rs.mono p1 k1) (PostS.to (rs.mono p1 k1) q1 fun v h2 m2 H2 u _ p2 k2 r2 v2 q2 => ?_)
  cases v with
  | ref j =>
    dsimp only at q2
    split at q2
    · rename_i c' fs ej
      split at q2
      · rename_i hh
        obtain ⟨ec, hl⟩ := hh
        subst ec
        obtain ⟨a0, h3, e3⟩ := v2
        obtain ⟨dx, gs, h4, h5⟩ := r2.ob j _ a0 ej h3
        have kk : Keep H2 (upd H2 a0 (.ins (cl c') dx (putF f y gs))) := Keep.chg h4 trivial
        refine ⟨a0, _, dx, gs, e3, h4, hC, hN, by rw [h5.length]; exact hl, ?_⟩
        refine q2 m2 _ (List.prefix_refl m2) kk (r2.put h3 kk (fun a na u z => by rw [upd_ne na]; exact z) ⟨dx, _, upd_same, KVR.mono (List.prefix_refl m2) kk (KVR.put (VR.mono p2 k2 _ _ v1) h5)⟩) σ ?_
        exact (rs.mono p1 k1).mono p2 k2 |>.mono (List.prefix_refl m2) kk
      · exact q2.elim
    · exact q2.elim
  | _ => exact q2.elim

theorem m_meth {fo : SE} {fa : SA} {c0 j : Nat} {g : Addr} {pl : Sem Bool} (hC : Cls X.K (cl c0)) (hm : Meth X.K (cl c0) x g) (F : FnM cl X k g (C.call j)) (hr : Room k X.A) (ho : PEm cl X W o fo) (ha : PAm cl X W (e :: es) fa)
    (hst : starEach (e :: es) X.env = (false, eval e X.env) :: starEach es X.env := by rfl) (hpl : (backTo pos (starEach es X.env)).any (·.1) = false := by rfl)
    (ht : eval (.Call (.Attribute o x apos) (e :: es) [] pos) X.env = (do
      let ov ← eval o X.env
      standAt apos.atName
      let (f, first) ← holding [ov] (getMethod ov x pl)
      callWith pos f first (backTo pos (starEach (e :: es) X.env)) (backToKw pos (keywordEach [] X.env))) := by rfl) : PEm cl X W (.Call (.Attribute o x apos) (e :: es) [] pos) (sMeth C c0 x j fo fa) := fun tk => by
  obtain ⟨to, h1, s1⟩ := ho tk
  obtain ⟨ta, h2, s2⟩ := ha tk
  refine ⟨fun σ H Q => to σ H fun y H1 => ∃ a dx fs, y = .ref a ∧ H1 a = some (.ins (cl c0) dx fs) ∧ fs.lookup x = none ∧ ta σ H1 fun vs H2 => spF cl X.K (C.call j) (y :: vs) H2 Q (atW W σ), ⟨fun pins s σ H Q I h => ?_⟩, fun hid m h H σ' σ Q r rs q => ?_⟩
  · refine PySem.W.methodCall_KW (pl := pl) (thn (h1.run pins s σ H _ I h) fun u s1 ⟨y, H1, I1, ry, a, dx, fs, ey, ea, l, q⟩ => ?_) ht
    subst ey
    obtain rfl : u = Value.ref a := ry
    refine getmeth_ok I1 ea hC hm l ?_
    refine PySem.W.callWith_K (first := [.ref a]) (h₀ := X.base) I.ok.mod.kin hm.kp (thn (h2.run pos pins s1 σ H1 _ I1 q) fun us s2 ⟨vs, H2, I2, r, q2⟩ => ⟨I2.kIn, ?_⟩) hst hpl
    exact run_call (us := .ref a :: us) (vs := .ref a :: vs) F hr tk I2 (.cons rfl r) q2
  · refine s1 hid m h H σ' σ _ r rs (Post.bind q fun v h1 m1 H1 u _ p1 k1 r1 v1 q1 => ?_)
    split at q1
    · rename_i c' fs e1
      split at q1
      · rename_i hh
        obtain ⟨ec, hl⟩ := hh
        subst ec
        obtain ⟨a0, dx, gs, e2, h3, h4, _⟩ := cls_get r1 v1 e1
        refine ⟨a0, dx, gs, e2, h3, h4.lookup_none (Option.isNone_iff_eq_none.mp hl), s2 hid m1 h1 H1 σ' σ _ r1 (rs.mono p1 k1) (Post.bind q1 fun vs h2 m2 H2 us _ p2 k2 r2 v2 q2 => ?_)⟩
        exact ⟨hid, m2, h2, v :: vs, r2, ⟨_, _, rfl, VR.mono p2 k2 _ _ v1, v2⟩, q2⟩
      · exact q1.elim
    · exact q1.elim
theorem m_meth0 {fo : SE} {c0 j : Nat} {g : Addr} {pl : Sem Bool} (hC : Cls X.K (cl c0)) (hm : Meth X.K (cl c0) x g) (F : FnM cl X k g (C.call j)) (hr : Room k X.A) (ho : PEm cl X W o fo)
    (ht : eval (.Call (.Attribute o x apos) [] [] pos) X.env = (do
      let ov ← eval o X.env
      standAt apos.atName
      let (f, first) ← holding [ov] (getMethod ov x pl)
      callWith pos f first (backTo pos (starEach [] X.env)) (backToKw pos (keywordEach [] X.env))) := by rfl) : PEm cl X W (.Call (.Attribute o x apos) [] [] pos) (sMeth C c0 x j fo aNil) := fun tk => by
  obtain ⟨to, h1, s1⟩ := ho tk
  refine ⟨fun σ H Q => to σ H fun y H1 => ∃ a dx fs, y = .ref a ∧ H1 a = some (.ins (cl c0) dx fs) ∧ fs.lookup x = none ∧ spF cl X.K (C.call j) [y] H1 Q (atW W σ), ⟨fun pins s σ H Q I h => ?_⟩, fun hid m h H σ' σ Q r rs q => ?_⟩
  · refine PySem.W.methodCall_KW (pl := pl) (thn (h1.run pins s σ H _ I h) fun u s1 ⟨y, H1, I1, ry, a, dx, fs, ey, ea, l, q⟩ => ?_) ht
    subst ey
    obtain rfl : u = Value.ref a := ry
    refine getmeth_ok I1 ea hC hm l ?_
    exact PySem.W.callWith_K0 (first := [.ref a]) I1.kIn hm.kp (run_call (us := [.ref a]) (vs := [.ref a]) F hr tk I1 (.cons rfl .nil) q)
  · refine s1 hid m h H σ' σ _ r rs (Post.bind q fun v h1 m1 H1 u _ p1 k1 r1 v1 q1 => ?_)
    split at q1
    · rename_i c' fs e1
      split at q1
      · rename_i hh
        obtain ⟨ec, hl⟩ := hh
        subst ec
        obtain ⟨a0, dx, gs, e2, h3, h4, _⟩ := cls_get r1 v1 e1
        exact ⟨a0, dx, gs, e2, h3, h4.lookup_none (Option.isNone_iff_eq_none.mp hl), hid, m1, h1, [v], r1, ⟨_, _, rfl, v1, rfl⟩, q1⟩
      · exact q1.elim
    · exact q1.elim
end
end Mi

namespace Mi
open PySem PySem.Spec PyProof.Rows L2
section
variable {cl : Nat → Addr} {X : Cx} {W : WX} {C : CE} {k : Nat} {e a b c o i tg iter elt : Expr} {es : List Expr} {pos p apos pos' : Pos} {x f : Str} {rest : List Expr} {st : Stmt} {sts : List Stmt}

theorem ms_bad : PSm cl X W st ssBad := fun _ => ⟨_, ps_never, fun _ _ _ _ _ _ _ _ _ q => q⟩
theorem mss_bad : PSsm cl X W sts ssBad := fun _ => ⟨_, pss_never, fun _ _ _ _ _ _ _ _ _ q => q⟩
theorem PostS.now {D : Dm} {m : List Addr} {H : Hp} {σ' : Sl} {σ : L2.St} {h' : AH} {Dn : Ends} (q : PostS D m H (.ok (.nx σ') h') Dn W) (r : Rel D m h' H) (rs : RelS D.K m H σ' σ) : Dn.nx σ H := q m H (List.prefix_refl m) .rfl' r σ rs
theorem mss_nil : PSsm cl X W [] ssNil := fun _ => ⟨_, pss_nil, fun hid m h H σ' σ Dn r rs q => PostS.now (W := W) q r rs⟩
theorem PostS.seq {D : Dm} {m : List Addr} {H : Hp} {r : RS} {g : SS} {Dn : Ends} (q : PostS D m H (r.bind fun f h1 => match f with
    | .nx σ1 => g σ1 h1
    | f => .ok f h1) Dn W) (N : L2.St → Hp → Prop) (hN : ∀ σ1 h1 m1 H1 σ2, m <+: m1 → Keep H H1 → Rel D m1 h1 H1 → RelS D.K m1 H1 σ1 σ2 → PostS D m1 H1 (g σ1 h1) Dn W → N σ2 H1) : PostS D m H r { Dn with nx := N } W := by
  cases r with
  | bad => exact q
  | ex c fs σ h => exact q
  | ok fl h1 =>
    cases fl with
    | nx σ1 => exact fun m1 H1 p1 k1 r1 σ2 rs => hN σ1 h1 m1 H1 σ2 p1 k1 r1 rs (PostS.mono p1 k1 q)
    | rt v => exact q
    | bk σ1 => exact q
    | ct σ1 => exact q
theorem mss_cons {g : SS} {gs : SS} (h1 : PSm cl X W st g) (h2 : PSsm cl X W sts gs) : PSsm cl X W (st :: sts) (ssSeq g gs) := fun tk => by
  obtain ⟨t1, a1, s1⟩ := h1 tk
  obtain ⟨t2, a2, s2⟩ := h2 tk
  refine ⟨_, pss_cons a1 a2, fun hid m h H σ' σ Dn r rs q => s1 hid m h H σ' σ _ r rs (PostS.seq q _ fun σ1 h1 m1 H1 σ2 p1 k1 r1 rs1 q1 => ?_)⟩
  exact s2 hid m1 h1 H1 σ1 σ2 Dn r1 rs1 q1
theorem mss_one {g : SS} (h1 : PSm cl X W st g) : PSsm cl X W [st] g := fun tk => by
  obtain ⟨t1, a1, s1⟩ := h1 tk
  exact ⟨_, pss_one a1, s1⟩
theorem ms_set (j : Nat) {fe : SE} (hN : X.N.Nodup) (he : PEm cl X W e fe) (hi : X.N[j]? = some x := by rfl) (hx : Loc X.env.scope x := by first | exact Or.inl rfl | exact Or.inr rfl) (hs : swapsWith e (some (.Name x pos')) pos.line X.env = pure false := by rfl)
    (hf : X.fn x = true ∨ X.env.scope.names.lookup x = some .local := by first | exact .inl rfl | exact .inr rfl | assumption) : PSm cl X W (.Assign [.Name x pos'] e pos) (ssSet j fe) := fun tk => by
  obtain ⟨te, h1, s1⟩ := he tk
  refine ⟨_, ps_set (i := j) hN hi hx h1 hs hf, fun hid m h H σ' σ Dn r rs q => s1 hid m h H σ' σ _ r rs (PostS.to rs q fun v h1 m1 H1 u _ p1 k1 r1 v1 q1 => ?_)⟩
  exact PostS.now (W := W) q1 r1 ((rs.mono p1 k1).set j v1)
theorem ms_expr {fe : SE} (he : PEm cl X W e fe) (hs : swapsWith e none pos.line X.env = pure false := by rfl) : PSm cl X W (.Expr e pos) (ssExpr fe) := fun tk => by
  obtain ⟨te, h1, s1⟩ := he tk
  refine ⟨_, ps_expr h1 hs, fun hid m h H σ' σ Dn r rs q => s1 hid m h H σ' σ _ r rs (PostS.to rs q fun v h1 m1 H1 u _ p1 k1 r1 v1 q1 => ?_)⟩
  exact PostS.now (W := W) q1 r1 (rs.mono p1 k1)
theorem ms_ret {fe : SE} (he : PEm cl X W e fe) : PSm cl X W (.Return (some e) pos) (ssRet fe) := fun tk => by
  obtain ⟨te, h1, s1⟩ := he tk
  refine ⟨_, ps_ret h1, fun hid m h H σ' σ Dn r rs q => s1 hid m h H σ' σ _ r rs (PostS.to rs q fun v h1 m1 H1 u _ p1 k1 r1 v1 q1 => ?_)⟩
  exact q1 m1 H1 (List.prefix_refl m1) .rfl' r1 u v1
theorem ms_retN : PSm cl X W (.Return none pos) ssRetN := fun _ => ⟨_, ps_retN, fun hid m h H σ' σ Dn r rs q => q m H (List.prefix_refl m) .rfl' r .non rfl⟩
theorem ms_pass : PSm cl X W (.Pass pos) ssNil := fun _ => ⟨_, ps_pass, fun hid m h H σ' σ Dn r rs q => PostS.now (W := W) q r rs⟩
theorem ms_if {ft : SB} {fa fb : SS} {A B : List Stmt} (ht : PTm cl X W c ft) (ha : PSsm cl X W A fa) (hb : PSsm cl X W B fb) : PSm cl X W (.If c A B pos) (ssIf ft fa fb) := fun tk => by
  obtain ⟨tt, h0, s0⟩ := ht tk
  obtain ⟨ta, h1, s1⟩ := ha tk
  obtain ⟨tb, h2, s2⟩ := hb tk
  refine ⟨_, ps_if h0 h1 h2, fun hid m h H σ' σ Dn r rs q => s0 hid m h H σ' σ _ r rs (PostS.to (rel := relB) rs q fun v h1 m1 H1 u _ p1 k1 r1 v1 q1 => ?_)⟩
  cases v1
  cases v with
  | true => exact s1 hid m1 h1 H1 σ' σ Dn r1 (rs.mono p1 k1) q1
  | false => exact s2 hid m1 h1 H1 σ' σ Dn r1 (rs.mono p1 k1) q1
theorem oSetIx_of {l i v : AV} {h h' : AH} (e : oSetIx l i v h = some h') : ∃ a k xs n, l = .ref a ∧ i = .int k ∧ h[a]? = some (.lst xs) ∧ ixN xs.length k = some n ∧ h' = h.set a (.lst (xs.set n v)) := by
  cases l with
  | ref a =>
    cases i with
    | int k =>
      simp only [oSetIx] at e
      split at e
      · rename_i xs hx
        split at e
        · rename_i n hn
          cases e
          exact ⟨a, k, xs, n, rfl, rfl, hx, hn, rfl⟩
        · cases e
      · cases e
    | _ => cases e
  | _ => cases e
/-- xs[i] = e -/
theorem ms_ix {fo fi fe : SE} (ho : PEm cl X W o fo) (hi : PEm cl X W i fi) (he : PEm cl X W e fe)
    (hs : swapsWithSole [.Subscript o i pos'] e pos.line X.env = pure false := by rfl) (hw : swappedStores [.Subscript o i pos'] e X.env = pure none := by rfl)
    (h1 : (assignEach [.Subscript o i pos'] X.env).map (·.2) = [assign (.Subscript o i pos') X.env] := by rfl) (hg : ∀ to ti : TE, PE X o to → PE X i ti → PG X (.Subscript o i pos') (gSub to ti rSetL) := by exact fun to ti h1 h2 => pg_sub h1 h2 set_list) :
    PSm cl X W (.Assign [.Subscript o i pos'] e pos) (ssIx fo fi fe) := fun tk => by
  obtain ⟨to, h2, s2⟩ := ho tk
  obtain ⟨ti, h3, s3⟩ := hi tk
  obtain ⟨te, h4, s4⟩ := he tk
  refine ⟨_, ps_asg h4 (hg to ti h2 h3) hs hw h1, fun hid m h H σ' σ Dn r rs q => s4 hid m h H σ' σ _ r rs (PostS.to rs q fun v h1 m1 H1 u _ p1 k1 r1 v1 q1 => ?_)⟩
  refine s2 hid m1 h1 H1 σ' σ _ r1 (rs.mono p1 k1) (PostS.to (rs.mono p1 k1) q1 fun l h2 m2 H2 ul _ p2 k2 r2 v2 q2 => ?_)
  refine s3 hid m2 h2 H2 σ' σ _ r2 ((rs.mono p1 k1).mono p2 k2) (PostS.to ((rs.mono p1 k1).mono p2 k2) q2 fun j h3 m3 H3 uj _ p3 k3 r3 v3 q3 => ?_)
  split at q3
  · rename_i h4 e4
    obtain ⟨a0, j0, xs, n, rfl, rfl, ex, en, rfl⟩ := oSetIx_of e4
    obtain ⟨p0, us, e5, e6, h5, h6⟩ := vr_lst r3 (VR.mono p3 k3 _ _ v2) ex
    have v1' := VR.mono p3 k3 _ _ (VR.mono p2 k2 _ _ v1)
    refine ⟨p0, us, j0, n, e5, v3, h5, by rw [h6.length]; exact en, ?_⟩
    have kk : Keep H3 (upd H3 p0 (.lst (us.set n u))) := Keep.chg h5 trivial
    exact PostS.now (W := W) (PostS.mono (List.prefix_refl m3) kk q3) (r3.lst e6 h5 (VRs.set n v1' h6)) ((((rs.mono p1 k1).mono p2 k2).mono p3 k3).mono (List.prefix_refl m3) kk)
  · exact q3.elim

theorem mg_name (j : Nat) (hN : X.N.Nodup) (hi : X.N[j]? = some x := by rfl) (hx : Loc X.env.scope x := by first | exact Or.inl rfl | exact Or.inr rfl)
    (hf : X.fn x = true ∨ X.env.scope.names.lookup x = some .local := by first | exact .inl rfl | exact .inr rfl | assumption) : PGm cl X (.Name x pos) (gNm j) [j] :=
  ⟨_, pg_name (i := j) hN hi hx hf, fun m H σ' σ1 σ v u Q rs hv e q => by cases e; exact q _ (rs.set j hv) (by simp) fun i hi => List.getElem?_set_ne (fun z => hi (by simp [z]))⟩
def PGsm (cl : Nat → Addr) (X : Cx) (ts : List Expr) (is : List Nat) : Prop := ∃ t, PGs X ts t ∧ ∀ (m : List Addr) (H : Hp) (σ' σ1 : Sl) (σ : L2.St) (vs : List AV) (us : List V) (Q : L2.St → Hp → Prop),
  RelS X.K m H σ' σ → VRs X.K m H vs us → gsN is vs σ' = some σ1 → (∀ σ2 : L2.St, RelS X.K m H σ1 σ2 → σ2.length = σ.length → (∀ j, j ∉ is → σ2[j]? = σ[j]?) → Q σ2 H) → t us σ H Q
theorem mgs_nil : PGsm cl X [] [] := ⟨_, pgs_nil, fun m H σ' σ1 σ vs us Q rs hv e q => by
  cases vs with
  | nil => cases e; exact ⟨hv, q σ rs rfl fun _ _ => rfl⟩
  | cons _ _ => cases e⟩
theorem mgs_cons (j : Nat) {is : List Nat} (hN : X.N.Nodup) (h : PGsm cl X es is) (hi : X.N[j]? = some x := by rfl) (hx : Loc X.env.scope x := by first | exact Or.inl rfl | exact Or.inr rfl)
    (hf : X.fn x = true ∨ X.env.scope.names.lookup x = some .local := by first | exact .inl rfl | exact .inr rfl | assumption)
    (hs : (assignEach ((.Name x pos) :: es) X.env).map (·.2) = assign (.Name x pos) X.env :: (assignEach es X.env).map (·.2) := by rfl) : PGsm cl X (.Name x pos :: es) (j :: is) := by
  obtain ⟨t, h1, s1⟩ := h
  refine ⟨_, pgs_cons (pg_name (i := j) hN hi hx hf) h1 hs, fun m H σ' σ1 σ vs us Q rs hv e q => ?_⟩
  cases vs with
  | nil => cases e
  | cons v vs =>
    obtain ⟨u, r, eu, h2, h3⟩ := hv
    refine ⟨u, r, eu, s1 m H _ σ1 _ vs r Q (rs.set j h2) h3 e fun σ2 r2 l2 o2 => q σ2 r2 (by rw [l2]; simp) fun i hi => ?_⟩
    simp only [List.mem_cons, not_or] at hi
    rw [o2 i hi.2]
    exact List.getElem?_set_ne (fun z => hi.1 z.symm)
theorem gsN_len : ∀ {is : List Nat} {vs : List AV} {σ σ1 : Sl}, gsN is vs σ = some σ1 → vs.length = is.length
  | [], [], _, _, _ => rfl
  | _ :: is, _ :: vs, _, _, e => by simp [gsN_len (is := is) (vs := vs) e]
theorem mg_tup {kk : Nat} {is : List Nat} (hc : X.calm = true) (h : PGsm cl X es is) (hn : (assignEach es X.env).length = is.length := by rfl) (hst : (assignEach es X.env).findIdx? (·.1) = none := by rfl) : PGm cl X (.Tuple es kk pos) (gTp is) is := by
  obtain ⟨t, h1, s1⟩ := h
  refine ⟨_, pg_tup (n := is.length) hc h1 hn hst, fun m H σ' σ1 σ v u Q rs hv e q => ?_⟩
  cases v with
  | tup xs =>
    obtain ⟨p0, us, e2, h2, h3⟩ := hv
    exact ⟨p0, us, e2, .inl (.inl h2), by rw [h3.length]; exact gsN_len e, s1 m H σ' _ σ xs us Q rs h3 e q⟩
  | _ => cases e
/-- a, b = e -/
theorem ms_unp {kk : Nat} {is : List Nat} {fe : SE} (hc : X.calm = true) (h : PGsm cl X es is) (he : PEm cl X W e fe) (hs : swapsWithSole [.Tuple es kk pos'] e pos.line X.env = pure false := by rfl) (hw : swappedStores [.Tuple es kk pos'] e X.env = pure none := by rfl)
    (h1 : (assignEach [.Tuple es kk pos'] X.env).map (·.2) = [assign (.Tuple es kk pos') X.env] := by rfl) (hn : (assignEach es X.env).length = is.length := by rfl) (hst : (assignEach es X.env).findIdx? (·.1) = none := by rfl) :
    PSm cl X W (.Assign [.Tuple es kk pos'] e pos) (ssUnp (gTp is) fe) := fun tk => by
  obtain ⟨te, a1, s1⟩ := he tk
  obtain ⟨tg, a2, s2⟩ := mg_tup (pos := pos') (kk := kk) hc h hn hst
  refine ⟨_, ps_asg a1 a2 hs hw h1, fun hid m h H σ' σ Dn r rs q => s1 hid m h H σ' σ _ r rs (PostS.to rs q fun v h1 m1 H1 u _ p1 k1 r1 v1 q1 => ?_)⟩
  split at q1
  · rename_i σ1 e1
    exact s2 m1 H1 σ' σ1 σ v u _ (rs.mono p1 k1) v1 e1 fun σ2 rs2 _ _ => PostS.now (W := W) q1 r1 rs2
  · exact q1.elim

theorem src_lst {D : Dm} {m : List Addr} {H : Hp} {j : Nat} {p0 : Addr} (e : m[j]? = some p0) : SrcOk D m H (.lst j) (Itl D.K p0) := fun hid' m' h' H' i pm km r => by
  have e' := pre_get pm e
  cases hx : h'[j]? with
  | none => simp only [Src.at, hx]
  | some o =>
    cases o with
    | lst xs =>
      simp only [Src.at, hx]
      obtain ⟨vs, h1, h2⟩ := r.ob j _ p0 hx e'
      cases ex : xs[i]? with
      | none =>
        refine ⟨vs, SqL.of h1, ?_⟩
        rw [h2.length]
        exact List.getElem?_eq_none_iff.mp ex
      | some v =>
        obtain ⟨u, e3, h3⟩ := h2.get ex
        refine ⟨⟨vs, u, SqL.of h1, e3⟩, fun y H'' hy => ?_⟩
        obtain ⟨eH, hy⟩ := hy
        subst eH
        have z := hy vs (SqL.of h1)
        rw [e3] at z
        cases z
        exact ⟨rfl, h3⟩
    | _ => simp only [Src.at, hx]
theorem src_tup {D : Dm} {m : List Addr} {H : Hp} {xs : List AV} {us : List V} {p0 : Addr} (h : SqT D.K H p0 us) (hv : VRs D.K m H xs us) : SrcOk D m H (.tup xs) (Itt D.K p0) := fun hid' m' h' H' i pm km r => by
  have hv' := VRs.mono pm km _ _ hv
  have h1' := SqT.keep km h
  unfold Src.at
  dsimp only
  cases e : xs[i]? with
  | none => exact ⟨us, h1', by rw [hv.length]; exact List.getElem?_eq_none_iff.mp e⟩
  | some v =>
    obtain ⟨u, e3, h3⟩ := hv'.get e
    refine ⟨⟨us, u, h1', e3⟩, fun y H'' hy => ?_⟩
    obtain ⟨eH, hy⟩ := hy
    subst eH
    have z := hy us h1'
    rw [e3] at z
    cases z
    exact ⟨rfl, h3⟩
theorem src_fl {D : Dm} {m : List Addr} {H : Hp} {xs : List AV} {us : List V} {p0 : Addr} {o : Obj} (h : H p0 = some (.frz o (.lst us))) (hv : VRs D.K m H xs us) : SrcOk D m H (.tup xs) (Itl D.K p0) := fun hid' m' h' H' i pm km r => by
  have hv' := VRs.mono pm km _ _ hv
  have h1' : SqL D.K H' p0 us := .inl (.inr ⟨o, km.2 _ _ _ h⟩)
  unfold Src.at
  dsimp only
  cases e : xs[i]? with
  | none => exact ⟨us, h1', by rw [hv.length]; exact List.getElem?_eq_none_iff.mp e⟩
  | some v =>
    obtain ⟨u, e3, h3⟩ := hv'.get e
    refine ⟨⟨us, u, h1', e3⟩, fun y H'' hy => ?_⟩
    obtain ⟨eH, hy⟩ := hy
    subst eH
    have z := hy us h1'
    rw [e3] at z
    cases z
    exact ⟨rfl, h3⟩
theorem src_scr {D : Dm} {m : List Addr} {H : Hp} {ns : List Int} {p0 : Addr} (h : ScrAt D.K H p0 ns) : SrcOk D m H (.tup (ns.map .int)) (Itl D.K p0) := fun hid' m' h' H' i pm km r => by
  have h1' := (h.keep km).sq
  unfold Src.at
  dsimp only
  rw [List.getElem?_map]
  cases e : ns[i]? with
  | none => exact ⟨_, h1', by rw [List.length_map]; exact List.getElem?_eq_none_iff.mp e⟩
  | some v =>
    have e3 : (ns.map V.int)[i]? = some (.int v) := by rw [List.getElem?_map, e]; rfl
    refine ⟨⟨_, _, h1', e3⟩, fun y H'' hy => ?_⟩
    obtain ⟨eH, hy⟩ := hy
    subst eH
    have z := hy _ h1'
    rw [e3] at z
    cases z
    exact ⟨rfl, rfl⟩
theorem src_rng {D : Dm} {m : List Addr} {H : Hp} {lo : Int} {n : Nat} : SrcOk D m H (.rng lo n) (Itr lo n) := fun hid' m' h' H' i pm km r => by
  unfold Src.at
  dsimp only
  by_cases hl : i < n
  · rw [if_pos hl]
    refine ⟨hl, fun y H'' hy => ?_⟩
    obtain ⟨eH, hy⟩ := hy
    subst eH
    exact ⟨rfl, hy⟩
  · rw [if_neg hl]
    exact Nat.le_of_not_lt hl
theorem PI.or {w1 w2 : TI} (h1 : PI X tg iter w1) (h2 : PI X tg iter w2) : PI X tg iter (fun σ H R => w1 σ H R ∨ w2 σ H R) := ⟨fun pins s σ H R I h => h.elim (h1.run pins s σ H R I) (h2.run pins s σ H R I)⟩
/-- over an expression's value, which kind of thing it is told by the value -/
theorem pi_val {l : Expr} {tl : TE} (hl : PE X l tl) : PI X tg l (fun σ H R => tl σ H fun x H1 => ∃ a, x = .ref a ∧ (((∃ xs, SqL X.K H1 a xs) ∧ R (Itl X.K a) H1) ∨ ((∃ xs, SqT X.K H1 a xs) ∧ R (Itt X.K a) H1))) := by
  refine ⟨fun pins s σ H R I h => ?_⟩
  refine thn (hl.run pins s σ H _ I h) fun v s1 ⟨x, H1, I1, r1, q1⟩ => ?_
  obtain ⟨a, e, q⟩ := q1
  subst e
  cases r1
  rcases q with ⟨⟨xs, hq⟩, q⟩ | ⟨⟨xs, hq⟩, q⟩
  · obtain ⟨its, rv, p, hz⟩ := I1.list hq
    refine wpAny_pyIter_list p.isList ?_
    refine ⟨s1.heap.objs.size, [s1.heap.objs.size], _, _, H1, rfl, I1.kept (t' := s1.toks) fun b o e => Heap.get?_push_of_some _ e, turn_list a _, ⟨_, Heap.get?_push_size _ rfl, rfl, rfl⟩, fun b hb => ?_, q⟩
    have e : b = s1.heap.objs.size := by simpa using hb
    subst e
    exact I1.fpOk (Nat.le_refl _) (I1.hok.fresh (Nat.le_refl _))
  · obtain ⟨its, rv, p, hz⟩ := I1.tuple hq
    refine wpAny_pyIter_tuple (show s1.heap.IsTuple a its.toArray from p) ?_
    refine ⟨s1.heap.objs.size, [s1.heap.objs.size], _, _, H1, rfl, I1.kept (t' := s1.toks) fun b o e => Heap.get?_push_of_some _ e, turn_tuple a _, ⟨_, Heap.get?_push_size _ rfl, rfl, rfl⟩, fun b hb => ?_, q⟩
    have e : b = s1.heap.objs.size := by simpa using hb
    subst e
    exact I1.fpOk (Nat.le_refl _) (I1.hok.fresh (Nat.le_refl _))
theorem SqT.of_tup {K : PySem.W.Frag} {H : Hp} {p : Addr} {us : List V} (h : H p = some (.tup us)) : SqT K H p us := .inl (.inl h)
theorem src_str {D : Dm} {m : List Addr} {H : Hp} {x : Str} : SrcOk D m H (.tup (x.cps.toList.map fun c => .str ⟨#[c]⟩)) (Its x) := fun hid' m' h' H' i pm km r => by
  unfold Src.at
  dsimp only
  rw [List.getElem?_map]
  cases e : x.cps.toList[i]? with
  | none =>
    have z := List.getElem?_eq_none_iff.mp e
    exact (by simpa using z : x.cps.size ≤ i)
  | some c =>
    have z := (List.getElem?_eq_some_iff.mp e).1
    refine ⟨(by simpa using z : i < x.cps.size), fun y H'' hy => ?_⟩
    obtain ⟨eH, c', hc, ey⟩ := hy
    subst eH
    have e2 : x.cps[i]? = some c := by rw [← e]; simp
    rw [e2] at hc
    cases hc
    exact ⟨rfl, ey⟩
theorem kyA_v {K : PySem.W.Frag} {m : List Addr} {H : Hp} (k : Ky) : VR K m H (kyA k) (kV k) := by cases k <;> rfl
theorem kysA_v {K : PySem.W.Frag} {m : List Addr} {H : Hp} : ∀ (ks : List Ky), VRs K m H (ks.map kyA) (ks.map kV)
  | [] => rfl
  | k :: r => ⟨_, _, rfl, kyA_v k, kysA_v r⟩
theorem src_fk {D : Dm} {m : List Addr} {H : Hp} {d : Addr} {o : Obj} {ps : List (Key × V)} (h : H d = some (.frz o (.dK ps))) : SrcOk D m H (.tup ((ps.map (·.1)).map kyA)) (Itk d o ps) := fun hid' m' h' H' i pm km r => by
  have h' := km.2 _ _ _ h
  unfold Src.at
  dsimp only
  rw [List.getElem?_map, List.getElem?_map]
  cases e : ps[i]? with
  | none => exact ⟨h', List.getElem?_eq_none_iff.mp e⟩
  | some kv =>
    refine ⟨⟨h', (List.getElem?_eq_some_iff.mp e).1⟩, fun y H'' hy => ?_⟩
    obtain ⟨eH, k, v, hc, ey⟩ := hy
    subst eH
    rw [e] at hc
    cases hc
    exact ⟨rfl, by rw [ey]; exact kyA_v k⟩
theorem src_ft {D : Dm} {m : List Addr} {H : Hp} {d : Addr} {o : Obj} {ps : List (List Key × V)} (h : H d = some (.frz o (.dT ps))) : SrcOk D m H (.tup ((ps.map (·.1)).map fun k => .tup (k.map kyA))) (Itkt d o ps) := fun hid' m' h' H' i pm km r => by
  have h' := km.2 _ _ _ h
  unfold Src.at
  dsimp only
  rw [List.getElem?_map, List.getElem?_map]
  cases e : ps[i]? with
  | none => exact ⟨h', List.getElem?_eq_none_iff.mp e⟩
  | some kv =>
    refine ⟨⟨h', (List.getElem?_eq_some_iff.mp e).1⟩, fun y H'' hy => ?_⟩
    obtain ⟨eH, k, v, q, hc, ey, hq⟩ := hy
    subst eH
    rw [e] at hc
    cases hc
    exact ⟨rfl, q, _, ey, hq, kysA_v k⟩
theorem mi_seq {fe : SE} (he : PEm cl X W iter fe) : PIm cl X W tg iter (iSeq fe) := fun tk => by
  obtain ⟨te, h1, s1⟩ := he tk
  refine ⟨_, PI.or (pi_val h1) (PI.or (pi_str h1) (pi_keys h1)), fun hid m h H σ' σ Rk r rs q => ?_⟩
  unfold iSeq at q
  cases ef : fe σ' h with
  | bad => rw [ef] at q; exact q.elim
  | ex c fs h' =>
    rw [ef] at q
    refine .inl (s1 hid m h H σ' σ _ r rs ?_)
    rw [ef]
    exact q
  | ok v h' =>
    rw [ef] at q
    simp only [bind_ok] at q
    have go : ∀ Q : VK, (∀ m1 H1 u, m <+: m1 → Keep H H1 → Rel (dm X cl hid) m1 h' H1 → VR X.K m1 H1 v u → Q u H1) → te σ H Q := fun Q k => by
      refine s1 hid m h H σ' σ Q r rs ?_
      rw [ef]
      exact fun m1 H1 u a b c d => k m1 H1 u a b c d
    cases v with
    | str x => exact .inr (.inl (go _ fun m1 H1 u p1 k1 r1 v1 => ⟨x, v1, (Post.mono p1 k1 q).now r1 (rel := fun m H s J => SrcOk (dm X cl hid) m H s J) src_str⟩))
    | fk ks vs =>
      refine .inr (.inr (go _ fun m1 H1 u p1 k1 r1 v1 => ?_))
      obtain ⟨d, ps, eu, ⟨o, hd⟩, hk, hv⟩ := v1
      subst hk
      exact ⟨d, o, eu, .inl ⟨ps, hd, (Post.mono p1 k1 q).now r1 (rel := fun m H s J => SrcOk (dm X cl hid) m H s J) (src_fk hd)⟩⟩
    | ft ks vs =>
      refine .inr (.inr (go _ fun m1 H1 u p1 k1 r1 v1 => ?_))
      obtain ⟨d, ps, eu, ⟨o, hd⟩, hk, hv⟩ := v1
      subst hk
      exact ⟨d, o, eu, .inr ⟨ps, hd, (Post.mono p1 k1 q).now r1 (rel := fun m H s J => SrcOk (dm X cl hid) m H s J) (src_ft hd)⟩⟩
    | tup xs =>
      refine .inl (go _ fun m1 H1 u p1 k1 r1 v1 => ?_)
      obtain ⟨p0, us, e2, h2, h3⟩ := v1
      have h2 := SqT.of_tup (K := X.K) h2
      exact ⟨p0, e2, .inr ⟨⟨us, h2⟩, (Post.mono p1 k1 q).now r1 (rel := fun m H s J => SrcOk (dm X cl hid) m H s J) (src_tup h2 h3)⟩⟩
    | fl xs =>
      refine .inl (go _ fun m1 H1 u p1 k1 r1 v1 => ?_)
      obtain ⟨p0, us, e2, ⟨o, h2⟩, h3⟩ := v1
      exact ⟨p0, e2, .inl ⟨⟨us, .inl (.inr ⟨o, h2⟩)⟩, (Post.mono p1 k1 q).now r1 (rel := fun m H s J => SrcOk (dm X cl hid) m H s J) (src_fl h2 h3)⟩⟩
    | scr ns =>
      refine .inl (go _ fun m1 H1 u p1 k1 r1 v1 => ?_)
      obtain ⟨p0, e2, h2⟩ := v1
      exact ⟨p0, e2, .inl ⟨⟨_, h2.sq⟩, (Post.mono p1 k1 q).now r1 (rel := fun m H s J => SrcOk (dm X cl hid) m H s J) (src_scr h2)⟩⟩
    | ctp ss =>
      refine .inl (go _ fun m1 H1 u p1 k1 r1 v1 => ?_)
      obtain ⟨p0, e2, h2⟩ := v1
      have h2 := h2.sq
      exact ⟨p0, e2, .inr ⟨⟨_, h2⟩, (Post.mono p1 k1 q).now r1 (rel := fun m H s J => SrcOk (dm X cl hid) m H s J) (src_tup h2 (vrs_of_strs ss))⟩⟩
    | ref j =>
      dsimp only at q
      split at q
      · rename_i xs hx
        refine .inl (go _ fun m1 H1 u p1 k1 r1 v1 => ?_)
        obtain ⟨p0, us, e2, e3, h3, h4⟩ := vr_lst r1 v1 hx
        exact ⟨p0, e2, .inl ⟨⟨us, SqL.of h3⟩, (Post.mono p1 k1 q).now r1 (rel := fun m H s J => SrcOk (dm X cl hid) m H s J) (src_lst e3)⟩⟩
      · exact q.elim
    | _ => exact q.elim
theorem mi_rng1 {fe : SE} (hg : Gl X "range") (hm : X.mg "range" = none) (he : PEm cl X W a fe) (hs : starEach [a] X.env = [(false, eval a X.env)] := by rfl) : PIm cl X W tg (.Call (.Name "range" p) [a] [] pos) (iRng1 fe) := fun tk => by
  obtain ⟨te, h1, s1⟩ := he tk
  refine ⟨_, pi_range1 hg hm (pa_cons h1 pa_nil hs) hs, fun hid m h H σ' σ Rk r rs q => s1 hid m h H σ' σ _ r rs (Post.bind q fun v h1 m1 H1 u _ p1 k1 r1 v1 q1 => ?_)⟩
  cases v with
  | int j =>
    dsimp only at q1
    split at q1
    · rename_i hh
      exact ⟨j, by rw [show u = _ from v1], hh.1, hh.2, q1.now r1 (rel := fun m H s J => SrcOk (dm X cl hid) m H s J) src_rng⟩
    · exact q1.elim
  | _ => exact q1.elim
theorem mi_rng2 {fa fb : SE} (hg : Gl X "range") (hm : X.mg "range" = none) (ha : PEm cl X W a fa) (hb : PEm cl X W b fb) (hs : starEach [a, b] X.env = [(false, eval a X.env), (false, eval b X.env)] := by rfl) (hs2 : starEach [b] X.env = [(false, eval b X.env)] := by rfl) :
    PIm cl X W tg (.Call (.Name "range" p) [a, b] [] pos) (iRng2 fa fb) := fun tk => by
  obtain ⟨ta, h1, s1⟩ := ha tk
  obtain ⟨tb, h2, s2⟩ := hb tk
  refine ⟨_, pi_range2 hg hm (pa_cons h1 (pa_cons h2 pa_nil hs2) (by rw [hs, hs2])) hs hs2, fun hid m h H σ' σ Rk r rs q => s1 hid m h H σ' σ _ r rs (Post.bind q fun v h1 m1 H1 u _ p1 k1 r1 v1 q1 => ?_)⟩
  refine s2 hid m1 h1 H1 σ' σ _ r1 (rs.mono p1 k1) (Post.bind q1 fun w h2 m2 H2 uw _ p2 k2 r2 v2 q2 => ?_)
  cases v <;> cases w <;> first | exact q2.elim | skip
  rename_i i0 _ j0 _
  dsimp only at q2
  split at q2
  · rename_i hh
    exact ⟨_, _, by rw [show u = _ from v1, show uw = _ from v2], hh, q2.now r2 (rel := fun m H s J => SrcOk (dm X cl hid) m H s J) src_rng⟩
  · exact q2.elim
theorem ms_for {fi : SI} {g : SG} {js : List Nat} {fb : SS} {body : List Stmt} (hp : PassesOwn (model X.prog X.w) X.A X.env X.xe) (hc : X.calm = true) (hi : PIm cl X W tg iter fi) (hg : PGm cl X tg g js) (hb : PSsm cl X W body fb)
    (hs : ∀ x, foldedSetIterable iter X.env x = pure x := by intro _; rfl) : PSm cl X W (.For tg iter body [] pos) (sFor fi g fb) := fun tk => by
  obtain ⟨ti, h1, s1⟩ := hi tk
  obtain ⟨tg', h2, s2⟩ := hg
  obtain ⟨tb, h3, s3⟩ := hb tk
  refine ⟨_, ps_for hp hc h1 h2 h3 hs, fun hid m h H σ' σ Dn r rs q => s1 hid m h H σ' σ _ r rs (PostS.to (rel := fun m H s J => SrcOk (dm X cl hid) m H s J) rs q fun sc h1 m1 H1 J _ p1 k1 r1 v1 q1 => ?_)⟩
  refine ⟨fun i0 n0 σ2 H2 => ∃ m2 h2 σ2', m1 <+: m2 ∧ Keep H1 H2 ∧ Rel (dm X cl hid) m2 h2 H2 ∧ RelS X.K m2 H2 σ2' σ2 ∧ PostS (dm X cl hid) m2 H2 (forL sc g fb n0 i0 σ2' h2) Dn W,
    ⟨_, m1, h1, σ', List.prefix_refl m1, .rfl', r1, rs.mono p1 k1, q1⟩, ?_⟩
  rintro i0 n0 σ2 H2 ⟨m2, h2, σ2', p2, k2, r2, rs2, q2⟩
  have sv := v1 _ m2 h2 H2 i0 p2 k2 r2
  unfold forL at q2
  split at q2
  · exact q2.elim
  · rename_i e0
    rw [e0] at sv
    exact .inl ⟨sv, PostS.now (W := W) q2 r2 rs2⟩
  · rename_i v e0
    rw [e0] at sv
    obtain ⟨go, yl⟩ := sv
    split at q2
    · exact q2.elim
    · rename_i n1
      refine .inr ⟨go, fun σ3 H3 => ∃ m3 h3 σ3', m1 <+: m3 ∧ Keep H1 H3 ∧ Rel (dm X cl hid) m3 h3 H3 ∧ RelS X.K m3 H3 σ3' σ3 ∧ PostS (dm X cl hid) m3 H3 (forL sc g fb n1 (i0 + 1) σ3' h3) Dn W, fun σ3 H3 h => ⟨n1, Nat.lt_succ_self _, h⟩, fun u H3 hy => ?_⟩
      obtain ⟨eH3, v3⟩ := yl u H3 hy
      subst eH3
      have k3 : Keep H3 H3 := .rfl'
      have r3 := r2
      have rs3 := rs2.mono (List.prefix_refl m2) k3
      have q3 := PostS.mono (List.prefix_refl m2) k3 q2
      split at q3
      · exact q3.elim
      · rename_i σ4' eg
        refine s2 m2 H3 σ2' σ4' σ2 v u _ rs3 v3 eg fun σ4 rs4 _ _ => ?_
        refine s3 hid m2 h2 H3 σ4' σ4 _ r3 rs4 ?_
        have kk := k2.trans k3
        cases eb : fb σ4' h2 with
        | bad => rw [eb] at q3; exact q3.elim
        | ex c0 fs0 σ0 h0 => rw [eb] at q3; exact q3
        | ok fl h5 =>
          rw [eb] at q3
          simp only [sbind_ok] at q3
          cases fl with
          | nx σ5 => exact fun m5 H5 p5 k5 r5 σ6 rs6 => ⟨m5, h5, σ5, p2.trans p5, kk.trans k5, r5, rs6, PostS.mono p5 k5 q3⟩
          | ct σ5 => exact fun m5 H5 p5 k5 r5 σ6 rs6 => ⟨m5, h5, σ5, p2.trans p5, kk.trans k5, r5, rs6, PostS.mono p5 k5 q3⟩
          | bk σ5 => exact q3
          | rt v5 => exact q3
end
end Mi

namespace Mi
open PySem PySem.Spec PyProof.Rows L2
section
variable {cl : Nat → Addr} {X : Cx} {W : WX} {C : CE} {k : Nat} {e a b c o i tg iter elt : Expr} {es ifs : List Expr} {pos p apos pos' : Pos} {x f : Str} {rest : List Expr} {st : Stmt} {sts : List Stmt}

def cE (cl : Nat → Addr) (K : PySem.W.Frag) (W : WX) (f : SE) : TE := fun σ H Q => ∃ hid m h σ', Rel ⟨K, cl, hid⟩ m h H ∧ RelS K m H σ' σ ∧ Post ⟨K, cl, hid⟩ m H (relV K) (f σ' h) Q (atW W σ)
theorem PEm.can {f : SE} (h : PEm cl X W e f) (tk : Takes X W) : PE X e (cE cl X.K W f) := by
  obtain ⟨t, h1, s1⟩ := h tk
  exact ⟨fun pins s σ H Q I ⟨hid, m, h, σ', r, rs, q⟩ => h1.run pins s σ H Q I (s1 hid m h H σ' σ Q r rs q)⟩
def PTsm (cl : Nat → Addr) (X : Cx) (W : WX) (ifs : List Expr) (f : SB) : Prop := Takes X W → ∃ t, PTs X ifs t ∧ ∀ (hid : Hid) (m : List Addr) (h : AH) (H : Hp) (σ' : Sl) (σ : L2.St) (Q : Bool → Hp → Prop),
  Rel (dm X cl hid) m h H → RelS X.K m H σ' σ → Post (dm X cl hid) m H relB (f σ' h) Q (atW W σ) → t σ H Q
theorem mts_nil : PTsm cl X W [] tYes := fun _ => ⟨_, pts_nil, fun hid m h H σ' σ Q r rs q => q.now r rfl⟩
theorem mts_one {f : SB} (h : PTm cl X W c f) : PTsm cl X W [c] f := fun tk => by
  obtain ⟨t, h1, s1⟩ := h tk
  exact ⟨t, pts_one h1, s1⟩
def cT (cl : Nat → Addr) (K : PySem.W.Frag) (W : WX) (f : SB) : TT := fun σ H Q => ∃ hid m h σ', Rel ⟨K, cl, hid⟩ m h H ∧ RelS K m H σ' σ ∧ Post ⟨K, cl, hid⟩ m H relB (f σ' h) Q (atW W σ)
theorem PTsm.can {f : SB} (h : PTsm cl X W ifs f) (tk : Takes X W) : PTs X ifs (cT cl X.K W f) := by
  obtain ⟨t, h1, s1⟩ := h tk
  exact ⟨fun pins s σ H Q I ⟨hid, m, h, σ', r, rs, q⟩ => h1.run pins s σ H Q I (s1 hid m h H σ' σ Q r rs q)⟩
def cG (cl : Nat → Addr) (K : PySem.W.Frag) (g : SG) (js : List Nat) : TG := fun u σ H Q => ∃ m σ' σ1 v, RelS K m H σ' σ ∧ VR K m H v u ∧ g v σ' = some σ1 ∧ ∀ σ2 : L2.St, RelS K m H σ1 σ2 → σ2.length = σ.length → (∀ j, j ∉ js → σ2[j]? = σ[j]?) → Q σ2 H
theorem PGm.can {g : SG} {js : List Nat} (h : PGm cl X tg g js) : PG X tg (cG cl X.K g js) := by
  obtain ⟨t, h1, s1⟩ := h
  exact ⟨fun pins s σ H v u Q I r ⟨m, σ', σ1, w, rs, hv, e, q⟩ => h1.run pins s σ H v u Q I r (s1 m H σ' σ1 σ w v Q rs hv e q)⟩
abbrev W0 : WX := fun _ _ _ _ => False
theorem wipe_get : ∀ (vs : List Nat) (σ : L2.St) (j : Nat), (L2.wipe σ vs)[j]? = if j ∈ vs then (if j < σ.length then some none else none) else σ[j]?
  | [], σ, j => by simp [L2.wipe]
  | v :: vs, σ, j => by
    unfold L2.wipe
    rw [List.getElem?_set, wipe_get vs σ j, L2.wipe_length]
    by_cases hj : v = j
    · subst hj; simp
    · simp [hj, Ne.symm hj]
theorem wipe_eq {σ1 σ2 : L2.St} {vs js : List Nat} (hl : σ1.length = σ2.length) (hs : ∀ j ∈ js, j ∈ vs) (h : ∀ j, j ∉ js → σ1[j]? = σ2[j]?) : L2.wipe σ1 vs = L2.wipe σ2 vs := by
  refine List.ext_getElem? fun j => ?_
  rw [wipe_get, wipe_get, hl]
  by_cases hj : j ∈ vs
  · rw [if_pos hj, if_pos hj]
  · rw [if_neg hj, if_neg hj, h j fun z => hj (hs j z)]
theorem wipe_wipe (σ : L2.St) (vs : List Nat) : L2.wipe (L2.wipe σ vs) vs = L2.wipe σ vs := by
  refine List.ext_getElem? fun j => ?_
  rw [wipe_get, wipe_get, L2.wipe_length]
  by_cases hj : j ∈ vs
  · rw [if_pos hj, if_pos hj]
  · rw [if_neg hj, if_neg hj]
/-- a comprehension's reading, by its shadow -/
theorem lc_sem {D : Dm} {m : List Addr} {h : AH} {H : Hp} {σ' : Sl} {σ : L2.St} {Q : VK} {E : XK} {fi : SI} {g : SG} {js vs : List Nat} {ft : SB} {fe : SE} {wi : TI} (hjs : ∀ j ∈ js, j ∈ vs)
    (hi : ∀ Rk : It → Hp → Prop, Post D m H (fun m H s J => SrcOk D m H s J) (fi σ' h) Rk E → wi σ H Rk) (rs : RelS D.K m H σ' σ)
    (q : Post D m H (relV D.K) (sLc fi g ft fe vs σ' h) Q E) : tLc wi (cG D.cls D.K g js) (cT D.cls D.K W0 ft) (cE D.cls D.K W0 fe) vs σ H Q := by
  refine hi _ (Post.bind (rel2 := relV D.K) q fun sc h1 m1 H1 J _ p1 k1 r1 v1 q1 => ?_)
  intro Da nD
  have pre : m1 <+: m1 ++ [Da] := ⟨[Da], rfl⟩
  have kD : Keep H1 (upd H1 Da (.lst [])) := Keep.new nD
  have hD : (m1 ++ [Da])[h1.length]? = some Da := by rw [← r1.len]; simp
  refine ⟨fun i0 n0 H2 => ∃ m2 h2, m1 ++ [Da] <+: m2 ∧ Keep (upd H1 Da (.lst [])) H2 ∧ Rel D m2 h2 H2 ∧ Post D m2 H2 (relV D.K) (lcL sc g ft fe h1.length (wipeA σ' vs) n0 i0 h2) Q E,
    ⟨_, m1 ++ [Da], _, List.prefix_refl _, .rfl', r1.push (o := .lst []) nD kD (st_new nD) ⟨[], upd_same, rfl⟩, q1.mono pre kD⟩, ?_⟩
  rintro i0 n0 H2 ⟨m2, h2, p2, k2, r2, q2⟩
  have sv := v1 _ m2 h2 H2 i0 (pre.trans p2) (kD.trans k2) r2
  unfold lcL at q2
  split at q2
  · exact q2.elim
  · rename_i e0
    rw [e0] at sv
    exact .inl ⟨sv, q2.now r2 ⟨Da, pre_get p2 hD, rfl⟩⟩
  · rename_i v e0
    rw [e0] at sv
    obtain ⟨go, yl⟩ := sv
    split at q2
    · exact q2.elim
    · rename_i n1
      refine .inr ⟨go, fun H3 => ∃ m3 h3, m1 ++ [Da] <+: m3 ∧ Keep (upd H1 Da (.lst [])) H3 ∧ Rel D m3 h3 H3 ∧ Post D m3 H3 (relV D.K) (lcL sc g ft fe h1.length (wipeA σ' vs) n1 (i0 + 1) h3) Q E, fun H3 h => ⟨n1, Nat.lt_succ_self _, h⟩, fun u H3 hy => ?_⟩
      obtain ⟨eH3, v3⟩ := yl u H3 hy
      subst eH3
      have k3 : Keep H3 H3 := .rfl'
      have r3 := r2
      have q3 := Post.mono (List.prefix_refl m2) k3 q2
      have kk := k2.trans k3
      have rs0 : RelS D.K m2 H3 σ' σ := ((rs.mono p1 k1).mono (pre.trans p2) ((kD.trans k2).trans k3))
      split at q3
      · rename_i σ4' eg
        refine ⟨m2, _, σ4', v, rs0.wipe vs, v3, eg, fun σ4 rs4 l4 o4 => ⟨?_, D.hid, m2, h2, σ4', r3, rs4, ?_⟩⟩
        · rw [← wipe_wipe σ vs]
          exact wipe_eq l4 hjs o4
        · split at q3
          · rename_i h4 e4
            rw [e4]
            intro m4 H4 t4 p4 k4 r4 z4
            subst z4
            rw [if_pos rfl]
            refine ⟨D.hid, m4, h4, σ4', r4, rs4.mono p4 k4, ?_⟩
            split at q3
            · rename_i w h5 e5
              rw [e5]
              intro m5 H5 y p5 k5 r5 v5
              split at q3
              · rename_i acc eD
                split at q3
                · rename_i hl
                  have hD5 : m5[h1.length]? = some Da := pre_get p5 (pre_get p4 (pre_get p2 hD))
                  obtain ⟨us, h6, h7⟩ := r5.ob _ _ Da eD hD5
                  refine ⟨us, h6, by rw [h7.length]; exact hl, m5, _, (p2.trans p4).trans p5, ?_, r5.lst hD5 h6 (h7.append (ys := [w]) ⟨_, _, rfl, v5, rfl⟩), ?_⟩
                  · exact ((kk.trans k4).trans k5).trans (Keep.chg h6 trivial)
                  · exact (Post.mono (p4.trans p5) ((k4.trans k5).trans (Keep.chg h6 trivial)) q3)
                · exact q3.elim
              · exact q3.elim
            · exact q3.elim
          · rename_i h4 e4
            rw [e4]
            intro m4 H4 t4 p4 k4 r4 z4
            subst z4
            rw [if_neg Bool.false_ne_true]
            exact ⟨m4, h4, p2.trans p4, kk.trans k4, r4, Post.mono p4 k4 q3⟩
          · exact q3.elim
      · exact q3.elim
/-- a comprehension whose list is a value, by its shadow -/
theorem lcF_sem {D : Dm} {m : List Addr} {h : AH} {H : Hp} {σ' : Sl} {σ : L2.St} {Q : VK} {E : XK} {fi : SI} {g : SG} {js vs : List Nat} {ft : SB} {fe : SE} {wi : TI} (hjs : ∀ j ∈ js, j ∈ vs)
    (hi : ∀ Rk : It → Hp → Prop, Post D m H (fun m H s J => SrcOk D m H s J) (fi σ' h) Rk E → wi σ H Rk) (rs : RelS D.K m H σ' σ)
    (q : Post D m H (relV D.K) (sLcF fi g ft fe vs σ' h) Q E) : tLc wi (cG D.cls D.K g js) (cT D.cls D.K W0 ft) (cE D.cls D.K W0 fe) vs σ H (FQ Q) := by
  refine hi _ (Post.bind (rel2 := relV D.K) q fun sc h1 m1 H1 J _ p1 k1 r1 v1 q1 => ?_)
  intro Da nD
  have kD : Keep H1 (upd H1 Da (.lst [])) := Keep.new nD
  have nh : ∀ q ∈ D.hid, q.1 ≠ Da := fun q hq z => by
    have y := (r1.hd q hq).1
    rw [z, nD] at y; cases y
  refine ⟨fun i0 n0 H2 => ∃ m2 h2 acc us, m1 <+: m2 ∧ Keep (upd H1 Da (.lst [])) H2 ∧ Rel D m2 h2 H2 ∧ H2 Da = some (.lst us) ∧ Da ∉ m2 ∧ VRs D.K m2 H2 acc us ∧ Post D m2 H2 (relV D.K) (lcF sc g ft fe (wipeA σ' vs) n0 i0 acc h2) Q E,
    ⟨_, m1, _, [], [], List.prefix_refl _, .rfl', r1.fresh nD, upd_same, r1.free nD, rfl, q1.mono (List.prefix_refl _) kD⟩, ?_⟩
  rintro i0 n0 H2 ⟨m2, h2, acc, us, p2, k2, r2, eD, nm, va, q2⟩
  have sv := v1 _ m2 h2 H2 i0 p2 (kD.trans k2) r2
  unfold lcF at q2
  split at q2
  · exact q2.elim
  · rename_i e0
    rw [e0] at sv
    refine .inl ⟨sv, .lock Da _ eD trivial fun od => .now ?_⟩
    have kk : Keep H2 (upd H2 Da (.frz od (.lst us))) := Keep.chg eD trivial
    exact q2 m2 _ _ (List.prefix_refl m2) kk (r2.side kk nm nh) ⟨Da, us, rfl, ⟨od, upd_same⟩, VRs.mono (List.prefix_refl m2) kk _ _ va⟩
  · rename_i v e0
    rw [e0] at sv
    obtain ⟨go, yl⟩ := sv
    split at q2
    · exact q2.elim
    · rename_i n1
      refine .inr ⟨go, fun H3 => ∃ m3 h3 acc us, m1 <+: m3 ∧ Keep (upd H1 Da (.lst [])) H3 ∧ Rel D m3 h3 H3 ∧ H3 Da = some (.lst us) ∧ Da ∉ m3 ∧ VRs D.K m3 H3 acc us ∧ Post D m3 H3 (relV D.K) (lcF sc g ft fe (wipeA σ' vs) n1 (i0 + 1) acc h3) Q E, fun H3 h => ⟨n1, Nat.lt_succ_self _, h⟩, fun u H3 hy => ?_⟩
      obtain ⟨eH3, v3⟩ := yl u H3 hy
      subst eH3
      have rs0 : RelS D.K m2 H3 σ' σ := ((rs.mono p1 k1).mono p2 (kD.trans k2))
      have rh := r2.hide eD nm
      split at q2
      · rename_i σ4' eg
        refine ⟨m2, _, σ4', v, rs0.wipe vs, v3, eg, fun σ4 rs4 l4 o4 => ⟨?_, (Da, .lst us) :: D.hid, m2, h2, σ4', rh, rs4, ?_⟩⟩
        · rw [← wipe_wipe σ vs]
          exact wipe_eq l4 hjs o4
        · split at q2
          · rename_i h4 e4
            rw [e4]
            intro m4 H4 t4 p4 k4 r4 z4
            subst z4
            rw [if_pos rfl]
            refine ⟨(Da, .lst us) :: D.hid, m4, h4, σ4', r4, rs4.mono p4 k4, ?_⟩
            split at q2
            · rename_i w h5 e5
              rw [e5]
              intro m5 H5 y p5 k5 r5 v5
              split at q2
              · rename_i hl
                obtain ⟨e6, n6, r6⟩ := r5.show_
                have va5 := VRs.mono (p4.trans p5) (k4.trans k5) _ _ va
                have k6 : Keep H5 (upd H5 Da (.lst (us ++ [y]))) := Keep.chg e6 trivial
                refine ⟨us, e6, by rw [va.length]; exact hl, m5, _, acc ++ [w], us ++ [y], (p2.trans p4).trans p5, ((k2.trans k4).trans k5).trans k6, r6.side k6 n6 nh, upd_same, n6, VRs.mono (List.prefix_refl m5) k6 _ _ (va5.append (ys := [w]) ⟨_, _, rfl, v5, rfl⟩), ?_⟩
                exact Post.mono (p4.trans p5) ((k4.trans k5).trans k6) q2
              · exact q2.elim
            · exact q2.elim
          · rename_i h4 e4
            rw [e4]
            intro m4 H4 t4 p4 k4 r4 z4
            subst z4
            rw [if_neg Bool.false_ne_true]
            obtain ⟨e6, n6, r6⟩ := r4.show_
            exact ⟨m4, h4, acc, us, p2.trans p4, k2.trans k4, r6, e6, n6, VRs.mono p4 k4 _ _ va, Post.mono p4 k4 q2⟩
          · exact q2.elim
      · exact q2.elim
theorem m_lc {fi : SI} {g : SG} {js : List Nat} {ft : SB} {fe : SE} {scope : Scope} {own : List (Str × Nat)} (hc : X.calm = true) (hN : X.N.Nodup) (hi : PIm cl X W tg iter fi) (ok : BlkOk X.N X.env.scope scope own) (hjs : ∀ j ∈ js, j ∈ own.map (·.2))
    (hg : ∀ (s : Shared) (H : Hp) (C : Addr) (cl' : List (Str × Addr)) (fp : List Addr), PGm cl (X.blk s H scope (compEnvC scope cl' C X.env) fp) tg g js)
    (ht : ∀ (s : Shared) (H : Hp) (C : Addr) (cl' : List (Str × Addr)) (fp : List Addr), PTsm cl (X.blk s H scope (compEnvC scope cl' C X.env) fp) W0 ifs ft)
    (he : ∀ (s : Shared) (H : Hp) (C : Addr) (cl' : List (Str × Addr)) (fp : List Addr), PEm cl (X.blk s H scope (compEnvC scope cl' C X.env) fp) W0 elt fe) (hs : ∀ x, foldedSetIterable iter X.env x = pure x := by intro _; rfl) :
    PEm cl X W (.ListComp elt [⟨tg, iter, ifs, 0⟩] scope pos) (sLc fi g ft fe (own.map (·.2))) := fun tk => by
  obtain ⟨wi, h1, s1⟩ := hi tk
  refine ⟨_, pe_lc (te := cE cl X.K W0 fe) (tt := cT cl X.K W0 ft) (g := cG cl X.K g js) hc hN h1 ok (fun s H C cl' fp => (hg s H C cl' fp).can) (fun s H C cl' fp => (ht s H C cl' fp).can takes0) (fun s H C cl' fp => (he s H C cl' fp).can takes0) hs, fun hid m h H σ' σ Q r rs q => ?_⟩
  exact lc_sem (D := dm X cl hid) hjs (fun Rk => s1 hid m h H σ' σ Rk r rs) rs q
/-- y = [..] on one line -/
theorem ms_lc {y : Str} {py spos : Pos} (j0 : Nat) {fi : SI} {g : SG} {js : List Nat} {ft : SB} {fe : SE} {scope : Scope} {own : List (Str × Nat)} (hc : X.calm = true) (hN : X.N.Nodup) (hsw : swapsWith (.ListComp elt [⟨tg, iter, ifs, 0⟩] scope pos) (some (.Name y py)) spos.line X.env = pure true) (hi : PIm cl X W tg iter fi) (ok : BlkOk X.N X.env.scope scope own) (hjs : ∀ j ∈ js, j ∈ own.map (·.2))
    (hg : ∀ (s : Shared) (H : Hp) (C : Addr) (cl' : List (Str × Addr)) (fp : List Addr), PGm cl (X.blk s H scope (compEnvC scope cl' C X.env) fp) tg g js)
    (ht : ∀ (s : Shared) (H : Hp) (C : Addr) (cl' : List (Str × Addr)) (fp : List Addr), PTsm cl (X.blk s H scope (compEnvC scope cl' C X.env) fp) W0 ifs ft)
    (he : ∀ (s : Shared) (H : Hp) (C : Addr) (cl' : List (Str × Addr)) (fp : List Addr), PEm cl (X.blk s H scope (compEnvC scope cl' C X.env) fp) W0 elt fe) (hy : X.N[j0]? = some y := by rfl) (hyl : X.env.scope.names.lookup y = some .local := by rfl)
    (hs : ∀ x, foldedSetIterable iter X.env x = pure x := by intro _; rfl) :
    PSm cl X W (.Assign [.Name y py] (.ListComp elt [⟨tg, iter, ifs, 0⟩] scope pos) spos) (ssSet j0 (sLc fi g ft fe (own.map (·.2)))) := fun tk => by
  obtain ⟨wi, h1, s1⟩ := hi tk
  refine ⟨_, ps_setLc (te := cE cl X.K W0 fe) (tt := cT cl X.K W0 ft) (g := cG cl X.K g js) (i := j0) hc hN hy hyl hsw h1 ok (fun s H C cl' fp => (hg s H C cl' fp).can) (fun s H C cl' fp => (ht s H C cl' fp).can takes0) (fun s H C cl' fp => (he s H C cl' fp).can takes0) hs, fun hid m h H σ' σ Dn r rs q => ?_⟩
  refine lc_sem (D := dm X cl hid) (E := atW W σ) hjs (fun Rk => s1 hid m h H σ' σ Rk r rs) rs (PostS.to rs q fun v h1 m1 H1 u _ p1 k1 r1 v1 q1 => ?_)
  exact PostS.now (W := W) q1 r1 ((rs.mono p1 k1).set j0 v1)

theorem m_lcF {fi : SI} {g : SG} {js : List Nat} {ft : SB} {fe : SE} {scope : Scope} {own : List (Str × Nat)} (hc : X.calm = true) (hN : X.N.Nodup) (hi : PIm cl X W tg iter fi) (ok : BlkOk X.N X.env.scope scope own) (hjs : ∀ j ∈ js, j ∈ own.map (·.2))
    (hg : ∀ (s : Shared) (H : Hp) (C : Addr) (cl' : List (Str × Addr)) (fp : List Addr), PGm cl (X.blk s H scope (compEnvC scope cl' C X.env) fp) tg g js)
    (ht : ∀ (s : Shared) (H : Hp) (C : Addr) (cl' : List (Str × Addr)) (fp : List Addr), PTsm cl (X.blk s H scope (compEnvC scope cl' C X.env) fp) W0 ifs ft)
    (he : ∀ (s : Shared) (H : Hp) (C : Addr) (cl' : List (Str × Addr)) (fp : List Addr), PEm cl (X.blk s H scope (compEnvC scope cl' C X.env) fp) W0 elt fe) (hs : ∀ x, foldedSetIterable iter X.env x = pure x := by intro _; rfl) :
    PEm cl X W (.ListComp elt [⟨tg, iter, ifs, 0⟩] scope pos) (sLcF fi g ft fe (own.map (·.2))) := fun tk => by
  obtain ⟨wi, h1, s1⟩ := hi tk
  refine ⟨_, fqE (pe_lc (te := cE cl X.K W0 fe) (tt := cT cl X.K W0 ft) (g := cG cl X.K g js) hc hN h1 ok (fun s H C cl' fp => (hg s H C cl' fp).can) (fun s H C cl' fp => (ht s H C cl' fp).can takes0) (fun s H C cl' fp => (he s H C cl' fp).can takes0) hs), fun hid m h H σ' σ Q r rs q => ?_⟩
  exact lcF_sem (D := dm X cl hid) hjs (fun Rk => s1 hid m h H σ' σ Rk r rs) rs q
/-- y = [..] on one line -/
theorem ms_lcF {y : Str} {py spos : Pos} (j0 : Nat) {fi : SI} {g : SG} {js : List Nat} {ft : SB} {fe : SE} {scope : Scope} {own : List (Str × Nat)} (hc : X.calm = true) (hN : X.N.Nodup) (hsw : swapsWith (.ListComp elt [⟨tg, iter, ifs, 0⟩] scope pos) (some (.Name y py)) spos.line X.env = pure true) (hi : PIm cl X W tg iter fi) (ok : BlkOk X.N X.env.scope scope own) (hjs : ∀ j ∈ js, j ∈ own.map (·.2))
    (hg : ∀ (s : Shared) (H : Hp) (C : Addr) (cl' : List (Str × Addr)) (fp : List Addr), PGm cl (X.blk s H scope (compEnvC scope cl' C X.env) fp) tg g js)
    (ht : ∀ (s : Shared) (H : Hp) (C : Addr) (cl' : List (Str × Addr)) (fp : List Addr), PTsm cl (X.blk s H scope (compEnvC scope cl' C X.env) fp) W0 ifs ft)
    (he : ∀ (s : Shared) (H : Hp) (C : Addr) (cl' : List (Str × Addr)) (fp : List Addr), PEm cl (X.blk s H scope (compEnvC scope cl' C X.env) fp) W0 elt fe) (hy : X.N[j0]? = some y := by rfl) (hyl : X.env.scope.names.lookup y = some .local := by rfl)
    (hs : ∀ x, foldedSetIterable iter X.env x = pure x := by intro _; rfl) :
    PSm cl X W (.Assign [.Name y py] (.ListComp elt [⟨tg, iter, ifs, 0⟩] scope pos) spos) (ssSet j0 (sLcF fi g ft fe (own.map (·.2)))) := fun tk => by
  obtain ⟨wi, h1, s1⟩ := hi tk
  refine ⟨_, fqS (ps_setLc (te := cE cl X.K W0 fe) (tt := cT cl X.K W0 ft) (g := cG cl X.K g js) (i := j0) hc hN hy hyl hsw h1 ok (fun s H C cl' fp => (hg s H C cl' fp).can) (fun s H C cl' fp => (ht s H C cl' fp).can takes0) (fun s H C cl' fp => (he s H C cl' fp).can takes0) hs), fun hid m h H σ' σ Dn r rs q => ?_⟩
  refine lcF_sem (D := dm X cl hid) (E := atW W σ) hjs (fun Rk => s1 hid m h H σ' σ Rk r rs) rs (PostS.to rs q fun v h1 m1 H1 u _ p1 k1 r1 v1 q1 => ?_)
  exact PostS.now (W := W) q1 r1 ((rs.mono p1 k1).set j0 v1)

def CallRs (X : Cx) (f : Value) (r : L2.St → List V → Hp → VK → Prop) : Prop :=
  ∀ (pins : List (Addr × Obj)) (s : Shared) (σ : L2.St) (H : Hp) (xs : List V) (us : List Value) (Q : VK), Inv X pins σ H s → Vals xs us → r σ xs H Q → wpAny (model X.prog X.w) X.A (call f us) (EP X pins σ Q) X.xe s
theorem CallRs.or {f : Value} {r r' : L2.St → List V → Hp → VK → Prop} (h : CallRs X f r) (h' : CallRs X f r') : CallRs X f (fun σ x H Q => r σ x H Q ∨ r' σ x H Q) := fun pins s σ H x us Q I rx q => q.elim (h pins s σ H x us Q I rx) (h' pins s σ H x us Q I rx)
theorem CallRs.fq {X : Cx} {f : Value} {r : L2.St → List V → Hp → VK → Prop} (h : CallRs X f r) : CallRs X f (fun σ xs H Q => r σ xs H (FQ Q)) := fun pins s σ H x us Q I rx q => thn (h pins s σ H x us _ I rx q) fun _ _ z => ep_fq z
theorem CallRs.of {f : Value} {r : List V → Hp → VK → Prop} (h : CallR X f r) : CallRs X f (fun _ => r) := h
def CallOk (cl : Nat → Addr) (X : Cx) (W : WX) (fv : Value) (f : List AV → AH → R AV) : Prop := Takes X W → ∃ r, CallRs X fv r ∧ ∀ (hid : Hid) (m : List Addr) (h : AH) (H : Hp) (σ : L2.St) (vs : List AV) (us : List V) (Q : VK),
  Rel (dm X cl hid) m h H → VRs X.K m H vs us → Post (dm X cl hid) m H (relV X.K) (f vs h) Q (atW W σ) → r σ us H Q
theorem m_callB {id : String} {f : List AV → AH → R AV} {fa : SA} (hk : CallOk cl X W (.builtin id) f) (hg : Gl X x) (hm : X.mg x = none) (hv : bootBuiltins x = some (.builtin id)) (ha : PAm cl X W (e :: es) fa) (hn : x ≠ "__name__" := by decide) (hdb : (x == ("__debug__" : Str)) = false := by decide)
    (he : starEach (e :: es) X.env = (false, eval e X.env) :: starEach es X.env := by rfl) (hpl : (backTo pos (starEach es X.env)).any (·.1) = false := by rfl) : PEm cl X W (.Call (.Name x p) (e :: es) [] pos) (opN f fa) := fun tk => by
  obtain ⟨r, hr, sr⟩ := hk tk
  obtain ⟨ta, h1, s1⟩ := ha tk
  refine ⟨fun σ H Q => ta σ H fun vs H1 => r σ vs H1 Q, ⟨fun pins s σ H Q I h => ?_⟩, fun hid m h H σ' σ Q rl rs q => s1 hid m h H σ' σ _ rl rs (Post.bind q fun vs h1 m1 H1 us _ p1 k1 r1 v1 q1 => sr hid m1 h1 H1 σ vs us Q r1 v1 q1)⟩
  refine wpAny_Call_Name_kw (ld_blt I hg hm hv ?_ hn hdb)
  exact PyProof.Rows.callWith_builtin1 (thn (h1.run pos pins s σ H _ I h) fun us s1 ⟨vs, H1, I1, r1, q1⟩ => hr pins s1 σ H1 vs us Q I1 r1 q1) he hpl
theorem m_callTy {T : String} {f : List AV → AH → R AV} {fa : SA} (hk : CallOk cl X W (.type T) f) (hg : Gl X x) (hm : X.mg x = none) (hv : bootBuiltins x = some (.type T)) (ha : PAm cl X W (e :: es) fa) (hn : x ≠ "__name__" := by decide) (hdb : (x == ("__debug__" : Str)) = false := by decide)
    (he : starEach (e :: es) X.env = (false, eval e X.env) :: starEach es X.env := by rfl) (hpl : (backTo pos (starEach es X.env)).any (·.1) = false := by rfl) : PEm cl X W (.Call (.Name x p) (e :: es) [] pos) (opN f fa) := fun tk => by
  obtain ⟨r, hr, sr⟩ := hk tk
  obtain ⟨ta, h1, s1⟩ := ha tk
  refine ⟨fun σ H Q => ta σ H fun vs H1 => r σ vs H1 Q, ⟨fun pins s σ H Q I h => ?_⟩, fun hid m h H σ' σ Q rl rs q => s1 hid m h H σ' σ _ rl rs (Post.bind q fun vs h1 m1 H1 us _ p1 k1 r1 v1 q1 => sr hid m1 h1 H1 σ vs us Q r1 v1 q1)⟩
  refine wpAny_Call_Name_kw (ld_blt I hg hm hv ?_ hn hdb)
  exact PyProof.Rows.callWith_type1 (thn (h1.run pos pins s σ H _ I h) fun us s1 ⟨vs, H1, I1, r1, q1⟩ => hr pins s1 σ H1 vs us Q I1 r1 q1) he hpl
/-- a built-in of one argument -/
theorem CallOk.one {fv : Value} {g : AV → AH → R AV} (r : L2.St → List V → Hp → VK → Prop) (h : CallRs X fv r) (s : ∀ (hid : Hid) (m : List Addr) (h : AH) (H : Hp) (σ : L2.St) (v : AV) (u : V) (Q : VK),
    Rel (dm X cl hid) m h H → VR X.K m H v u → Post (dm X cl hid) m H (relV X.K) (g v h) Q (atW W σ) → r σ [u] H Q) : CallOk cl X W fv (arg1 g) := fun tk => ⟨r, h, fun hid m h H σ vs us Q rl hv q => by
  match vs, hv with
  | [v], ⟨u, _, e1, h1, e2⟩ => rw [e1, show _ = [] from e2]; exact s hid m h H σ v u Q rl h1 q
  | [], _ => exact q.elim
  | _ :: _ :: _, _ => exact q.elim⟩
/-- len of an instance, by its class's __len__ -/
def rLenD (cl : Nat → Addr) (X : Cx) (W : WX) (C : CE) : L2.St → List V → Hp → VK → Prop := fun σ xs H Q => ∃ (c i : Nat) (a dx : Addr) (fs : List (Str × V)), C.dn c .len = some i ∧ xs = [.ref a] ∧ H a = some (.ins (cl c) dx fs) ∧
  spF cl X.K (C.call i) [.ref a] H (fun v H' => ∃ n, v = .int n ∧ 0 ≤ n ∧ n ≤ 1000000 ∧ Q v H') (atW W σ)
/-- a def runs one C frame below -/
theorem run_in1 {pins : List (Addr × Obj)} {σ : L2.St} {H : Hp} {s : Shared} {f : Addr} {sp : Sp} {Q : VK} {us : List Value} {vs : List V} (F : FnR X.prog X.w X.K X.mg X.base (L2.CX X.prog X.w) k f sp) (hr : Room (k + 1) X.A) (tk : Takes X W) (I : Inv X pins σ H s) (r : Vals vs us) (h : sp vs H Q (atW W σ)) :
    wpAny (model X.prog X.w) X.A.in1 (call (.ref f) us) (EP X pins σ Q) X.xe s := by
  refine wpAny_call (codeAny_mono (F X.A.in1 X.stack s H us vs Q (atW W σ) hr.in1 I.env0.in1 r h) fun r s' hq => ?_)
  cases r with
  | error e => exact passAt tk σ pins H s e s' I hq
  | ok fl =>
    cases fl with
    | ret u => exact I.after hq
    | next => exact False.elim hq
    | brk => exact False.elim hq
    | cont => exact False.elim hq
theorem call_lenD (T : DunT cl X k C .len "__len__") (hr : Room (k + 1) X.A) (tk : Takes X W) : CallRs X (.builtin "len") (rLenD cl X W C) := by
  intro pins s σ H xs us Q I r h
  obtain ⟨c, i, a, dx, fs, e, rfl, ha, q⟩ := h
  obtain ⟨u, rfl, ru⟩ := vals1 r
  cases (show u = Value.ref a from ru)
  obtain ⟨⟨f, F⟩, hs, _⟩ := T c i e
  obtain ⟨ox, od, J⟩ := inst_at I ha
  obtain ⟨m, hF⟩ := I.fr
  refine PySem.W.len_K hF I.ok.mod.kin J F.at_ F.fn ?_
  refine wpAny_mono (run_in1 (us := [.ref a]) (vs := [.ref a]) F.run hr tk I (.cons rfl .nil) q) (fun w s' z => ?_) fun _ _ x => x
  obtain ⟨z', H', I', rz, n, en, h0, h1, qz⟩ := z
  subst en
  obtain ⟨t, et⟩ := (show ∃ t, w = Value.int n t from rz)
  subst et
  exact ⟨⟨h0, by omega⟩, .int n, H', I'.tok _, ⟨_, rfl⟩, qz⟩
theorem c_len (T : DunT cl X k C .len "__len__") (hr : Room (k + 1) X.A) : CallOk cl X W (.builtin "len") (arg1 (bLen C)) := fun tk => CallOk.one _ ((CallRs.of call_len).or (call_lenD T hr tk)) (fun hid m h H σ v u Q r hv q => by
  unfold bLen at q
  split at q
  · split at q
    · rename_i hl
      exact .inl ⟨u, _, rfl, by rw [show u = _ from hv]; exact ⟨hl, rfl⟩, q.now r rfl⟩
    · exact q.elim
  · split at q
    · rename_i xs ex
      obtain ⟨p0, us, e1, hq, h2⟩ := seqOf_sq r hv ex
      subst e1
      refine .inl ⟨_, us.length, rfl, ?_, ?_⟩
      · rcases hq with hq | hq
        · exact .inl ⟨us, hq, rfl⟩
        · exact .inr ⟨us, hq, rfl⟩
      · rw [h2.length]; exact q.now r rfl
    · split at q
      · rename_i c fs ec
        split at q
        · rename_i i ei
          obtain ⟨a0, dx, gs, rfl, h3, h4, _⟩ := cls_get r hv ec
          refine .inr ⟨c, i, a0, dx, gs, ei, rfl, h3, hid, m, h, [v], r, ⟨_, _, rfl, hv, rfl⟩, ?_⟩
          split at q
          · rename_i n h1 en
            split at q
            · rename_i hh
              rw [en]
              exact fun m' H' u a b c d => ⟨n, d, hh.1, hh.2, q m' H' u a b c d⟩
            · exact q.elim
          · exact q.elim
        · exact q.elim
      · exact q.elim) tk
theorem c_int : CallOk cl X W (.type "int") (arg1 bInt) := CallOk.one _ (CallRs.of call_int1) fun hid m h H σ v u Q r hv q => by
  unfold bInt at q
  split at q
  · exact .inl ⟨_, by rw [show u = _ from hv], q.now r rfl⟩
  · exact q.elim
theorem c_str : CallOk cl X W (.type "str") (arg1 bStr) := CallOk.one _ (CallRs.of SkE.call_str_str) fun hid m h H σ v u Q r hv q => by
  unfold bStr at q
  split at q
  · exact ⟨_, by rw [show u = _ from hv], q.now r rfl⟩
  · exact q.elim
theorem c_all (hc : X.calm = true) : CallOk cl X W (.builtin "all") (arg1 bAll) := CallOk.one _ (CallRs.of (cr_all hc)) fun hid m h H σ v u Q r hv q => by
  unfold bAll at q
  split at q
  · rename_i xs ex
    split at q
    · rename_i bs eb
      obtain ⟨p0, us, e1, h1, h2⟩ := lst_sq r hv ex
      have z := vrs_bls eb h2
      subst z e1
      exact ⟨p0, bs, rfl, h1, q.now r rfl⟩
    · exact q.elim
  · exact q.elim
end
end Mi

namespace Mi
open PySem PySem.Spec PyProof.Rows L2

theorem lt_irrefl : ∀ a : List Nat, ltCps a a = false
  | [] => rfl
  | a :: r => by simp [ltCps, lt_irrefl r]
theorem lt_trans' : ∀ a b c : List Nat, ltCps a b = true → ltCps b c = true → ltCps a c = true
  | [], [], _, h, _ => by cases h
  | [], _ :: _, [], _, h => by cases h
  | [], _ :: _, _ :: _, _, _ => rfl
  | _ :: _, [], _, h, _ => by cases h
  | _ :: _, _ :: _, [], _, h => by cases h
  | a :: r, b :: s, c :: t, h1, h2 => by
    simp only [ltCps, Bool.or_eq_true, decide_eq_true_eq, Bool.and_eq_true, beq_iff_eq] at h1 h2 ⊢
    rcases h1 with h1 | ⟨h1, h1'⟩ <;> rcases h2 with h2 | ⟨h2, h2'⟩
    · exact .inl (by omega)
    · exact .inl (by omega)
    · exact .inl (by omega)
    · exact .inr ⟨by omega, lt_trans' r s t h1' h2'⟩
theorem lt_tri : ∀ a b : List Nat, ltCps a b = false → ltCps b a = false → a = b
  | [], [], _, _ => rfl
  | [], _ :: _, h, _ => by cases h
  | _ :: _, [], _, h => by cases h
  | a :: r, b :: s, h1, h2 => by
    simp only [ltCps, Bool.or_eq_false_iff, decide_eq_false_iff_not, Bool.and_eq_false_iff, beq_eq_false_iff_ne] at h1 h2
    have e : a = b := by omega
    subst e
    have h1' := h1.2.resolve_left (fun z => z rfl)
    have h2' := h2.2.resolve_left (fun z => z rfl)
    rw [lt_tri r s h1' h2']
theorem leS_trans (a b c : Str) (h1 : leS a b = true) (h2 : leS b c = true) : leS a c = true := by
  unfold leS at *
  rw [Bool.not_eq_true'] at *
  cases h : ltCps c.cps.toList a.cps.toList with
  | false => rfl
  | true =>
    cases hb : ltCps a.cps.toList b.cps.toList with
    | true => rw [lt_trans' _ _ _ h hb] at h2; cases h2
    | false =>
      have e := lt_tri _ _ hb h1
      rw [← e] at h2
      rw [h] at h2; cases h2
theorem leS_total (a b : Str) : (leS a b || leS b a) = true := by
  unfold leS
  cases h : ltCps b.cps.toList a.cps.toList with
  | false => rfl
  | true =>
    cases h' : ltCps a.cps.toList b.cps.toList with
    | false => rfl
    | true =>
      have z := lt_trans' _ _ _ h h'
      rw [lt_irrefl] at z; cases z
theorem leS_anti {a b : Str} (h1 : leS a b = true) (h2 : leS b a = true) : a = b := by
  unfold leS at *
  rw [Bool.not_eq_true'] at *
  have e := lt_tri _ _ h2 h1
  cases a; cases b
  simpa using e
theorem rising_pw : ∀ (p : Str) (l : List Str), risingS p l = true → (p :: l).Pairwise (fun a b => leS a b = true)
  | p, [], _ => by simp
  | p, x :: r, h => by
    have h' : (!ltCps x.cps.toList p.cps.toList && risingS x r) = true := h
    rw [Bool.and_eq_true] at h'
    have ih := rising_pw x r h'.2
    refine List.pairwise_cons.mpr ⟨fun y hy => ?_, ih⟩
    rcases List.mem_cons.mp hy with rfl | hy
    · exact h'.1
    · exact leS_trans _ _ _ h'.1 ((List.pairwise_cons.mp ih).1 y hy)
theorem sortedS_pw : ∀ l : List Str, sortedS l = true → l.Pairwise (fun a b => leS a b = true)
  | [], _ => .nil
  | x :: r, h => rising_pw x r h
theorem pw_uniq : ∀ {l1 l2 : List Str}, l1.Perm l2 → l1.Pairwise (fun a b => leS a b = true) → l2.Pairwise (fun a b => leS a b = true) → l1 = l2
  | [], l2, p, _, _ => (List.nil_perm.mp p).symm
  | a :: l1, l2, p, h1, h2 => by
    cases l2 with
    | nil => exact absurd (List.perm_nil.mp p) (by simp)
    | cons b l2 =>
      have ha : a ∈ b :: l2 := p.mem_iff.mp (by simp)
      have hb : b ∈ a :: l1 := p.mem_iff.mpr (by simp)
      have e : a = b := by
        rcases List.mem_cons.mp ha with e | ha
        · exact e
        · rcases List.mem_cons.mp hb with e | hb
          · exact e.symm
          · exact leS_anti ((List.pairwise_cons.mp h1).1 b hb) ((List.pairwise_cons.mp h2).1 a ha)
      subst e
      rw [pw_uniq ((List.perm_cons a).mp p) (List.pairwise_cons.mp h1).2 (List.pairwise_cons.mp h2).2]
theorem sortS_pw (l : List Str) : (sortS l).Pairwise (fun a b => leS a b = true) := List.pairwise_mergeSort leS_trans leS_total l
theorem sortS_perm (l : List Str) : (sortS l).Perm l := List.mergeSort_perm l leS
theorem sortS_uniq {l ys : List Str} (p : ys.Perm l) (h : sortedS ys = true) : ys = sortS l := pw_uniq (p.trans (sortS_perm l).symm) (sortedS_pw ys h) (sortS_pw l)
theorem sortS_congr {l1 l2 : List Str} (p : l1.Perm l2) : sortS l1 = sortS l2 := pw_uniq ((sortS_perm l1).trans (p.trans (sortS_perm l2).symm)) (sortS_pw l1) (sortS_pw l2)
section
variable {cl : Nat → Addr} {X : Cx} {W : WX} {C : CE} {k : Nat} {e a b c o i tg iter elt : Expr} {es ifs : List Expr} {pos p apos pos' : Pos} {x f : Str} {rest : List Expr} {st : Stmt} {sts : List Stmt}
theorem c_sorted : CallOk cl X W (.builtin "sorted") (arg1 bSorted) := CallOk.one _ (CallRs.of cr_sortedS).fq fun hid m h H σ v u Q r hv q => by
  unfold bSorted at q
  split at q
  · rename_i xs ex
    split at q
    · rename_i ss es
      split at q
      · rename_i hl
        obtain ⟨p0, us, e1, h1, h2⟩ := lst_sq r hv ex
        have z := vrs_strs es h2
        subst z e1
        refine ⟨p0, ss, rfl, h1, hl, fun ys pp hp hs hn => ?_⟩
        have e := sortS_uniq hp hs
        subst e
        exact Post.newL (b := false) r (vrs_of_strs _) q pp hn
      · exact q.elim
    · exact q.elim
  · exact q.elim

/-- what isinstance asks of an own class -/
structure IsaC (K : PySem.W.Frag) (C : Addr) : Prop where
  cl : Cls K C
  ca : PySem.W.findIn K (.ref C) "__class__" = some (some (.builtin "object.__class__"))
  cn : PySem.W.specialIn K (.builtin "object.__class__") "__get__" = some (some (.builtin "getset_descriptor.__get__"))
  ct : PySem.W.takesIn K (.builtin "object.__class__") = some true
  cm : PySem.W.mroIn K C (.type "object") = some true
theorem IsaC.ty {K : PySem.W.Frag} {C : Addr} (c : IsaC K C) {H : Hp} {a dx : Addr} {fs : List (Str × V)} (e : H a = some (.ins C dx fs)) : TyX K H (.ref a) (.ref C) := .base (.ins e c.cl c.ca c.cn c.ct c.cm)
/-- what isinstance(.., C) asks of C -/
structure IsaT (K : PySem.W.Frag) (cl : Nat → Addr) (C : Addr) (cs : List (Nat × Bool)) : Prop where
  own : ∀ c b, cs.lookup c = some b → IsaC K (cl c) ∧ PySem.W.kitOne K (.ref (cl c)) (.ref C) = some b
  bl : PySem.W.kitOne K (.type "bool") (.ref C) = some false
  int : PySem.W.kitOne K (.type "int") (.ref C) = some false
  str : PySem.W.kitOne K (.type "str") (.ref C) = some false
  non : PySem.W.kitOne K (.type "NoneType") (.ref C) = some false
  lst : PySem.W.kitOne K (.type "list") (.ref C) = some false
theorem m_isA {fe : SE} {Ca : Addr} {cs : List (Nat × Bool)} {y : Str} {p2 : Pos} (T : IsaT X.K cl Ca cs)
    (hg : Gl X "isinstance") (hm : X.mg "isinstance" = none) (hg2 : Gl X y) (hm2 : X.mg y = some (.ref Ca)) (ha : PEm cl X W e fe) (hd : (y == ("__debug__" : Str)) = false := by decide)
    (he : starEach (e :: [.Name y p2]) X.env = (false, eval e X.env) :: starEach [.Name y p2] X.env := by rfl) (hpl : (backTo pos (starEach [.Name y p2] X.env)).any (·.1) = false := by rfl) :
    PEm cl X W (.Call (.Name "isinstance" p) [e, .Name y p2] [] pos) (op1 (bIsA cs) fe) := fun tk => by
  obtain ⟨ta, a1, s1⟩ := ha tk
  refine ⟨_, pe_callB call_isi hg hm (by decide +kernel) (pa_cons a1 (pa_cons (pe_glob (v := .ref Ca) hg2 hm2 rfl hd) pa_nil) he) (he := he) (hpl := hpl), fun hid m h H σ' σ Q r rs q => s1 hid m h H σ' σ _ r rs (Post.bind q fun v h1' m1 H1 u _ p1 k1 r1 v1 q1 => ?_)⟩
  show ∃ (x c : V) (t u' : Value) (b : Bool), [u, V.ref Ca] = [x, c] ∧ ClsV c u' ∧ TyX X.K H1 x t ∧ PySem.W.kitOne X.K t u' = some b ∧ Q (.bl b) H1
  cases v with
  | bl b0 => exact ⟨u, _, _, _, _, rfl, .own _, by rw [show u = _ from v1]; exact .base (.bl b0), T.bl, q1.now r1 rfl⟩
  | int b0 => exact ⟨u, _, _, _, _, rfl, .own _, by rw [show u = _ from v1]; exact .base (.int b0), T.int, q1.now r1 rfl⟩
  | str b0 => exact ⟨u, _, _, _, _, rfl, .own _, by rw [show u = _ from v1]; exact .base (.str b0), T.str, q1.now r1 rfl⟩
  | non => exact ⟨u, _, _, _, _, rfl, .own _, by rw [show u = _ from v1]; exact .base .non, T.non, q1.now r1 rfl⟩
  | tup _ => exact q1.elim
  | scr _ => exact q1.elim
  | ctp _ => exact q1.elim
  | fl _ => exact q1.elim
  | fk _ _ => exact q1.elim
  | ft _ _ => exact q1.elim
  | ref j =>
    unfold bIsA at q1
    dsimp only at q1
    split at q1
    · rename_i c' fs ej
      obtain ⟨a0, h6, e6⟩ := v1
      subst e6
      obtain ⟨dx, gs, h7, h8⟩ := r1.ob j _ a0 ej h6
      split at q1
      · rename_i b0 eb
        obtain ⟨i1, i2⟩ := T.own c' b0 eb
        exact ⟨_, _, _, _, _, rfl, .own _, i1.ty h7, i2, q1.now r1 rfl⟩
      · exact q1.elim
    · rename_i xs ej
      obtain ⟨p0, us, e6, _, h7, h8⟩ := vr_lst r1 v1 ej
      subst e6
      exact ⟨_, _, _, _, _, rfl, .own _, .base (.lst h7), T.lst, q1.now r1 rfl⟩
    · exact q1.elim

theorem m_append {fo : SE} {fa : SA} (ho : PEm cl X W o fo) (ha : PAm cl X W [a] fa) (hbase : attributeBase o "append" X.env (eval o X.env) = eval o X.env := by rfl)
    (hfew : ((backTo pos (starEach [a] X.env)).all (fun x => !x.1) && (backToKw pos (keywordEach [] X.env)).all (fun x => x.1.isSome)
      && decide ([a].length + ([] : List Keyword).length + (if ([] : List Keyword).isEmpty then 0 else 1) < 30)) = true := by rfl)
    (hline : (apos.endLine == pos.line) = true := by rfl) (hs : starEach [a] X.env = (false, eval a X.env) :: starEach [] X.env := by rfl) (hplain : (backTo pos (starEach [] X.env)).any (·.1) = false := by rfl) :
    PEm cl X W (.Call (.Attribute o "append" apos) [a] [] pos) (sBm isLst mAppend fo fa) := fun tk => by
  obtain ⟨to, h1, s1⟩ := ho tk
  obtain ⟨ta, h2, s2⟩ := ha tk
  refine ⟨_, pe_bm PySem.F.plainAttrs_list PySem.F.slot_list_append PySem.F.type_list_append mt_append h1 h2 hbase hfew hline hs hplain, fun hid m h H σ' σ Q r rs q => s1 hid m h H σ' σ _ r rs (Post.bind q fun v h1' m1 H1 u _ p1 k1 r1 v1 q1 => ?_)⟩
  split at q1
  · rename_i hL
    unfold isLst at hL
    obtain ⟨xs0, ex0⟩ := Option.isSome_iff_exists.mp hL
    obtain ⟨p0, us0, e1, h3, h4⟩ := lst_sq r1 v1 ex0
    subst e1
    refine ⟨.inl ⟨rfl, _, h3⟩, s2 hid m1 h1' H1 σ' σ _ r1 (rs.mono p1 k1) (Post.bind q1 fun vs h2' m2 H2 ws _ p2 k2 r2 v2 q2 => ?_)⟩
    unfold mAppend at q2
    cases vs with
    | nil => cases v <;> exact q2.elim
    | cons w vs =>
      cases vs with
      | cons _ _ => cases v <;> exact q2.elim
      | nil =>
        cases v with
        | ref i0 =>
         dsimp only at q2
         split at q2
         · rename_i xs ex
           split at q2
           · rename_i hl
             obtain ⟨y, _, e5, h5, e6⟩ := v2
             cases e6
             obtain ⟨p1', us, e7, e8, h6, h7⟩ := vr_lst r2 (VR.mono p2 k2 _ _ v1) ex
             cases e7
             refine ⟨p0, us, y, rfl, e5, h6, by rw [h7.length]; exact hl, ?_⟩
             have kk : Keep H2 (upd H2 p0 (.lst (us ++ [y]))) := Keep.chg h6 trivial
             exact q2 m2 _ .non (List.prefix_refl m2) kk (r2.lst e8 h6 (h7.append (ys := [w]) ⟨_, _, rfl, h5, rfl⟩)) rfl
           · exact q2.elim
         · exact q2.elim
        | _ => exact q2.elim
  · exact q1.elim
theorem m_join {fo : SE} {fa : SE} (ho : PEm cl X W o fo) (ha : PEm cl X W a fa) (hs : starEach [a] X.env = [(false, eval a X.env)] := by rfl) (hbase : attributeBase o "join" X.env (eval o X.env) = eval o X.env := by rfl) (hline : (apos.endLine == pos.line) = true := by rfl) :
    PEm cl X W (.Call (.Attribute o "join" apos) [a] [] pos) (sBm isStr mJoin fo (aCons fa aNil)) := fun tk => by
  obtain ⟨to, h1, s1⟩ := ho tk
  obtain ⟨ta, h2, s2⟩ := ha tk
  refine ⟨_, pe_join h1 h2 hs hbase hline, fun hid m h H σ' σ Q r rs q => s1 hid m h H σ' σ _ r rs (Post.bind q fun v h1' m1 H1 u _ p1 k1 r1 v1 q1 => ?_)⟩
  cases v with
  | str z =>
    simp only [isStr, if_true] at q1
    refine ⟨⟨z, v1⟩, s2 hid m1 h1' H1 σ' σ _ r1 (rs.mono p1 k1) (Post.bind (f := fun v h2 => mJoin (.str z) [v] h2) (rel2 := relV X.K) (Q2 := Q) ?_ fun w h2' m2 H2 uw _ p2 k2 r2 v2 q2 => ?_)⟩
    · have q1' : Post (dm X cl hid) m1 H1 (relV X.K) ((aCons fa aNil σ' h1').bind fun vs h2 => mJoin (.str z) vs h2) Q (atW W σ) := q1
      unfold aCons aNil at q1'
      cases hf : fa σ' h1' with
      | ok w h2 => rw [hf] at q1'; exact q1'
      | ex c0 fs h2 => rw [hf] at q1'; exact q1'
      | bad => rw [hf] at q1'; exact q1'
    · unfold mJoin at q2
      dsimp only at q2
      split at q2
      · rename_i xs ex
        split at q2
        · rename_i ss es
          split at q2
          · rename_i hl
            obtain ⟨p0, us, e3, hq, h3⟩ := seqOf_sq r2 v2 ex
            have z2 := vrs_strs es h3
            subst z2 e3
            exact ⟨z, p0, ss, v1, rfl, hq, hl, q2.now r2 rfl⟩
          · exact q2.elim
        · exact q2.elim
      · exact q2.elim
  | _ => exact q1.elim

theorem ms_aug (j : Nat) {op : Operator} {g : AV → AV → AH → R AV} {fe : SE} (hN : X.N.Nodup) (hk : BinOk cl X W (inplaceOp op) g) (he : PEm cl X W e fe) (hi : X.N[j]? = some x := by rfl) (hx : Loc X.env.scope x := by first | exact Or.inl rfl | exact Or.inr rfl)
    (hf : X.fn x = true ∨ X.env.scope.names.lookup x = some .local := by first | exact .inl rfl | exact .inr rfl | assumption) : PSm cl X W (.AugAssign (.Name x pos') op e pos) (ssAug j g fe) := fun tk => by
  obtain ⟨r, hr, sr⟩ := hk tk
  obtain ⟨te, a1, s1⟩ := he tk
  refine ⟨fun D σ H => ∃ x, σ[j]? = some (some x) ∧ te σ H fun y H1 => r σ x y H1 fun z H2 => D.nx (σ.set j (some z)) H2, ⟨fun pins s σ H D I h => ?_⟩, fun hid m h H σ' σ Dn rl rs q => ?_⟩
  · obtain ⟨v, e1, h⟩ := h
    obtain ⟨m, hn, hl⟩ := I.loc
    have vis : Vis X.env.scope x := by rcases hx with k | k; exact .inl k; exact .inr (.inl k)
    obtain ⟨u, ru, l⟩ := hl j x v hi e1 vis
    refine wpAny_AugAssign_Name ?_
    have go : wpAny (model X.prog X.w) X.A (eval e X.env) (fun w s₂ => wpAny (model X.prog X.w) X.A (inplaceOp op u w) (fun r s₃ => wpAny (model X.prog X.w) X.A (storeName X.env x r) (fun _ => SP X pins D .next) X.xe s₃) X.xe s₂) X.xe s := by
      refine thn (a1.run pins s σ H _ I h) fun w s1 ⟨y, H1, I1, r1, q1⟩ => ?_
      refine thn (hr pins s1 σ H1 v y u w _ I1 ru r1 q1) fun z s2 ⟨zv, H2, I2, r2, q2⟩ => ?_
      exact store_ok I2 hN hi hx r2 (fun s3 I3 => ⟨_, H2, I3, q2⟩) hf
    rcases l with ⟨hk, hm⟩ | ⟨hk, c, hc, hcell⟩
    · exact wpAny_loadName_local I.ok.kind hk hn hm go
    · rcases hk with hk | hk
      · exact wpAny_loadName_cell I.ok.kind hk hc hcell go
      · rcases hx with k | k
        · have : X.env.scope.names.lookup x = some .free := hk
          rw [k] at this; cases this
        · have : X.env.scope.names.lookup x = some .free := hk
          rw [k] at this; cases this
  · unfold ssAug at q
    split at q
    · rename_i v ev
      obtain ⟨u, eu, hu⟩ := rs.2 j v ev
      refine ⟨u, eu, s1 hid m h H σ' σ _ rl rs (PostS.to rs q fun y h1 m1 H1 uy _ p1 k1 r1 v1 q1 => ?_)⟩
      refine sr hid m1 h1 H1 σ v y u uy _ r1 (VR.mono p1 k1 _ _ hu) v1 (PostS.to (rs.mono p1 k1) q1 fun z h2 m2 H2 uz _ p2 k2 r2 v2 q2 => ?_)
      exact PostS.now (W := W) q2 r2 (((rs.mono p1 k1).mono p2 k2).set j v2)
    · exact q.elim
end

section
variable {P : Program} {w : World} {K : PySem.W.Frag} {mg : Str → Option Value} {base : Heap} {cl : Nat → Addr} {k : Nat} {f : Addr} {fd : FuncData} {x qual : Str} {params : Arguments} {body : List Stmt} {scope : Scope} {N ps : List Str}
theorem rels_start {K : PySem.W.Frag} {m : List Addr} {H : Hp} : ∀ {as : List AV} {vs : List V} (n : Nat), VRs K m H as vs → RelS K m H (as.map some ++ List.replicate (n - as.length) none) (vs.map some ++ List.replicate (n - vs.length) none) := fun {as vs} n h => by
  have hl := h.length
  refine ⟨by simp [hl], fun i v e => ?_⟩
  by_cases hi : i < as.length
  · rw [List.getElem?_append_left (by simpa using hi)] at e
    rw [List.getElem?_append_left (by rw [List.length_map, hl]; exact hi)]
    rw [List.getElem?_map] at e ⊢
    obtain ⟨y, e1, e2⟩ := Option.map_eq_some_iff.mp e
    cases e2
    obtain ⟨u, e3, h3⟩ := h.get e1
    exact ⟨u, by rw [e3]; rfl, h3⟩
  · rw [List.getElem?_append_right (by simpa using hi), List.getElem?_replicate] at e
    split at e <;> cases e
abbrev cxM (P : Program) (w : World) (K : PySem.W.Frag) (mg : Str → Option Value) (base : Heap) (N : List Str) (qual : Str) (scope : Scope) (f : Addr) (cdv : Value) (A : Around) (outer : List Env) (s : Shared) (H : Hp) (E : XK) : Cx :=
  cxOf (L2.CX P w) P w K mg base N qual scope f cdv A outer s H E
theorem takesM {qual : Str} {scope : Scope} {cdv : Value} {A : Around} {outer : List Env} {s : Shared} {H : Hp} {E : XK} : Takes (cxM P w K mg base N qual scope f cdv A outer s H E) (fun cls d _ H => E cls d H) := takes_of rfl rfl rfl rfl
/-- what a body's result asks -/
theorem runF_post {D : Dm} {m : List Addr} {H : Hp} {r : RS} {Q : VK} {E : XK} (q : Post D m H (relV D.K) (endF r) Q E) : PostS D m H r { nx := fun _ H' => Q .non H', rt := Q } (fun cls d _ H => E cls d H) := by
  cases r with
  | bad => exact q
  | ex c fs σ1 h1 => exact fun m' H' d σ2 p1 k1 r1 _ ex => q m' H' d p1 k1 r1 ex
  | ok fl h1 =>
    cases fl with
    | nx σ1 => exact fun m' H' p1 k1 r1 σ2 _ => q m' H' .non p1 k1 r1 rfl
    | rt v => exact fun m' H' p1 k1 r1 u hv => q m' H' u p1 k1 r1 hv
    | bk σ1 => exact q.elim
    | ct σ1 => exact q.elim
/-- a def with plain parameters keeps its shadow's promise -/
theorem fn_plain {b : SS} (F : FunD K x qual params body scope [] [] f fd) (S : FnScope N ps scope)
    (hb : ∀ (kV doc pm : Value) (an : Option Addr) (cdv ct : Value) (us : List Value), us.length = ps.length → bindArgs (PySem.W.fnOf x qual params body scope .none kV doc pm an cdv ct) ⟨us, []⟩ = pure (ps.zip us))
    (hbody : ∀ (cdv : Value) (A : Around) (outer : List Env) (s : Shared) (H : Hp) (E : XK), Room k (A.deeper (envOfC qual scope s.heap.objs.size f cdv)) → PSsm cl (cxM P w K mg base N qual scope f cdv A outer s H E) (fun cls d _ H => E cls d H) body b) :
    FnR P w K mg base (L2.CX P w) (k + 1) f (spF cl K (runF ps.length N.length b)) := by
  have G : FnOk P w K mg base (L2.CX P w) (k + 1) f fd ps (spF cl K (runF ps.length N.length b)) := by
    refine F.ok S (fun vs H Q E h => ?_) (fun cdv A outer s H vs Q E hr h => ?_)
    · obtain ⟨hid, m, h0, as, r, hv, q⟩ := h
      unfold runF at q
      split at q
      · rename_i hl
        rw [hv.length]; exact hl
      · exact q.elim
    · obtain ⟨hid, m, h0, as, r, hv, q⟩ := h
      obtain ⟨t, h1, s1⟩ := hbody cdv A outer s H E hr takesM
      refine ⟨t, h1, s1 hid m h0 H _ _ _ r (rels_start N.length hv) ?_⟩
      unfold runF at q
      split at q
      · exact runF_post q
      · exact q.elim
  have z := G.raw (F.bindsN hb) .nil
  exact z.imp fun vs H Q E h => by rw [List.append_nil]; exact h
/-- a def f(a, .., *v) -/
theorem fn_starM {b : SS} {pv : Str} (F : FunD K x qual params body scope [] [] f fd) (S : FnScope N (ps ++ [pv]) scope)
    (hb : ∀ (kV doc pm : Value) (an : Option Addr) (cdv ct : Value) (us rest : List Value), us.length = ps.length → bindArgs (PySem.W.fnOf x qual params body scope .none kV doc pm an cdv ct) ⟨us ++ rest, []⟩ = (newTuple rest >>= fun t => pure (ps.zip us ++ [(pv, t)])))
    (hbody : ∀ (cdv : Value) (A : Around) (outer : List Env) (s : Shared) (H : Hp) (E : XK), Room k (A.deeper (envOfC qual scope s.heap.objs.size f cdv)) → PSsm cl (cxM P w K mg base N qual scope f cdv A outer s H E) (fun cls d _ H => E cls d H) body b) :
    FnR P w K mg base (L2.CX P w) (k + 1) f (spF cl K (runS ps.length N.length b)) := by
  obtain ⟨oc, od, dV, kV, doc, pm, an, cdv, ct, osl, rfl, lk, hcd, hd1, _⟩ := F.ex
  obtain rfl : dV = .none := by
    rcases hd1 with ⟨_, e⟩ | ⟨n, _⟩
    · exact e
    · exact (n rfl).elim
  refine FnR.imp (StX.fn_star (sp := fun vs H Q E => ∃ hid m h as, Rel ⟨K, cl, hid⟩ m h H ∧ VRs K m H as vs ∧ PostS ⟨K, cl, hid⟩ m H (b (slots N.length as) h) { nx := fun _ H' => Q .non H', rt := Q } (fun cls d _ H => E cls d H))
    lk hcd S StX.cxUp (fun us rest hl => hb kV doc pm an cdv ct us rest hl) (fun A outer s H vs Q E hr h => ?_)) fun vs H Q E h => ?_
  · obtain ⟨hid, m, h0, as, r, hv, q⟩ := h
    obtain ⟨t, h1, s1⟩ := hbody cdv A outer s H E hr takesM
    exact ⟨t, h1, s1 hid m h0 H _ _ _ r (rels_start N.length hv) q⟩
  · obtain ⟨hid, m, h0, as, r, hv, q⟩ := h
    unfold runS at q
    split at q
    · rename_i hl
      refine ⟨vs.take ps.length, vs.drop ps.length, (List.take_append_drop _ _).symm, by rw [List.length_take, hv.length]; omega, by rw [List.length_drop, hv.length, sizeLine_eq]; omega, fun p n => ?_⟩
      have kk : Keep H (upd H p (.tup (vs.drop ps.length))) := Keep.new n
      have q' := runF_post (Post.mono (List.prefix_refl m) kk q)
      refine ⟨hid, m, h0, as.take ps.length ++ [.tup (as.drop ps.length)], r.fresh n, ?_, q'⟩
      exact VRs.append (VRs.take _ (VRs.mono (List.prefix_refl m) kk _ _ hv)) ⟨_, [], rfl, ⟨p, _, rfl, upd_same, VRs.drop _ (VRs.mono (List.prefix_refl m) kk _ _ hv)⟩, rfl⟩
    · exact q.elim
end
end Mi

namespace Mi
open PySem PySem.Spec PyProof.Rows L2 ItX

/-- f, of the class at Ca: return iter(self.F) -/
def FnI (P : Program) (w : World) (K : PySem.W.Frag) (mg : Str → Option Value) (base : Heap) (k : Nat) (f Ca : Addr) (F : Str) : Prop :=
  ∀ (A : Around) (outer : List Env) (s : Shared) (H : Hp) (Q : VK) (E : XK) (a dx : Addr) (gs : List (Str × V)) (l : Addr) (zs : List V), Room k A → Env0 P w K mg base A outer s H → H a = some (.ins Ca dx gs) → gs.lookup F = some (.ref l) → SqL K H l zs →
    (∀ it, H it = none → s.heap.objs.size ≤ it → Q (.ref it) (upd H it (ItO l it 0))) → codeAny (model P w) A (.call (.ref f) ⟨[.ref a], []⟩) (CR (L2.CX P w) outer P w H s Q E) s

section
variable {P : Program} {w : World} {K : PySem.W.Frag} {mg : Str → Option Value} {base : Heap} {k : Nat} {f Ca : Addr} {fd : FuncData} {x qual : Str} {params : Arguments} {scope : Scope} {N : List Str} {F : Str} {p1 p2 p3 p4 p5 : Pos}
abbrev sf : Str := "self"
theorem fn_iter (D : FunD K x qual params [.Return (some (.Call (.Name "iter" p1) [.Attribute (.Name "self" p2) F p3] [] p4)) p5] scope [] [] f fd) (S : FnScope N [sf] scope)
    (hb : ∀ (kV doc pm : Value) (an : Option Addr) (cdv ct : Value) (us : List Value), us.length = 1 → bindArgs (PySem.W.fnOf x qual params [.Return (some (.Call (.Name "iter" p1) [.Attribute (.Name "self" p2) F p3] [] p4)) p5] scope .none kV doc pm an cdv ct) ⟨us, []⟩ = pure ([sf].zip us))
    (hC : Cls K Ca) (hN : NoAttr K Ca F) (hN0 : N[0]? = some sf)
    (hit : ∀ (cdv : Value) (A : Around) (outer : List Env) (s : Shared) (H : Hp) (E : XK), Gl (cxM P w K mg base N qual scope f cdv A outer s H E) "iter") (hmg : mg "iter" = none)
    (hv : ∀ (cdv : Value) (A : Around) (outer : List Env) (s : Shared) (H : Hp) (E : XK), Vis (cxM P w K mg base N qual scope f cdv A outer s H E).env.scope "self")
    (hat : ∀ (cdv : Value) (A : Around) (outer : List Env) (s : Shared) (H : Hp) (E : XK), attributeBase (.Name "self" p2) F (cxM P w K mg base N qual scope f cdv A outer s H E).env (eval (.Name "self" p2) (cxM P w K mg base N qual scope f cdv A outer s H E).env) = eval (.Name "self" p2) (cxM P w K mg base N qual scope f cdv A outer s H E).env := by intros; rfl) : FnI P w K mg base (k + 1) f Ca F := by
  intro A outer s H Q E a dx gs l zs hr e0 ha hl hq q
  obtain ⟨oc, od, dV, kV, doc, pm, an, cdv, ct, osl, rfl, lk, hcd, hd1, hd2⟩ := D.ex
  have KX : K.In s.heap := e0.mod.kin.keeps fun b o e => (e0.bs b o e).1
  have hbb := D.bindsN (ps := [sf]) hb s [.ref a] KX rfl
  rw [List.append_nil] at hbb
  have r : Vals [V.ref a] [Value.ref a] := .cons rfl .nil
  have lim : s.heap.NoLimit := e0.mod.nolimit.keeps fun b o e => (e0.bs b o e).1
  have hkind : ∀ y ∈ [sf].zip [Value.ref a], scope.names.lookup y.1 = some .local ∨ (scope.names.lookup y.1 = some .cell ∧ ((cellsFrom (s.heap.objs.size + 1) scope.names []).lookup y.1).isSome = true) := fun ⟨n, v⟩ hy => by
    rcases S.par n (List.of_mem_zip hy).1 with q | q
    · exact .inl q
    · exact .inr ⟨q, PySem.W.cellsFrom_some _ _ _ (.inl q)⟩
  refine codeAny_call_function hr.depth (KX _ _ lk) rfl S.co S.gen rfl (PySem.W.codeRec_of KX hcd) (hbb _ _ _ _ ?_)
  refine wpAny_newFunctionEnv_cells S.kind hkind fun env he s1 x => ?_
  subst he
  refine ⟨lim.keeps x.toInCall.keep, codeAny_func ?_⟩
  have I : Inv (cxM P w K mg base N qual scope f cdv A outer s H E) [] (start N [V.ref a]) H s1 := inv_start S hr.hd e0 rfl r x
  have ht := pss_one (ps_ret (pos := p5) (pe_callB (X := cxM P w K mg base N qual scope f cdv A outer s H E) (p := p1) (pos := p4) call_iterN (hit cdv A outer s H E) hmg (by decide +kernel) (pa_cons (pe_fld (pos := p3) (f := F) (pe_var (pos := p2) (i := 0) hN0 (hv cdv A outer s H E)) (hat cdv A outer s H E)) pa_nil)))
  refine wpAny_mono (ht.run [] s1 (start N [V.ref a]) H { nx := fun _ H' => Q .non H', rt := Q } I ?_) (fun fl s' hs => ?_) fun e s' hs => hs
  · refine ⟨.ref a, ?_, a, Ca, dx, gs, .ref l, rfl, ha, hC, hN, hl, l, zs, rfl, hq, q⟩
    show (start N [V.ref a])[0]? = _
    rfl
  · have fin : ∀ {σ' : L2.St} {H' : Hp} {v : V} {u : Value}, Inv (cxM P w K mg base N qual scope f cdv A outer s H E) [] σ' H' s' → RelV v u → Q v H' → L2.CE outer P w H s Q u s' :=
      fun {σ' H' v u} J rv q => ⟨v, H', J.os, J.bare, J.base, J.hok, rv, q⟩
    cases fl with
    | ret u =>
      obtain ⟨v, σ', H', J, rv, q⟩ := hs
      exact fin J rv q
    | next =>
      obtain ⟨σ', H', J, q⟩ := hs
      exact fin (v := V.non) (u := Value.none) J rfl q
    | brk =>
      obtain ⟨_, _, _, q⟩ := hs
      exact False.elim q
    | cont =>
      obtain ⟨_, _, _, q⟩ := hs
      exact False.elim q
end

/-- the class c iterates by its field -/
structure ItF (cl : Nat → Addr) (X : Cx) (k c : Nat) (F : Str) (f : Addr) : Prop where
  at_ : PySem.W.findIn X.K (.ref (cl c)) "__iter__" = some (some (.ref f))
  fn : PySem.W.isFn X.K (.ref f) = true
  run : FnI X.prog X.w X.K X.mg X.base k f (cl c) F
def ItT (cl : Nat → Addr) (X : Cx) (k : Nat) (C : CE) : Prop := ∀ c F, C.it c = some F → (∃ f, ItF cl X k c F f) ∧ (C.dn c .len = none → PySem.W.findIn X.K (.ref (cl c)) "__len__" = some none ∧ PySem.W.findIn X.K (.ref (cl c)) "__length_hint__" = some none)
section
variable {cl : Nat → Addr} {X : Cx} {W : WX} {C : CE} {k : Nat} {tg iter : Expr}
theorem env0_sub {n : Nat} {A1 : Around} {pins : List (Addr × Obj)} {σ : L2.St} {H : Hp} {s : Shared} (sb : Sub X n A1) (I : Inv X pins σ H s) : Env0 X.prog X.w X.K X.mg X.base A1 X.stack s H := by
  have e := I.env0
  exact ⟨by rw [sb.fr]; exact e.frames, e.mod, e.bs, e.bsz, e.funs, e.frf, e.hok, e.bare⟩
theorem no_ex {X : Cx} {H : Hp} {s s' : Shared} {e : Value} (c : L2.CX X.prog X.w X.stack H s (fun _ _ _ => False) e s') : False := by
  obtain ⟨a, B, H', cls, d, rfl, fl, hok, ub, na, os, ag, hE⟩ := c
  exact hE
/-- pyIter of an instance: an iterator over its field's list, not tracked -/
theorem iter_own {A1 : Around} {c : Nat} {F : Str} {f a dx l : Addr} {gs : List (Str × V)} {zs : List V} {pins : List (Addr × Obj)} {σ : L2.St} {H : Hp} {s : Shared} {Q : Value → Shared → Prop} {E : Value → Shared → Prop} (sb : Sub X k A1) (T : ItF cl X k c F f)
    (I : Inv X pins σ H s) (ha : H a = some (.ins (cl c) dx gs)) (hl : gs.lookup F = some (.ref l)) (hq : SqL X.K H l zs)
    (h : ∀ it s', Inv X pins σ H s' → s'.heap.IsListIter it l 0 → s'.heap.get? it = some (GNX.itObj l 0) → FpOk X pins H it → s.heap.objs.size ≤ it → Q (.ref it) s') : wpAny (model X.prog X.w) A1 (pyIter (.ref a)) Q E s := by
  obtain ⟨ox, od, J⟩ := inst_at I ha
  obtain ⟨m0, hF⟩ := I.fr
  refine PySem.W.owit_iter hF I.ok.mod.kin J T.at_ T.fn ?_
  refine wpAny_call (codeAny_mono (T.run A1 X.stack s H (fun v H' => ∃ it, v = .ref it ∧ H it = none ∧ s.heap.objs.size ≤ it ∧ H' = upd H it (ItO l it 0)) (fun _ _ _ => False) a dx gs l zs sb.room (env0_sub sb I) ha hl hq fun it hn hs => ⟨it, rfl, hn, hs, rfl⟩) fun r s' hq' => ?_)
  cases r with
  | error e => exact (no_ex hq').elim
  | ok fl =>
    cases fl with
    | next => exact False.elim hq'
    | brk => exact False.elim hq'
    | cont => exact False.elim hq'
    | ret u =>
      obtain ⟨v, H', I', rv, it, ev, hn, hs, eH⟩ := I.after hq'
      subst ev
      rw [eH] at I'
      cases (show u = Value.ref it from rv)
      have hi : upd H it (ItO l it 0) it = some (ItO l it 0) := upd_same
      have eo := itO_get I' hi
      have st : s'.heap.IsListIter it l 0 := ⟨_, eo, rfl, rfl⟩
      have hd := dropH_upd (o := ItO l it 0) hn
      unfold PySem.W.OwitIt
      refine wpAny_specialOf st.typeIs slot_listiter_next.lookup ?_
      have I2 : Inv X pins σ (dropH (upd H it (ItO l it 0)) it) s' := inv_drop I' hi
      have fp := inv_fp I' hi (Nat.le_trans I.sz hs)
      rw [hd] at I2 fp
      exact h it s' I2 st eo fp hs
/-- for over an instance -/
theorem mi_own {fe : SE} (T : ItT cl X k C) (hr : Room k X.A) (he : PEm cl X W iter fe) : PIm cl X W tg iter (iOwn C fe) := fun tk => by
  obtain ⟨te, h1, s1⟩ := he tk
  refine ⟨fun σ H R => te σ H fun x H1 => ∃ (c : Nat) (F : Str) (a dx l : Addr) (gs : List (Str × V)) (zs : List V), C.it c = some F ∧ x = .ref a ∧ H1 a = some (.ins (cl c) dx gs) ∧ gs.lookup F = some (.ref l) ∧ SqL X.K H1 l zs ∧ R (Itl X.K l) H1, ⟨fun pins s σ H R I h => ?_⟩, fun hid m h H σ' σ Rk r rs q => ?_⟩
  · refine thn (h1.run pins s σ H _ I h) fun v s1 ⟨x, H1, I1, r1, c, F, a, dx, l, gs, zs, ec, ex, ha, hl, hq, q⟩ => ?_
    subst ex
    cases (show v = Value.ref a from r1)
    obtain ⟨⟨f, TF⟩, _⟩ := T c F ec
    refine iter_own ⟨hr, rfl⟩ TF I1 ha hl hq fun it s2 I2 st _ fp _ => ?_
    refine ⟨it, [it], _, _, H1, rfl, I2, turn_list l it, st, fun b hb => ?_, q⟩
    have e : b = it := by simpa using hb
    rw [e]
    exact fp
  · refine s1 hid m h H σ' σ _ r rs (Post.bind q fun v h1 m1 H1 u _ p1 k1 r1 v1 q1 => ?_)
    unfold itSrc at q1
    split at q1
    · rename_i sr ej
      split at ej
      · rename_i c fs ec
        split at ej
        · rename_i F eF
          split at ej
          · rename_i w ew
            obtain ⟨a, dx, gs, e1, h3, h4, _⟩ := cls_get r1 v1 ec
            obtain ⟨u0, e5, h5⟩ := h4.lookup ew
            cases w with
            | ref b =>
              dsimp only at ej
              split at ej
              · rename_i xs ex
                cases ej
                obtain ⟨p0, us, e6, e7, h6, h7⟩ := vr_lst r1 h5 ex
                subst e6
                exact ⟨c, F, a, dx, p0, gs, us, eF, e1, h3, e5, SqL.of h6, q1.now r1 (rel := fun m H s J => SrcOk (dm X cl hid) m H s J) (src_lst e7)⟩
              · cases ej
            | fl xs =>
              cases ej
              obtain ⟨p0, us, e6, ⟨o, h6⟩, h7⟩ := h5
              subst e6
              exact ⟨c, F, a, dx, p0, gs, us, eF, e1, h3, e5, .inl (.inr ⟨o, h6⟩), q1.now r1 (rel := fun m H s J => SrcOk (dm X cl hid) m H s J) (src_fl h6 h7)⟩
            | _ => cases ej
          · cases ej
        · cases ej
      · cases ej
    · exact q1.elim
end
end Mi

namespace Mi
open PySem PySem.Spec PyProof.Rows L2 ItX
section
variable {cl : Nat → Addr} {X : Cx} {W : WX} {C : CE} {k : Nat}
def rLen0 (cl : Nat → Addr) (X : Cx) (C : CE) (i : Nat) (a : Addr) (H : Hp) (Q : Int → Hp → Prop) : Prop := spF cl X.K (C.call i) [.ref a] H (fun v H' => ∃ n, v = .int n ∧ 0 ≤ n ∧ n ≤ 1000000 ∧ Q n H') (fun _ _ _ => False)
/-- o's length is asked -/
theorem hint_len {A1 : Around} {c i : Nat} {f a dx : Addr} {gs : List (Str × V)} {pins : List (Addr × Obj)} {σ : L2.St} {H : Hp} {s : Shared} {Qn : Int → Hp → Prop} {Q : Bool → Shared → Prop} {E : Value → Shared → Prop} (sb : Sub X (k + 1) A1) (F : DunF cl X k C "__len__" c i f)
    (I : Inv X pins σ H s) (ha : H a = some (.ins (cl c) dx gs)) (q : rLen0 cl X C i a H Qn) (h : ∀ b n H' s', Inv X pins σ H' s' → Qn n H' → Q b s') : wpAny (model X.prog X.w) A1 (Builtin.List.listLengthHint (.ref a)) Q E s := by
  obtain ⟨ox, od, J⟩ := inst_at I ha
  obtain ⟨m0, hF⟩ := I.fr
  unfold Builtin.List.listLengthHint
  refine wpAny_bind (wpAny_bind (J.type.here ((PySem.W.looks_findIn I.kIn F.at_).here ?_)))
  refine PySem.W.KFB.if_not rfl ?_
  refine PySem.W.KFB.if_so rfl ?_
  refine wpAny_bind (wpAny_rule ?_)
  refine wpAny_bind (wpAny_attempt ?_)
  refine PySem.W.len_K hF I.ok.mod.kin J F.at_ F.fn ?_
  have sb1 : Sub X k A1.in1 := sb.in1
  refine wpAny_call (codeAny_mono (F.run A1.in1 X.stack s H [.ref a] [.ref a] _ _ sb1.room (env0_sub sb1 I) (.cons rfl .nil) q) fun r s' hq' => ?_)
  cases r with
  | error e => exact (no_ex hq').elim
  | ok fl =>
    cases fl with
    | next => exact False.elim hq'
    | brk => exact False.elim hq'
    | cont => exact False.elim hq'
    | ret u =>
      obtain ⟨v, H', I', rv, n, ev, h0, h1, hq⟩ := I.after hq'
      subst ev
      obtain ⟨t, et⟩ := (show ∃ t, u = Value.int n t from rv)
      subst et
      refine ⟨⟨h0, by omega⟩, ?_⟩
      show wpAny _ _ (asInt? (Value.int n t) >>= _) _ _ _
      refine wpAny_bind (m := asInt? (Value.int n t)) (wpAny_pure ?_)
      dsimp only
      have hs : Builtin.List.listTooLong n.toNat = false := by
        unfold Builtin.List.listTooLong
        rw [sizeLine_eq]
        exact decide_eq_false (by omega)
      rw [if_neg (by rw [hs]; decide)]
      exact wpAny_pure (h _ n _ _ (I'.tok _) hq)
theorem hint_none {A1 : Around} {c : Nat} {a dx : Addr} {gs : List (Str × V)} {pins : List (Addr × Obj)} {σ : L2.St} {H : Hp} {s : Shared} {Q : Bool → Shared → Prop} {E : Value → Shared → Prop} (I : Inv X pins σ H s) (ha : H a = some (.ins (cl c) dx gs))
    (h1 : PySem.W.findIn X.K (.ref (cl c)) "__len__" = some none) (h2 : PySem.W.findIn X.K (.ref (cl c)) "__length_hint__" = some none) (h : Q true s) : wpAny (model X.prog X.w) A1 (Builtin.List.listLengthHint (.ref a)) Q E s := by
  obtain ⟨ox, od, J⟩ := inst_at I ha
  unfold Builtin.List.listLengthHint
  refine wpAny_bind (wpAny_bind (J.type.here ((PySem.W.looks_findIn I.kIn h1).here ?_)))
  refine PySem.W.KFB.if_not rfl ?_
  refine PySem.W.KFB.if_not rfl ?_
  refine wpAny_bind (wpAny_bind (J.type.here ((PySem.W.looks_findIn I.kIn h2).here ?_)))
  exact wpAny_pure h

/-- the items come -/
theorem loop_I {A1 : Around} {q0 it l : Addr} {zs : List V} {pins : List (Addr × Obj)} {σ : L2.St} {H : Hp} {s : Shared} {c1 : Nat} {Rs : Result → Shared → Prop} (hh : A1.in1.handled = none) (hne : l ≠ it) (hni : q0 ≠ it) (hnl : q0 ≠ l) (I : Inv X pins σ H s) (fq : FpOk X pins H q0) (fi : FpOk X pins H it)
    (hS : s.heap.get? q0 = some { cls := .type "list", dict := none, data := .seq #[] c1, slots := #[] }) (st : s.heap.IsListIter it l 0) (hq : SqL X.K H l zs) (hz : zs.length < sizeLine) (hdone : ∀ s', Inv X pins σ (upd H q0 (.lst zs)) s' → Rs (.ok (.ret .none)) s') :
    codeAny (model X.prog X.w) A1 (.builtin "list.extend.loop" ⟨[.ref q0, .ref it, .none], []⟩) Rs s := by
  obtain ⟨its, rv, pl, hz1⟩ := I.list hq
  have hlen := rv.length
  have Wk := (Walks.list (prog := X.prog) (w := X.w) (A := A1.in1) hh it l hne its.toArray).toS
  refine codeAny_extend_loopS Wk (by simp; omega) q0 (by simp [hni, hnl]) .none its.toArray.size 0 s #[] c1 rfl (Nat.zero_le _) ⟨st, pl.isList⟩ hS (ItemsOf.nil _) fun s' acc' c' hm hS' hacc => ?_
  rw [Moved.eq_with hm]
  have I2 : Inv X pins σ H { s with heap := s'.heap, toks := s'.toks } := I.turnedL (ch := [q0, it]) (fun b o hb e => hm.heap b o hb e) fun b hb => by
    rcases List.mem_cons.mp hb with e | hb
    · rw [e]; exact fq
    · rw [List.mem_singleton.mp hb]; exact fi
  have hacc' : acc' = its.toArray := by
    refine Array.ext hacc.1 fun j h1 h2 => ?_
    have z := hacc.2 j acc'[j] (by simp [h1])
    have z : its.toArray[j]? = some acc'[j] := z
    rw [Array.getElem?_eq_getElem h2] at z
    exact (Option.some.inj z).symm
  subst hacc'
  have I3 := I2.take (o := .lst zs) (t' := s'.toks) (fun b o _ e => e) fq (show ObjOk X.prog X.w _ _ _ (.lst zs) from ⟨Nat.le_of_lt hz, its, c', rv, hS'⟩)
  exact hdone _ I3
theorem fp_now {pins : List (Addr × Obj)} {H H' : Hp} {b : Addr} (f : FpOk X pins H b) (n : H' b = none) : FpOk X pins H' b := ⟨n, f.2⟩
theorem extend_I {A1 : Around} {q0 c0 : Nat} {c : Nat} {F : Str} {fi a dx l : Addr} {gs : List (Str × V)} {zs : List V} {pins : List (Addr × Obj)} {σ : L2.St} {H : Hp} {s : Shared} {Rs : Result → Shared → Prop}
    (T : DunT cl X k C .len "__len__") (TF : ItF cl X k c F fi) (hnl : C.dn c .len = none → PySem.W.findIn X.K (.ref (cl c)) "__len__" = some none ∧ PySem.W.findIn X.K (.ref (cl c)) "__length_hint__" = some none) (hh : A1.in1.handled = none) (sb : Sub X (k + 1) A1.in1) (I : Inv X pins σ H s) (fq : FpOk X pins H q0)
    (hS : s.heap.get? q0 = some { cls := .type "list", dict := none, data := .seq #[] c0, slots := #[] }) (ha : H a = some (.ins (cl c) dx gs)) (hl : gs.lookup F = some (.ref l)) (hq : SqL X.K H l zs) (hql : q0 ≠ l) (Qd : List V → Hp → Prop)
    (h : match C.dn c .len with
      | none => zs.length < sizeLine ∧ Qd zs H
      | some i => rLen0 cl X C i a H fun _ H1 => ∃ zs', SqL X.K H1 l zs' ∧ zs'.length < sizeLine ∧ Qd zs' H1)
    (hdone : ∀ s' zs' H1, H1 q0 = none → Qd zs' H1 → Inv X pins σ (upd H1 q0 (.lst zs')) s' → Rs (.ok (.ret .none)) s') :
    wpAny (model X.prog X.w) A1.in1 (Builtin.List.listExtendWith (.ref q0) (.ref a) .none)
      (fun fin s' => match fin with | .done f => Rs (.ok f) s' | .again c' => c'.quiet = true ∧ codeAny (model X.prog X.w) A1 c' Rs s') (fun e s' => Rs (.error e) s') s := by
  have hne : q0 ≠ a := fun z => by have y := fq.1; rw [z, ha] at y; cases y
  obtain ⟨ox, od, J⟩ := inst_at I ha
  unfold Builtin.List.listExtendWith
  refine wpAny_bind (J.type.here ?_)
  have h1 : Builtin.List.listSameRef (.ref q0) (.ref a) = false := by simp [Builtin.List.listSameRef, hne]
  have h2 : (Value.ref (cl c) == Value.type "list") = false := rfl
  have h3 : (Value.ref (cl c) == Value.type "tuple") = false := rfl
  simp only [h1, h2, h3, Bool.or_false, Bool.false_eq_true, if_false]
  have I' : Inv X ((q0, ⟨.type "list", none, .seq #[] c0, #[]⟩) :: pins) σ H s := I.pins_of fun p hp => by
    rcases List.mem_cons.mp hp with e | hp
    · subst e; exact ⟨hS, fq.1, fq.2.1, fq.2.2.1, fun v z => nomatch z⟩
    · exact I.pin p (List.mem_append_right _ hp)
  refine wpAny_bind (iter_own (sb.mono (Nat.le_succ _)) TF I' ha hl hq fun it s3 I3 st eo fpit hsi => ?_)
  have hni : q0 ≠ it := fpit.2.2.2.2.2 (q0, _) (List.mem_append_right _ (List.mem_cons_self))
  have I3' : Inv X ((it, GNX.itObj l 0) :: (q0, ⟨.type "list", none, .seq #[] c0, #[]⟩) :: pins) σ H s3 := I3.pins_of fun p hp => by
    rcases List.mem_cons.mp hp with e | hp
    · subst e; exact ⟨eo, fpit.1, fpit.2.1, fpit.2.2.1, fun v z => nomatch z⟩
    · exact I3.pin p (List.mem_append_right _ hp)
  have hli : l ≠ it := by
    obtain ⟨its, rv, pl, hz1⟩ := I.list hq
    obtain ⟨o, ho, _⟩ := pl.isList
    exact Nat.ne_of_lt (Nat.lt_of_lt_of_le (Heap.lt_size ho) hsi)
  have key : ∀ (b : Bool) (H1 : Hp) (s4 : Shared) (zs' : List V), Inv X ((it, GNX.itObj l 0) :: (q0, ⟨.type "list", none, .seq #[] c0, #[]⟩) :: pins) σ H1 s4 → SqL X.K H1 l zs' → zs'.length < sizeLine → Qd zs' H1 →
      wpAny (model X.prog X.w) A1.in1 (if b = true then (do rule "list.extend.makes-room"; Builtin.List.listTouch (.ref q0); again (.builtin "list.extend.loop" ⟨[.ref q0, .ref it, .none], []⟩)) else again (.builtin "list.extend.loop" ⟨[.ref q0, .ref it, .none], []⟩))
        (fun fin s' => match fin with | .done f => Rs (.ok f) s' | .again c' => c'.quiet = true ∧ codeAny (model X.prog X.w) A1 c' Rs s') (fun e s' => Rs (.error e) s') s4 := by
    intro b H1 s4 zs' I4 hq4 hz4 hd4
    have pI := I4.pin (it, GNX.itObj l 0) (List.mem_append_right _ List.mem_cons_self)
    have pQ := I4.pin (q0, ⟨.type "list", none, .seq #[] c0, #[]⟩) (List.mem_append_right _ (List.mem_cons_of_mem _ List.mem_cons_self))
    have I5 : Inv X pins σ H1 s4 := I4.pins_of fun p hp => I4.pin p (List.mem_append.mpr (.inr (List.mem_cons_of_mem _ (List.mem_cons_of_mem _ hp))))
    have fq5 : FpOk X pins H1 q0 := fp_now fq pQ.2.1
    have fi5 : FpOk X pins H1 it := by
      have z := fp_now fpit pI.2.1
      exact ⟨z.1, z.2.1, z.2.2.1, z.2.2.2.1, z.2.2.2.2.1, fun p hp => z.2.2.2.2.2 p ((List.mem_append.mp hp).elim (fun y => List.mem_append_left _ y) fun y => List.mem_append_right _ (List.mem_cons_of_mem _ y))⟩
    have st5 : s4.heap.IsListIter it l 0 := ⟨_, pI.1, rfl, rfl⟩
    refine wpAny_ite_split (fun _ => ?_) (fun _ => wpAny_pure ⟨plainId_quiet PySem.F.plain_extend_loop _, loop_I hh hli hni hql I5 fq5 fi5 pQ.1 st5 hq4 hz4 fun s' I' => hdone s' zs' H1 fq5.1 hd4 I'⟩)
    refine wpAny_bind (wpAny_rule ?_)
    refine wpAny_bind ?_
    show wpAny _ _ (updateSeq q0 (·.push .none) >>= fun _ => updateSeq q0 (·.pop)) _ _ _
    refine wpAny_bind (wpAny_updateSeq pQ.1 rfl ?_)
    have hS2 := Heap.get?_update_self (Obj.mapSeq (·.push Value.none)) pQ.1 rfl
    refine wpAny_updateSeq hS2 rfl ?_
    have hS3 := Heap.get?_update_self (Obj.mapSeq (·.pop)) hS2 rfl
    have oth : ∀ b o, b ≠ q0 → s4.heap.get? b = some o → ((s4.heap.update q0 (Obj.mapSeq (·.push Value.none))).update q0 (Obj.mapSeq (·.pop))).get? b = some o :=
      fun b o hb e => (Heap.get?_update_other _ _ (Ne.symm hb)).trans ((Heap.get?_update_other _ _ (Ne.symm hb)).trans e)
    have I6 := I5.turned (t' := s4.toks) oth fq5.1 fq5.2.1 fq5.2.2.2.1 fq5.2.2.2.2.1 fq5.2.2.2.2.2
    refine wpAny_pure ⟨plainId_quiet PySem.F.plain_extend_loop _, loop_I hh hli hni hql I6 fq5 fi5 hS3 ⟨_, oth it _ (Ne.symm hni) pI.1, rfl, rfl⟩ hq4 hz4 fun s' I' => hdone s' zs' H1 fq5.1 hd4 I'⟩
  refine wpAny_bind (wpAny_holding ?_)
  cases ed : C.dn c .len with
  | none =>
    rw [ed] at h
    obtain ⟨h4, h5⟩ := hnl ed
    exact hint_none I3' ha h4 h5 (key _ H s3 zs I3' hq h.1 h.2)
  | some i =>
    rw [ed] at h
    obtain ⟨⟨f, Fl⟩, _⟩ := T c i ed
    exact hint_len sb Fl I3' ha h fun b n H1 s4 I4 ⟨zs', q1, q2, q3⟩ => key _ H1 s4 zs' I4 q1 q2 q3
/-- list(o) -/
def rListI (cl : Nat → Addr) (X : Cx) (C : CE) : L2.St → List V → Hp → VK → Prop := fun _ xs H Q => ∃ (c : Nat) (F : Str) (a dx l : Addr) (gs : List (Str × V)) (zs : List V), C.it c = some F ∧ xs = [.ref a] ∧ H a = some (.ins (cl c) dx gs) ∧ gs.lookup F = some (.ref l) ∧ SqL X.K H l zs ∧
  match C.dn c .len with
  | none => zs.length < sizeLine ∧ ∀ q, H q = none → Q (.ref q) (upd H q (.lst zs))
  | some i => rLen0 cl X C i a H fun _ H1 => ∃ zs', SqL X.K H1 l zs' ∧ zs'.length < sizeLine ∧ ∀ q, H1 q = none → Q (.ref q) (upd H1 q (.lst zs'))
theorem call_listI (T : DunT cl X k C .len "__len__") (TI : ItT cl X k C) (hc : X.calm = true) (hr : Room (k + 3) X.A) : CallRs X (.type "list") (rListI cl X C) := by
  intro pins s σ H xs us Q I rv h
  obtain ⟨c, F, a, dx, l, gs, zs, ec, rfl, ha, hl, hq, h⟩ := h
  obtain ⟨u, rfl, ru⟩ := rv.one
  cases (show u = Value.ref a from ru)
  obtain ⟨⟨fi, TF⟩, hnl⟩ := TI c F ec
  have sb : Sub X (k + 1) X.A.in1.in1 := (Sub.in1 (Sub.in1 (⟨hr, rfl⟩ : Sub X (k + 3) X.A)))
  refine callType_codes (Q₁ := fun obj s₁ => obj = .ref s.heap.objs.size ∧ s₁ = { s with heap := s.heap.push { cls := .type "list", data := .seq #[] } }) PySem.F.called_list (PySem.F.typeCall_list_1 _) PySem.F.entry_list_init
    (code_list_new _ ⟨rfl, rfl⟩) fun obj s₁ h₁ => ?_
  obtain ⟨rfl, rfl⟩ := h₁
  have hS : (s.heap.push { cls := .type "list", data := .seq #[] }).get? s.heap.objs.size = some { cls := .type "list", data := .seq #[] } := Heap.get?_push_size _ rfl
  refine ⟨⟨_, hS, rfl⟩, PySem.F.args_list_init_2 _ _, ?_⟩
  have fr : H s.heap.objs.size = none := I.hok.fresh (Nat.le_refl _)
  have I1 : Inv X pins σ H { s with heap := s.heap.push { cls := .type "list", data := .seq #[] } } := I.kept (t' := s.toks) fun b o e => Heap.get?_push_of_some _ e
  have fp1 : FpOk X pins H s.heap.objs.size := I.fpOk (Nat.le_refl _) fr
  show wpAny _ _ (do let old ← Builtin.List.listItems (.ref s.heap.objs.size); Builtin.List.listUpdate (.ref s.heap.objs.size) (fun _ => #[]); letGo old.toList.reverse; Builtin.List.listExtendWith (.ref s.heap.objs.size) (.ref a) .none) _ _ _
  refine wpAny_bind ?_
  unfold Builtin.List.listItems
  refine wpAny_bind (wpAny_seqItems hS rfl (wpAny_pure ?_))
  show wpAny _ _ (updateSeq s.heap.objs.size (fun _ => #[]) >>= fun _ => letGo (#[] : Array Value).toList.reverse >>= fun _ => Builtin.List.listExtendWith (.ref s.heap.objs.size) (.ref a) .none) _ _ _
  refine wpAny_bind (wpAny_updateSeq hS rfl ?_)
  generalize hsz : s.heap.objs.size = q0 at *
  have hS2 := Heap.get?_update_self (Obj.mapSeq (fun _ => (#[] : Array Value))) hS rfl
  have I2 := I1.turned (t' := s.toks) (h' := (s.heap.push { cls := .type "list", data := .seq #[] }).update q0 (Obj.mapSeq fun _ => #[])) (fun b o hb e => (Heap.get?_update_other _ _ (Ne.symm hb)).trans e) fp1.1 fp1.2.1 fp1.2.2.2.1 fp1.2.2.2.2.1 fp1.2.2.2.2.2
  refine wpAny_bind (wpAny_letGo ?_)
  have hql : q0 ≠ l := by
    obtain ⟨its, rv, pl, hz1⟩ := I.list hq
    obtain ⟨o, ho, _⟩ := pl.isList
    rw [← hsz]
    exact Ne.symm (Nat.ne_of_lt (Heap.lt_size ho))
  refine extend_I (A1 := X.A.in1) (Rs := wants (fun r s₂ => r = .none ∧ EP X pins σ Q (.ref q0) s₂) X.xe) (Qd := fun zs' H1 => ∀ q, H1 q = none → Q (.ref q) (upd H1 q (.lst zs'))) T TF hnl (I.ok.hd hc) sb I2 fp1 hS2 ha hl hq hql h
    fun s' zs' H1 hn hd I' => ⟨rfl, .ref q0, _, I', rfl, hd q0 hn⟩
theorem c_list (b : Bool) (T : DunT cl X k C .len "__len__") (TI : ItT cl X k C) (hc : X.calm = true) (hr : Room (k + 3) X.A) : CallOk cl X W (.type "list") (arg1 (bList b C)) := CallOk.one _ (((CallRs.of call_list_of).or (call_listI T TI hc hr)).fq) fun hid m h H σ v u Q r hv q => by
  unfold bList at q
  split at q
  · rename_i xs ex
    obtain ⟨p, us, e2, hq, h3⟩ := seqOf_sq r hv ex
    exact .inl ⟨p, us, by rw [e2], hq, Post.newL r h3 q⟩
  · split at q
    · rename_i c fs a ec ea
      unfold itSrc at ea
      rw [ec] at ea
      dsimp only at ea
      split at ea
      · rename_i F eF
        split at ea
        · rename_i w ew
          split at ea
          · rename_i b
            split at ea
            · rename_i xs ex
              cases ea
              obtain ⟨p, dx, gs, e1, h3, h4, _⟩ := cls_get r hv ec
              obtain ⟨u0, e5, h5⟩ := h4.lookup ew
              obtain ⟨p0, us, e6, e7, h6, h7⟩ := vr_lst r h5 ex
              subst e6
              refine .inr ⟨c, F, p, dx, p0, gs, us, eF, by rw [e1], h3, e5, SqL.of h6, ?_⟩
              split at q
              · rename_i ed
                first | rw [ed] | skip
                split at q
                · rename_i ys ey
                  cases ex.symm.trans ey
                  split at q
                  · rename_i hl
                    exact ⟨by rw [h7.length]; exact hl, Post.newL r h7 q⟩
                  · exact q.elim
                · exact q.elim
              · rename_i i ed
                first | rw [ed] | skip
                refine ⟨hid, m, h, [v], r, ⟨_, _, rfl, e1 ▸ hv, rfl⟩, ?_⟩
                split at q
                · rename_i n h1 en
                  show Post _ _ _ _ (C.call i [v] h) _ _
                  rw [en]
                  split at q
                  · rename_i ys ey
                    split at q
                    · rename_i hh
                      intro m' H' u' pm km rm vm
                      have e7' := pre_get pm e7
                      obtain ⟨us', h8, h9⟩ := rm.ob _ _ p0 ey e7'
                      exact ⟨n, vm, hh.1, hh.2.1, us', SqL.of h8, by rw [h9.length]; exact hh.2.2, Post.newL rm h9 (Post.mono pm km q)⟩
                    · exact q.elim
                  · exact q.elim
                · exact q.elim
            · cases ea
          · cases ea
          · cases ea
        · cases ea
      · cases ea
    · rename_i c fs xs ec ea
      unfold itSrc at ea
      rw [ec] at ea
      dsimp only at ea
      split at ea
      · rename_i F eF
        split at ea
        · rename_i w ew
          split at ea
          · split at ea
            · cases ea
            · cases ea
          · rename_i xs0
            cases ea
            obtain ⟨p, dx, gs, e1, h3, h4, _⟩ := cls_get r hv ec
            obtain ⟨u0, e5, h5⟩ := h4.lookup ew
            obtain ⟨p0, us, e6, ⟨od, h6⟩, h7⟩ := h5
            subst e6
            refine .inr ⟨c, F, p, dx, p0, gs, us, eF, by rw [e1], h3, e5, .inl (.inr ⟨od, h6⟩), ?_⟩
            split at q
            · rename_i ed
              first | rw [ed] | skip
              split at q
              · rename_i hl
                exact ⟨by rw [h7.length]; exact hl, Post.newL r h7 q⟩
              · exact q.elim
            · rename_i i ed
              first | rw [ed] | skip
              refine ⟨hid, m, h, [v], r, ⟨_, _, rfl, e1 ▸ hv, rfl⟩, ?_⟩
              split at q
              · rename_i n h1 en
                show Post _ _ _ _ (C.call i [v] h) _ _
                rw [en]
                split at q
                · rename_i hh
                  intro m' H' u' pm km rm vm
                  exact ⟨n, vm, hh.1, hh.2.1, us, .inl (.inr ⟨od, km.2 _ _ _ h6⟩), by rw [h7.length]; exact hh.2.2, Post.newL rm (VRs.mono pm km _ _ h7) (Post.mono pm km q)⟩
                · exact q.elim
              · exact q.elim
          · cases ea
        · cases ea
      · cases ea
    · exact q.elim
end
end Mi

namespace Mi
open PySem PySem.Spec PyProof.Rows L2

/-- a class: its name, the fields that are read or set, operators (and which def), __iter__ (the field, which def), methods, which classes are instances of it -/
structure ClsD where
  name : Str
  flds : List Str := []
  duns : List (Dn × Nat) := []
  itf : Option (Str × Nat) := none
  meths : List (Str × Nat) := []
  init : Option Nat := none
  isa : List (Nat × Bool) := []
structure PD where
  fn : List He.DefD
  frees : List Str
  cds : List ClsD
  cstrs : List (Str × Str) := []
  ctups : List (Str × List Str) := []
def dunNm : Dn → Str
  | .or => "__or__" | .and => "__and__" | .sub => "__sub__" | .ior => "__ior__" | .eq => "__eq__" | .ne => "__ne__" | .le => "__le__" | .len => "__len__" | .has => "__contains__" | .get => "__getitem__" | .set => "__setitem__" | .call => "__call__"
def PD.cn (pd : PD) (c : Nat) : Str := match pd.cds[c]? with
  | some cd => cd.name
  | none => ""
def PD.cl (pd : PD) (K : PySem.W.Frag) (c : Nat) : Addr := He.ga K (pd.cn c)
def PD.at_ (pd : PD) (i : Nat) : Str × Option Str := match pd.fn[i]? with
  | some d => d.at_
  | none => ("", none)
def PD.ad (pd : PD) (K : PySem.W.Frag) (i : Nat) : Addr := He.fAd K (pd.at_ i)
def PD.dn (pd : PD) (c : Nat) (d : Dn) : Option Nat := match pd.cds[c]? with
  | some cd => cd.duns.lookup d
  | none => none
def PD.it (pd : PD) (c : Nat) : Option Str := match pd.cds[c]? with
  | some cd => cd.itf.map (·.1)
  | none => none
def atB (K : PySem.W.Frag) (C : Addr) (nm : Str) (f : Addr) : Bool := He.eqO (PySem.W.findIn K (.ref C) nm) (some (some (.ref f))) && PySem.W.isFn K (.ref f)
def isaB (K : PySem.W.Frag) (C : Addr) : Bool := He.eqO (PySem.W.findIn K (.ref C) "__class__") (some (some (.builtin "object.__class__"))) && He.eqO (PySem.W.specialIn K (.builtin "object.__class__") "__get__") (some (some (.builtin "getset_descriptor.__get__"))) &&
  decide (PySem.W.takesIn K (.builtin "object.__class__") = some true) && decide (PySem.W.mroIn K C (.type "object") = some true)
def tyB (K : PySem.W.Frag) (C : Addr) (t : String) : Bool := decide (PySem.W.kitOne K (.type t) (.ref C) = some false)
def ClsD.okB (pd : PD) (K : PySem.W.Frag) (cd : ClsD) : Bool :=
  (He.Fa.glo cd.name).ok K && ((He.Fa.cls cd.name).ok K && (cd.flds.all (fun f => (He.Fa.noat cd.name f).ok K) && (
  cd.duns.all (fun q => atB K (He.ga K cd.name) (dunNm q.1) (pd.ad K q.2) && PySem.W.selfFirst K (He.ga K cd.name) && PySem.W.noSeq K (He.ga K cd.name)) && (
  (match cd.itf with | some q => atB K (He.ga K cd.name) "__iter__" (pd.ad K q.2) && ((cd.duns.lookup .len).isSome || (He.eqO (PySem.W.findIn K (.ref (He.ga K cd.name)) "__len__") (some none) && He.eqO (PySem.W.findIn K (.ref (He.ga K cd.name)) "__length_hint__") (some none))) | none => true) && (
  cd.meths.all (fun q => atB K (He.ga K cd.name) q.1 (pd.ad K q.2) && PySem.W.keepIn K (.ref (pd.ad K q.2))) && (
  (match cd.init with | some i => (He.Fa.mkr cd.name).ok K && decide (He.ma K (He.ga K cd.name) "__init__" = pd.ad K i) | none => true) && (
  (match cd.isa with | [] => true | l => l.all (fun q => isaB K (pd.cl K q.1) && ((He.Fa.cls (pd.cn q.1)).ok K && decide (PySem.W.kitOne K (.ref (pd.cl K q.1)) (.ref (He.ga K cd.name)) = some q.2))) && (tyB K (He.ga K cd.name) "bool" && (tyB K (He.ga K cd.name) "int" && (tyB K (He.ga K cd.name) "str" && (tyB K (He.ga K cd.name) "NoneType" && tyB K (He.ga K cd.name) "list"))))))))))))
/-- a module's tuple of texts -/
def tupB (K : PySem.W.Frag) (x : Str) (ss : List Str) : Bool := (He.Fa.glo x).ok K && (match K.lookup (He.ga K x) with
  | some o => decide (o.cls = .type "tuple") && (decide (o.dict = none) && (match o.data with
    | .seq its _ => decide (its.size ≤ sizeLine) && decide (its.toList.map (fun v => match v with | .str z _ => some z | _ => none) = ss.map some)
    | _ => false))
  | none => false)
def PD.okB (pd : PD) (K : PySem.W.Frag) : Bool := (pd.frees.all (fun x => (He.Fa.free x).ok K) && (pd.cstrs.all (fun q => (He.Fa.str q.1 q.2).ok K) && pd.ctups.all (fun q => tupB K q.1 q.2))) && (pd.fn.all (fun d => match d.at_.2 with | none => (He.Fa.glo d.at_.1).ok K | some _ => true) && pd.cds.all (fun cd => cd.okB pd K))

/-- what the module's objects are, and what the defs do at the level k -/
structure Hyp (pd : PD) (P : Program) (w : World) (K : PySem.W.Frag) (mg : Str → Option Value) (base : Heap) (C : CE) (k : Nat) : Prop where
  ok : pd.okB K = true
  hgl : ∀ x : Str, (He.Fa.glo x).ok K = true → mg x = some (.ref (He.ga K x))
  hfr : ∀ x : Str, (He.Fa.free x).ok K = true → mg x = none
  hst : ∀ x z : Str, (He.Fa.str x z).ok K = true → ∃ t, mg x = some (.str z t)
  fnd : ∀ (i : Nat) (d : He.DefD), pd.fn[i]? = some d → ∃ fd, FunD K d.name d.qual d.params d.body d.scope (d.dvs K) (d.kws K) (He.fAd K d.at_) fd
  run : ∀ (i : Nat) (d : He.DefD), pd.fn[i]? = some d → FnR P w K mg base (L2.CX P w) k (He.fAd K d.at_) (spF (pd.cl K) K (C.call i))
  its : ∀ (c : Nat) (cd : ClsD) (F : Str) (i : Nat) (d : He.DefD), pd.cds[c]? = some cd → cd.itf = some (F, i) → pd.fn[i]? = some d → FnI P w K mg base k (He.fAd K d.at_) (pd.cl K c) F
  bnd : ∀ (c : Nat) (cd : ClsD), pd.cds[c]? = some cd → (∀ q ∈ cd.duns, (pd.fn[q.2]?).isSome = true) ∧ (∀ q ∈ cd.meths, (pd.fn[q.2]?).isSome = true) ∧ (∀ q, cd.itf = some q → (pd.fn[q.2]?).isSome = true) ∧ (∀ i, cd.init = some i → (pd.fn[i]?).isSome = true)
  mak : C.mak = C.call
  dn : C.dn = pd.dn
  it : C.it = pd.it
structure Ctx (pd : PD) (X : Cx) (C : CE) (k : Nat) : Prop where
  h : Hyp pd X.prog X.w X.K X.mg X.base C k
  room : Room (k + 3) X.A
  calm : X.calm = true
section
variable {pd : PD} {X : Cx} {C : CE} {k : Nat} {W : WX}
theorem Ctx.blk (c : Ctx pd X C k) {s : Shared} {H : Hp} {sc : Scope} {cenv : Env} {fp : List Addr} : Ctx pd (X.blk s H sc cenv fp) C k := ⟨c.h, c.room, c.calm⟩
theorem ba3 {a b : Bool} (h : (a && b) = true) : a = true ∧ b = true := Bool.and_eq_true_iff.mp h
theorem ad_of {i : Nat} {d : He.DefD} {K : PySem.W.Frag} (h : pd.fn[i]? = some d) : pd.ad K i = He.fAd K d.at_ := by
  unfold PD.ad PD.at_
  rw [h]
theorem cl_of {c : Nat} {cd : ClsD} {K : PySem.W.Frag} (h : pd.cds[c]? = some cd) : pd.cl K c = He.ga K cd.name := by
  unfold PD.cl PD.cn
  rw [h]
theorem Ctx.r0 (c : Ctx pd X C k) : Room k X.A := c.room.mono (Nat.le_add_right _ _)
theorem Ctx.r1 (c : Ctx pd X C k) : Room (k + 1) X.A := c.room.mono (by omega)
theorem Ctx.free (c : Ctx pd X C k) {x : Str} (h : x ∈ pd.frees) : X.mg x = none := c.h.hfr x (List.all_eq_true.mp (ba3 (ba3 c.h.ok).1).1 x h)
theorem Ctx.gstr (c : Ctx pd X C k) {x z : Str} (h : (x, z) ∈ pd.cstrs) : ∃ t, X.mg x = some (.str z t) := c.h.hst x z (List.all_eq_true.mp (ba3 (ba3 (ba3 c.h.ok).1).2).1 _ h)
theorem strs_vals : ∀ {its : List Value} {ss : List Str}, its.map (fun v => match v with | .str z _ => some z | _ => none) = ss.map some → Vals (ss.map V.str) its
  | [], [], _ => .nil
  | [], _ :: _, e => by cases e
  | _ :: _, [], e => by cases e
  | v :: its, x :: ss, e => by
    simp only [List.map_cons, List.cons.injEq] at e
    refine .cons ?_ (strs_vals e.2)
    have z := e.1
    split at z
    · rename_i y t
      cases z
      exact ⟨t, rfl⟩
    · cases z
theorem Ctx.gtup (c : Ctx pd X C k) {x : Str} {ss : List Str} (h : (x, ss) ∈ pd.ctups) : X.mg x = some (.ref (He.ga X.K x)) ∧ CtAt X.K (fun _ => none) (He.ga X.K x) (ss.map V.str) := by
  have z := List.all_eq_true.mp (ba3 (ba3 (ba3 c.h.ok).1).2).2 _ h
  obtain ⟨z1, z2⟩ := ba3 (show (_ && _) = true from z)
  refine ⟨c.h.hgl x z1, ?_⟩
  dsimp only at z2
  split at z2
  · rename_i o eo
    obtain ⟨z3, z4⟩ := ba3 z2
    obtain ⟨z4, z5⟩ := ba3 z4
    split at z5
    · rename_i its n ed
      obtain ⟨z6, z7⟩ := ba3 z5
      exact .inr ⟨o, its, n, eo, of_decide_eq_true z3, of_decide_eq_true z4, ed, of_decide_eq_true z6, strs_vals (of_decide_eq_true z7)⟩
    · cases z5
  · cases z2
theorem Ctx.gfn (c : Ctx pd X C k) {i : Nat} {d : He.DefD} {x : Str} (h : pd.fn[i]? = some d) (e : d.at_ = (x, none)) : X.mg x = some (.ref (He.fAd X.K d.at_)) := by
  have z := List.all_eq_true.mp (ba3 (ba3 c.h.ok).2).1 d (List.mem_of_getElem? h)
  rw [e] at z ⊢
  exact c.h.hgl x z
theorem Ctx.cls (c : Ctx pd X C k) {j : Nat} {cd : ClsD} (h : pd.cds[j]? = some cd) : cd.okB pd X.K = true := List.all_eq_true.mp (ba3 (ba3 c.h.ok).2).2 cd (List.mem_of_getElem? h)
theorem Ctx.kp (c : Ctx pd X C k) {i : Nat} {d : He.DefD} (h : pd.fn[i]? = some d) : PySem.W.keepIn X.K (.ref (He.fAd X.K d.at_)) = true := by
  obtain ⟨fd, F⟩ := c.h.fnd i d h
  exact F.kp
theorem Ctx.gcl (c : Ctx pd X C k) {j : Nat} {cd : ClsD} (h : pd.cds[j]? = some cd) : X.mg cd.name = some (.ref (pd.cl X.K j)) := by
  rw [cl_of h]
  exact c.h.hgl _ (ba3 (c.cls h)).1
theorem Ctx.cl_ (c : Ctx pd X C k) {j : Nat} {cd : ClsD} (h : pd.cds[j]? = some cd) : Cls X.K (pd.cl X.K j) := by
  rw [cl_of h]
  exact He.cls_ok (ba3 (ba3 (c.cls h)).2).1
theorem Ctx.noat (c : Ctx pd X C k) {j : Nat} {cd : ClsD} {f : Str} (h : pd.cds[j]? = some cd) (hf : f ∈ cd.flds) : NoAttr X.K (pd.cl X.K j) f := by
  rw [cl_of h]
  exact He.noat_ok (List.all_eq_true.mp (ba3 (ba3 (ba3 (c.cls h)).2).2).1 f hf)
theorem atB_ok {K : PySem.W.Frag} {C : Addr} {nm : Str} {f : Addr} (h : atB K C nm f = true) : PySem.W.findIn K (.ref C) nm = some (some (.ref f)) ∧ PySem.W.isFn K (.ref f) = true := ⟨He.eqO_ok (ba3 h).1, (ba3 h).2⟩
theorem lookup_memD {d : Dn} {i : Nat} : ∀ {l : List (Dn × Nat)}, l.lookup d = some i → (d, i) ∈ l
  | [], h => by cases h
  | (b, u) :: r, h => by
    rw [List.lookup_cons] at h
    cases q : (d == b) with
    | true =>
      rw [q] at h
      cases h
      rw [eq_of_beq q]
      exact List.mem_cons_self
    | false =>
      rw [q] at h
      exact List.mem_cons_of_mem _ (lookup_memD h)
theorem Ctx.dun (c : Ctx pd X C k) (d : Dn) : DunT (pd.cl X.K) X k C d (dunNm d) := fun j i e => by
  rw [c.h.dn] at e
  unfold PD.dn at e
  split at e
  · rename_i cd h
    have hm := lookup_memD e
    have z := List.all_eq_true.mp (ba3 (ba3 (ba3 (ba3 (c.cls h)).2).2).2).1 _ hm
    obtain ⟨z1, z3⟩ := ba3 z
    obtain ⟨z1, z2⟩ := ba3 z1
    obtain ⟨z4, z5⟩ := atB_ok z1
    have hs := (c.h.bnd j cd h).1 _ hm
    obtain ⟨df, hd⟩ := Option.isSome_iff_exists.mp hs
    rw [cl_of h]
    refine ⟨⟨_, ⟨by rw [cl_of h]; exact z4, z5, ?_, ?_⟩⟩, z2, z3⟩
    · rw [show pd.ad X.K i = He.fAd X.K df.at_ from ad_of hd]
      exact c.h.run i df hd
    · rw [show pd.ad X.K i = He.fAd X.K df.at_ from ad_of hd]
      obtain ⟨fd, F⟩ := c.h.fnd i df hd
      obtain ⟨oc, od, dV, kV, doc, pm, an, cdv, ct, osl, rfl, lk, _⟩ := F.ex
      unfold PySem.W.fnIn
      rw [lk]
  · cases e
theorem Ctx.itT (c : Ctx pd X C k) : ItT (pd.cl X.K) X k C := fun j F e => by
  rw [c.h.it] at e
  unfold PD.it at e
  split at e
  · rename_i cd h
    obtain ⟨⟨F', i⟩, e1, e2⟩ := Option.map_eq_some_iff.mp e
    subst e2
    have z := (ba3 (ba3 (ba3 (ba3 (ba3 (c.cls h)).2).2).2).2).1
    rw [e1] at z
    obtain ⟨z1, z2⟩ := ba3 z
    obtain ⟨z4, z5⟩ := atB_ok z1
    obtain ⟨df, hd⟩ := Option.isSome_iff_exists.mp ((c.h.bnd j cd h).2.2.1 _ e1)
    refine ⟨⟨_, ⟨by rw [cl_of h]; exact z4, z5, ?_⟩⟩, fun e3 => ?_⟩
    · rw [show pd.ad X.K i = He.fAd X.K df.at_ from ad_of hd]
      exact c.h.its j cd F' i df h e1 hd
    · rw [c.h.dn] at e3
      unfold PD.dn at e3
      rw [h] at e3
      dsimp only at e3
      rw [e3] at z2
      obtain ⟨z6, z7⟩ := ba3 (show (_ && _) = true from z2)
      rw [cl_of h]
      exact ⟨He.eqO_ok z6, He.eqO_ok z7⟩
  · cases e
theorem Ctx.mth (c : Ctx pd X C k) {j i : Nat} {cd : ClsD} {d : He.DefD} {m : Str} (h : pd.cds[j]? = some cd) (hm : (m, i) ∈ cd.meths) (hd : pd.fn[i]? = some d) : Meth X.K (pd.cl X.K j) m (He.fAd X.K d.at_) := by
  have z := List.all_eq_true.mp (ba3 (ba3 (ba3 (ba3 (ba3 (ba3 (c.cls h)).2).2).2).2).2).1 _ hm
  obtain ⟨z1, z2⟩ := ba3 z
  obtain ⟨z4, z5⟩ := atB_ok z1
  rw [cl_of h]
  have e := ad_of (K := X.K) hd
  dsimp only at z2 z4 z5
  rw [e] at z2 z4 z5
  exact ⟨z4, z5, z2⟩
theorem Ctx.mk_ (c : Ctx pd X C k) {j i : Nat} {cd : ClsD} {d : He.DefD} (h : pd.cds[j]? = some cd) (hi : cd.init = some i) (hd : pd.fn[i]? = some d) : Mk X.K (pd.cl X.K j) (He.fAd X.K d.at_) := by
  have z := (ba3 (ba3 (ba3 (ba3 (ba3 (ba3 (ba3 (c.cls h)).2).2).2).2).2).2).1
  rw [hi] at z
  obtain ⟨z1, z2⟩ := ba3 z
  have e := of_decide_eq_true z2
  rw [ad_of hd] at e
  rw [cl_of h, ← e]
  exact He.mkr_ok z1
theorem isaB_ok {K : PySem.W.Frag} {Ca : Addr} (h : isaB K Ca = true) (hc : Cls K Ca) : IsaC K Ca := by
  obtain ⟨h, h4⟩ := ba3 h
  obtain ⟨h, h3⟩ := ba3 h
  obtain ⟨h1, h2⟩ := ba3 h
  exact ⟨hc, He.eqO_ok h1, He.eqO_ok h2, of_decide_eq_true h3, of_decide_eq_true h4⟩
theorem lookup_memN {d : Nat} {b : Bool} : ∀ {l : List (Nat × Bool)}, l.lookup d = some b → (d, b) ∈ l
  | [], h => by cases h
  | (c, u) :: r, h => by
    rw [List.lookup_cons] at h
    cases q : (d == c) with
    | true =>
      rw [q] at h
      cases h
      rw [eq_of_beq q]
      exact List.mem_cons_self
    | false =>
      rw [q] at h
      exact List.mem_cons_of_mem _ (lookup_memN h)
theorem Ctx.isa (c : Ctx pd X C k) {j : Nat} {cd : ClsD} (h : pd.cds[j]? = some cd) (hn : cd.isa ≠ []) : IsaT X.K (pd.cl X.K) (pd.cl X.K j) cd.isa := by
  have z := (ba3 (ba3 (ba3 (ba3 (ba3 (ba3 (ba3 (c.cls h)).2).2).2).2).2).2).2
  split at z
  · rename_i e; exact (hn e).elim
  · rename_i l e
    obtain ⟨z0, z⟩ := ba3 z
    obtain ⟨z1, z⟩ := ba3 z
    obtain ⟨z2, z⟩ := ba3 z
    obtain ⟨z3, z⟩ := ba3 z
    obtain ⟨z4, z5⟩ := ba3 z
    rw [cl_of h]
    refine ⟨fun q b e => ?_, of_decide_eq_true z1, of_decide_eq_true z2, of_decide_eq_true z3, of_decide_eq_true z4, of_decide_eq_true z5⟩
    have y := List.all_eq_true.mp z0 _ (lookup_memN e)
    obtain ⟨y1, y2⟩ := ba3 y
    obtain ⟨y2, y3⟩ := ba3 y2
    exact ⟨isaB_ok y1 (He.cls_ok y2), of_decide_eq_true y3⟩

variable {e a b o : Expr} {es : List Expr} {pos p apos : Pos} {x f : Str}
theorem x_call (c : Ctx pd X C k) (i : Nat) {d : He.DefD} {fa : SA} (hg : Gl X x) (hi : pd.fn[i]? = some d) (hx : d.at_ = (x, none)) (ha : PAm (pd.cl X.K) X W (e :: es) fa)
    (hdb : (x == ("__debug__" : Str)) = false := by decide) (he : starEach (e :: es) X.env = (false, eval e X.env) :: starEach es X.env := by rfl) (hpl : (backTo pos (starEach es X.env)).any (·.1) = false := by rfl) :
    PEm (pd.cl X.K) X W (.Call (.Name x p) (e :: es) [] pos) (sCall C i fa) := m_call (c.h.run i d hi) c.r0 hg (c.gfn hi hx) (c.kp hi) ha hdb he hpl
theorem x_call0 (c : Ctx pd X C k) (i : Nat) {d : He.DefD} (hg : Gl X x) (hi : pd.fn[i]? = some d) (hx : d.at_ = (x, none)) (hdb : (x == ("__debug__" : Str)) = false := by decide) :
    PEm (pd.cl X.K) X W (.Call (.Name x p) [] [] pos) (sCall C i aNil) := m_call0 (c.h.run i d hi) c.r0 hg (c.gfn hi hx) (c.kp hi) hdb
theorem x_callS1 (c : Ctx pd X C k) (i : Nat) {d : He.DefD} {fe : SE} {sp_ : Pos} (hg : Gl X x) (hi : pd.fn[i]? = some d) (hx : d.at_ = (x, none)) (ha : PEm (pd.cl X.K) X W e fe)
    (hdb : (x == ("__debug__" : Str)) = false := by decide) (hst : starEach [.Starred e sp_] X.env = [(true, eval e X.env)] := by rfl) :
    PEm (pd.cl X.K) X W (.Call (.Name x p) [.Starred e sp_] [] pos) (sCall C i (aStar fe aNil)) := m_callS1 (c.h.run i d hi) c.r0 hg (c.gfn hi hx) (c.kp hi) ha hdb hst
theorem Ctx.runM (c : Ctx pd X C k) {i : Nat} {d : He.DefD} (h : pd.fn[i]? = some d) : FnM (pd.cl X.K) X k (He.fAd X.K d.at_) (C.mak i) := by
  rw [c.h.mak]
  exact c.h.run i d h
theorem x_mk (c : Ctx pd X C k) (j i : Nat) {cd : ClsD} {d : He.DefD} {fa : SA} (hg : Gl X x) (hj : pd.cds[j]? = some cd) (hx : cd.name = x) (hi : cd.init = some i) (hd : pd.fn[i]? = some d) (ha : PAm (pd.cl X.K) X W (e :: es) fa)
    (hdb : (x == ("__debug__" : Str)) = false := by decide) (he : starEach (e :: es) X.env = (false, eval e X.env) :: starEach es X.env := by rfl) (hpl : (backTo pos (starEach es X.env)).any (·.1) = false := by rfl) :
    PEm (pd.cl X.K) X W (.Call (.Name x p) (e :: es) [] pos) (sMk C j i fa) := m_mk (c.mk_ hj hi hd) (c.runM hd) c.r1 hg (by rw [← hx]; exact c.gcl hj) ha hdb he hpl
theorem x_mk0 (c : Ctx pd X C k) (j i : Nat) {cd : ClsD} {d : He.DefD} (hg : Gl X x) (hj : pd.cds[j]? = some cd) (hx : cd.name = x) (hi : cd.init = some i) (hd : pd.fn[i]? = some d) (hdb : (x == ("__debug__" : Str)) = false := by decide) :
    PEm (pd.cl X.K) X W (.Call (.Name x p) [] [] pos) (sMk C j i aNil) := m_mk0 (c.mk_ hj hi hd) (c.runM hd) c.r1 hg (by rw [← hx]; exact c.gcl hj) hdb
theorem x_mkS1 (c : Ctx pd X C k) (j i : Nat) {cd : ClsD} {d : He.DefD} {fe : SE} {sp_ : Pos} (hg : Gl X x) (hj : pd.cds[j]? = some cd) (hx : cd.name = x) (hi : cd.init = some i) (hd : pd.fn[i]? = some d) (ha : PEm (pd.cl X.K) X W e fe)
    (hdb : (x == ("__debug__" : Str)) = false := by decide) (hst : starEach [.Starred e sp_] X.env = [(true, eval e X.env)] := by rfl) :
    PEm (pd.cl X.K) X W (.Call (.Name x p) [.Starred e sp_] [] pos) (sMk C j i (aStar fe aNil)) := m_mkS1 (c.mk_ hj hi hd) (c.runM hd) c.r1 hg (by rw [← hx]; exact c.gcl hj) ha hdb hst
theorem x_fld (c : Ctx pd X C k) (j : Nat) {cd : ClsD} {fe : SE} (hj : pd.cds[j]? = some cd) (hf : f ∈ cd.flds) (ha : PEm (pd.cl X.K) X W e fe) (hb : attributeBase e f X.env (eval e X.env) = eval e X.env := by rfl) :
    PEm (pd.cl X.K) X W (.Attribute e f pos) (sFld j f fe) := m_fld (c.cl_ hj) (c.noat hj hf) ha hb
theorem xs_fld (c : Ctx pd X C k) (j : Nat) {cd : ClsD} {fo fe : SE} {pos' : Pos} (hj : pd.cds[j]? = some cd) (hf : f ∈ cd.flds) (ha : PEm (pd.cl X.K) X W o fo) (he : PEm (pd.cl X.K) X W e fe) (hs : swapsWith e (some (.Attribute o f pos')) pos.line X.env = pure false := by rfl) :
    PSm (pd.cl X.K) X W (.Assign [.Attribute o f pos'] e pos) (ssFld j f fo fe) := ms_fld (c.cl_ hj) (c.noat hj hf) ha he hs
theorem x_isA (c : Ctx pd X C k) (j : Nat) {cd : ClsD} {l : List (Nat × Bool)} {fe : SE} {y : Str} {p2 : Pos} (hg : Gl X "isinstance") (hg2 : Gl X y) (hj : pd.cds[j]? = some cd) (hy : cd.name = y) (hl : cd.isa = l) (hn : l ≠ []) (hf : ("isinstance" : Str) ∈ pd.frees) (ha : PEm (pd.cl X.K) X W e fe)
    (hd : (y == ("__debug__" : Str)) = false := by decide) (he : starEach (e :: [.Name y p2]) X.env = (false, eval e X.env) :: starEach [.Name y p2] X.env := by rfl) (hpl : (backTo pos (starEach [.Name y p2] X.env)).any (·.1) = false := by rfl) :
    PEm (pd.cl X.K) X W (.Call (.Name "isinstance" p) [e, .Name y p2] [] pos) (op1 (bIsA l) fe) := m_isA (hl ▸ c.isa hj (hl ▸ hn)) hg (c.free hf) hg2 (by rw [← hy]; exact c.gcl hj) ha hd he hpl
end
end Mi

namespace Mi
open PySem PySem.Spec PyProof.Rows L2
/-- the defs of the program, as functions of the calls' environment -/
abbrev Bod := CE → Nat → List AV → AH → R AV
def callN (bod : Bod) (pd : PD) : Nat → Nat → List AV → AH → R AV
  | 0 => fun _ _ _ => .bad
  | n + 1 => bod { call := callN bod pd n, mak := callN bod pd n, dn := pd.dn, it := pd.it }
def ceN (bod : Bod) (pd : PD) (n : Nat) : CE := { call := callN bod pd n, mak := callN bod pd n, dn := pd.dn, it := pd.it }
theorem callN_succ (bod : Bod) (pd : PD) (n : Nat) : callN bod pd (n + 1) = bod (ceN bod pd n) := rfl
section
variable {pd : PD} {P : Program} {w : World} {K : PySem.W.Frag} {mg : Str → Option Value} {base : Heap} {C : CE} {k : Nat} {N ps : List Str} {b : SS} {i : Nat} {d : He.DefD}
theorem FnR.of_bad {f : Addr} {cl : Nat → Addr} {g : List AV → AH → R AV} (h : ∀ vs h, g vs h = .bad) : FnR P w K mg base (L2.CX P w) k f (spF cl K g) := fun A outer s H us vs Q E hr e0 r hs => by
  obtain ⟨hid, m, h0, as, _, _, q⟩ := hs
  rw [h] at q
  exact q.elim
/-- the def's body over the context -/
abbrev BodyOk (pd : PD) (P : Program) (w : World) (K : PySem.W.Frag) (mg : Str → Option Value) (base : Heap) (C : CE) (k : Nat) (N : List Str) (d : He.DefD) (b : SS) : Prop := ∀ (cdv : Value) (A : Around) (outer : List Env) (s : Shared) (H : Hp) (E : XK),
  Ctx pd (cxM P w K mg base N d.qual d.scope (He.fAd K d.at_) cdv A outer s H E) C k → PSsm (pd.cl K) (cxM P w K mg base N d.qual d.scope (He.fAd K d.at_) cdv A outer s H E) (fun cls d _ H => E cls d H) d.body b
theorem step_ok (H : Hyp pd P w K mg base C k) {fd : FuncData} (F : FunD K d.name d.qual d.params d.body d.scope [] [] (He.fAd K d.at_) fd) (S : FnScope N ps d.scope) (hbody : BodyOk pd P w K mg base C k N d b) : FnOk P w K mg base (L2.CX P w) (k + 4) (He.fAd K d.at_) fd ps (spF (pd.cl K) K (runF ps.length N.length b)) := by
  refine F.ok S (fun vs H Q E h => ?_) (fun cdv A outer s H' vs Q E hr h => ?_)
  · obtain ⟨hid, m, h0, as, r, hv, q⟩ := h
    unfold runF at q
    split at q
    · rename_i hl
      rw [hv.length]; exact hl
    · exact q.elim
  · obtain ⟨hid, m, h0, as, r, hv, q⟩ := h
    obtain ⟨t, h1, s1⟩ := hbody cdv A outer s H' E ⟨H, hr, rfl⟩ takesM
    refine ⟨t, h1, s1 hid m h0 H' _ _ _ r (rels_start N.length hv) ?_⟩
    unfold runF at q
    split at q
    · exact runF_post q
    · exact q.elim
theorem step_plain (H : Hyp pd P w K mg base C k) (hd : pd.fn[i]? = some d) (h1 : d.dfl = []) (h2 : d.kwd = []) (S : FnScope N ps d.scope)
    (hb : ∀ (kV doc pm : Value) (an : Option Addr) (cdv ct : Value) (us : List Value), us.length = ps.length → bindArgs (PySem.W.fnOf d.name d.qual d.params d.body d.scope .none kV doc pm an cdv ct) ⟨us, []⟩ = pure (ps.zip us))
    (hbody : BodyOk pd P w K mg base C k N d b) : FnR P w K mg base (L2.CX P w) (k + 4) (He.fAd K d.at_) (spF (pd.cl K) K (runF ps.length N.length b)) := by
  obtain ⟨fd, F⟩ := H.fnd i d hd
  unfold He.DefD.dvs He.DefD.kws at F
  rw [h1, h2] at F
  exact fn_plain F S hb fun cdv A outer s H' E hr => hbody cdv A outer s H' E ⟨H, hr, rfl⟩
theorem step_star {pv : Str} (H : Hyp pd P w K mg base C k) (hd : pd.fn[i]? = some d) (h1 : d.dfl = []) (h2 : d.kwd = []) (S : FnScope N (ps ++ [pv]) d.scope)
    (hb : ∀ (kV doc pm : Value) (an : Option Addr) (cdv ct : Value) (us rest : List Value), us.length = ps.length → bindArgs (PySem.W.fnOf d.name d.qual d.params d.body d.scope .none kV doc pm an cdv ct) ⟨us ++ rest, []⟩ = (newTuple rest >>= fun t => pure (ps.zip us ++ [(pv, t)])))
    (hbody : BodyOk pd P w K mg base C k N d b) : FnR P w K mg base (L2.CX P w) (k + 4) (He.fAd K d.at_) (spF (pd.cl K) K (runS ps.length N.length b)) := by
  obtain ⟨fd, F⟩ := H.fnd i d hd
  unfold He.DefD.dvs He.DefD.kws at F
  rw [h1, h2] at F
  exact fn_starM F S hb fun cdv A outer s H' E hr => hbody cdv A outer s H' E ⟨H, hr, rfl⟩
end
/-- the facts alone -/
structure Base0 (pd : PD) (K : PySem.W.Frag) (mg : Str → Option Value) : Prop where
  ok : pd.okB K = true
  hgl : ∀ x : Str, (He.Fa.glo x).ok K = true → mg x = some (.ref (He.ga K x))
  hfr : ∀ x : Str, (He.Fa.free x).ok K = true → mg x = none
  hst : ∀ x z : Str, (He.Fa.str x z).ok K = true → ∃ t, mg x = some (.str z t)
  fnd : ∀ (i : Nat) (d : He.DefD), pd.fn[i]? = some d → ∃ fd, FunD K d.name d.qual d.params d.body d.scope (d.dvs K) (d.kws K) (He.fAd K d.at_) fd
  bnd : ∀ (c : Nat) (cd : ClsD), pd.cds[c]? = some cd → (∀ q ∈ cd.duns, (pd.fn[q.2]?).isSome = true) ∧ (∀ q ∈ cd.meths, (pd.fn[q.2]?).isSome = true) ∧ (∀ q, cd.itf = some q → (pd.fn[q.2]?).isSome = true) ∧ (∀ i, cd.init = some i → (pd.fn[i]?).isSome = true)
section
variable {bod : Bod} {pd : PD} {P : Program} {w : World} {K : PySem.W.Frag} {mg : Str → Option Value} {base : Heap}
theorem run_all (B : Base0 pd K mg) (step : ∀ (C : CE) (k : Nat), Hyp pd P w K mg base C k → ∀ (i : Nat) (d : He.DefD), pd.fn[i]? = some d → FnR P w K mg base (L2.CX P w) (k + 4) (He.fAd K d.at_) (spF (pd.cl K) K (bod C i)))
    (its : ∀ (k c : Nat) (cd : ClsD) (F : Str) (i : Nat) (d : He.DefD), pd.cds[c]? = some cd → cd.itf = some (F, i) → pd.fn[i]? = some d → FnI P w K mg base (k + 1) (He.fAd K d.at_) (pd.cl K c) F) :
    ∀ n, Hyp pd P w K mg base (ceN bod pd n) (4 * n + 1)
  | 0 => ⟨B.ok, B.hgl, B.hfr, B.hst, B.fnd, fun i d hd => FnR.of_bad fun _ _ => rfl, fun c cd F i d h1 h2 h3 => its 0 c cd F i d h1 h2 h3, B.bnd, rfl, rfl, rfl⟩
  | n + 1 => ⟨B.ok, B.hgl, B.hfr, B.hst, B.fnd, fun i d hd => step (ceN bod pd n) (4 * n + 1) (run_all B step its n) i d hd, fun c cd F i d h1 h2 h3 => its (4 * (n + 1)) c cd F i d h1 h2 h3, B.bnd, rfl, rfl, rfl⟩
end
/-- what a law's walk asks at its script -/
theorem law_sp {cl : Nat → Addr} {K : PySem.W.Frag} {g : List AV → AH → R AV} {H : Hp} {a : Addr} {ns : List Int} (hO : Only H) (hS : SqL K H a (ns.map V.int)) {h' : AH} (e : g [.scr ns] [] = .ok (.bl true) h') : spF cl K g [.ref a] H (fun v _ => v = .bl true) fun _ _ _ => False := by
  have hs : ScrAt K H a ns := by
    rcases hS with (h | ⟨o, h⟩) | h
    · rcases hO a with z | ⟨o, xs, z⟩
      · rw [z] at h; cases h
      · rw [z] at h; cases h
    · exact .inl ⟨o, h⟩
    · exact .inr h
  refine ⟨[], [], [], [.scr ns], ⟨rfl, List.nodup_nil, fun i o a e1 e2 => by simp at e1, fun _ z => nomatch z⟩, ⟨_, [], rfl, ⟨a, rfl, hs⟩, rfl⟩, ?_⟩
  rw [e]
  exact fun m' H' u _ _ _ hu => hu
end Mi
namespace Mi
open PySem PySem.Spec PyProof.Rows L2
def bndB (pd : PD) : Bool := pd.cds.all fun cd => cd.duns.all (fun q => (pd.fn[q.2]?).isSome) && (cd.meths.all (fun q => (pd.fn[q.2]?).isSome) && ((match cd.itf with | some q => (pd.fn[q.2]?).isSome | none => true) && (match cd.init with | some i => (pd.fn[i]?).isSome | none => true)))
theorem bndB_ok {pd : PD} (h : bndB pd = true) (c : Nat) (cd : ClsD) (hc : pd.cds[c]? = some cd) : (∀ q ∈ cd.duns, (pd.fn[q.2]?).isSome = true) ∧ (∀ q ∈ cd.meths, (pd.fn[q.2]?).isSome = true) ∧ (∀ q, cd.itf = some q → (pd.fn[q.2]?).isSome = true) ∧ (∀ i, cd.init = some i → (pd.fn[i]?).isSome = true) := by
  have z := List.all_eq_true.mp h cd (List.mem_of_getElem? hc)
  obtain ⟨z1, z⟩ := ba3 z
  obtain ⟨z2, z⟩ := ba3 z
  obtain ⟨z3, z4⟩ := ba3 z
  exact ⟨List.all_eq_true.mp z1, List.all_eq_true.mp z2, fun q e => by rw [e] at z3; exact z3, fun i e => by rw [e] at z4; exact z4⟩
theorem base0 {pd : PD} {K : PySem.W.Frag} {h : Heap} {mg : Str → Option Value} {w : World} {ts : List He.Tab} {tf : List He.Defn} (X : K.In h) (G : h.Ns mainGlobals mg) (c : He.SaysX [] pd.fn ts tf pd.okB w h K) (hb : bndB pd = true) : Base0 pd K mg :=
  ⟨c.more, fun x e => He.glo_ok X G e, fun x e => He.free_ok X G e, fun x z e => He.str_ok X G e, fun i d e => c.t.d.def_ i e, bndB_ok hb⟩
/-- an exception of some world -/
def CXe (P : Program) : CXT := fun outer H s E e s' => ∃ w, L2.CX P w outer H s E e s'
theorem fnOk_e {P : Program} {w : World} {K : PySem.W.Frag} {mg : Str → Option Value} {base : Heap} {k : Nat} {f : Addr} {fd : FuncData} {ps : List Str} {sp : Sp} (F : FnOk P w K mg base (L2.CX P w) k f fd ps sp) : FnOk P w K mg base (CXe P) k f fd ps sp :=
  ⟨F.len, fun A outer s H args us vs Q E hr e0 hb r hs => codeAny_mono (F.run A outer s H args us vs Q E hr e0 hb r hs) fun r s' h => by
    cases r with
    | error e => exact ⟨w, h⟩
    | ok fl => cases fl <;> exact h⟩
theorem cxe_none {P : Program} {H : L2.Hp} {s s1 : Shared} {e : Value} (c : CXe P [] H s (fun _ _ _ => False) e s1) : False := by
  obtain ⟨w, a, B, H1, cls, d, rfl, fl, hok, ub, na, os, ag, hE⟩ := c
  exact hE
end Mi

namespace Mi
open PySem PySem.Spec PyProof.Rows L2
def bTo (b : Bool) (k : Nat) (v : AV) (h : AH) : R AV := match lstOf v h with
  | some xs => newL b (xs.take k) h
  | none => .bad
def bIsBl (v : AV) (h : AH) : R AV := match v with
  | .bl _ => .ok (.bl true) h
  | _ => .bad
section
variable {cl : Nat → Addr} {X : Cx} {W : WX} {e : Expr} {pos p p2 p3 : Pos}
theorem m_sliceTo (b : Bool) (k : Nat) {j : Nat} {fe : SE} (ha : PEm cl X W e fe) : PEm cl X W (.Subscript e (.Slice none (some (.Constant (.int (k : Int)) j p3)) none p2) pos) (op1 (bTo b k) fe) := fun tk => by
  obtain ⟨ta, a1, s1⟩ := ha tk
  refine ⟨_, fqE (pe_slice sl_list a1 po_none (po_some pe_int)), fun hid m h H σ' σ Q r rs q => s1 hid m h H σ' σ _ r rs (Post.bind q fun v h1' m1 H1 u _ p1 k1 r1 v1 q1 => ?_)⟩
  unfold bTo at q1
  split at q1
  · rename_i xs ex
    obtain ⟨p0, us, e1, h3, h4⟩ := lst_sq r1 v1 ex
    have hc : cutV us none (some (k : Int)) = us.take k := by
      unfold cutV
      rw [HT.sIx_none, HT.sIx_nat, List.drop_zero, Nat.sub_zero, List.take_eq_take_iff]
      omega
    exact ⟨_, rfl, p0, us, e1, h3, by rw [hc]; exact Post.newL r1 (h4.take k) q1⟩
  · exact q1.elim
theorem m_isBl {fe : SE} (hg : Gl X "isinstance") (hm : X.mg "isinstance" = none) (hg2 : Gl X "bool") (hm2 : X.mg "bool" = none) (ha : PEm cl X W e fe)
    (he : starEach (e :: [.Name "bool" p2]) X.env = (false, eval e X.env) :: starEach [.Name "bool" p2] X.env := by rfl) (hpl : (backTo pos (starEach [.Name "bool" p2] X.env)).any (·.1) = false := by rfl) :
    PEm cl X W (.Call (.Name "isinstance" p) [e, .Name "bool" p2] [] pos) (op1 bIsBl fe) := fun tk => by
  obtain ⟨ta, a1, s1⟩ := ha tk
  refine ⟨_, pe_callB call_isi hg hm (by decide +kernel) (pa_cons a1 (pa_cons (pe_bltn (v := .ty "bool") (u := .type "bool") hg2 hm2 (by decide +kernel) rfl) pa_nil) he) (he := he) (hpl := hpl), fun hid m h H σ' σ Q r rs q => s1 hid m h H σ' σ _ r rs (Post.bind q fun v h1' m1 H1 u _ p1 k1 r1 v1 q1 => ?_)⟩
  show ∃ (x c : V) (t u' : Value) (b : Bool), [u, V.ty "bool"] = [x, c] ∧ ClsV c u' ∧ TyX X.K H1 x t ∧ PySem.W.kitOne X.K t u' = some b ∧ Q (.bl b) H1
  cases v with
  | bl b0 => exact ⟨u, _, _, _, true, rfl, .ty _, by rw [show u = _ from v1]; exact .base (.bl b0), by rfl, q1.now r1 rfl⟩
  | _ => exact q1.elim
end
end Mi

namespace Mi
open PySem PySem.Spec PyProof.Rows L2
def keyOf : AV → Option Ky
  | .int i => some (.inl i)
  | .str x => some (.inr x)
  | _ => none
section
variable {κ : Type} [DecidableEq κ]
def valA (kvs : List (κ × AV)) (k : κ) : Option AV := (kvs.find? fun kv => decide (kv.1 = k)).map (·.2)
def putD (kvs : List (κ × AV)) (k : κ) (v : AV) : List (κ × AV) := if (kvs.any fun kv => decide (kv.1 = k)) = true then kvs.map (fun kv => if kv.1 = k then (kv.1, v) else kv) else kvs ++ [(k, v)]
variable {K : PySem.W.Frag} {m : List Addr} {H : Hp}
def RO (K : PySem.W.Frag) (m : List Addr) (H : Hp) : Option AV → Option V → Prop
  | none, w => w = none
  | some v, w => ∃ u, w = some u ∧ VR K m H v u
theorem KVR.val : ∀ {xs : List (κ × AV)} {us : List (κ × V)} (k : κ), KVR K m H xs us → RO K m H (valA xs k) (valV us k)
  | [], us, k, h => by rw [show us = [] from h]; rfl
  | x :: xs, _, k, ⟨u, r, e, h, t⟩ => by
    subst e
    by_cases hx : x.1 = k
    · have h1 : valA (x :: xs) k = some x.2 := by simp [valA, List.find?_cons, hx]
      rw [h1]
      exact ⟨u, valV_pos (p := (x.1, u)) hx, h⟩
    · have h1 : valA (x :: xs) k = valA xs k := by simp [valA, List.find?_cons, hx]
      rw [h1, valV_neg (p := (x.1, u)) (r := r) hx]
      exact KVR.val k t
theorem KVR.any : ∀ {xs : List (κ × AV)} {us : List (κ × V)} (k : κ), KVR K m H xs us → (us.any fun kv => decide (kv.1 = k)) = xs.any fun kv => decide (kv.1 = k)
  | [], us, k, h => by rw [show us = [] from h]; rfl
  | x :: xs, _, k, ⟨u, r, e, h, t⟩ => by
    subst e
    rw [List.any_cons, List.any_cons, KVR.any k t]
theorem KVR.append : ∀ {xs ys : List (κ × AV)} {us ws : List (κ × V)}, KVR K m H xs us → KVR K m H ys ws → KVR K m H (xs ++ ys) (us ++ ws)
  | [], _, us, _, h, k => by rw [show us = [] from h]; exact k
  | x :: xs, _, _, _, ⟨u, r, e, h, t⟩, k => by subst e; exact ⟨u, _, rfl, h, KVR.append t k⟩
theorem KVR.repl {v : AV} {w : V} (hv : VR K m H v w) (k : κ) : ∀ {xs : List (κ × AV)} {us : List (κ × V)}, KVR K m H xs us → KVR K m H (xs.map fun kv => if kv.1 = k then (kv.1, v) else kv) (us.map fun kv => if kv.1 = k then (kv.1, w) else kv)
  | [], us, h => by rw [show us = [] from h]; rfl
  | x :: xs, _, ⟨u, r, e, h, t⟩ => by
    subst e
    by_cases hx : x.1 = k
    · refine ⟨w, _, ?_, ?_, KVR.repl hv k t⟩
      · simp [hx]
      · simpa [hx] using hv
    · refine ⟨u, _, ?_, ?_, KVR.repl hv k t⟩
      · simp [hx]
      · simpa [hx] using h
theorem KVR.putD {v : AV} {w : V} (hv : VR K m H v w) (k : κ) {xs : List (κ × AV)} {us : List (κ × V)} (h : KVR K m H xs us) : KVR K m H (putD xs k v) (putK us k w) := by
  unfold Mi.putD putK
  rw [h.any k]
  split
  · exact KVR.repl hv k h
  · exact h.append ⟨w, [], rfl, hv, rfl⟩
end
theorem keyOf_v {K : PySem.W.Frag} {m : List Addr} {H : Hp} {y : AV} {w : V} {k : Ky} (e : keyOf y = some k) (h : VR K m H y w) : w = kV k := by
  cases y <;> simp only [keyOf] at e <;> cases e <;> exact h
theorem keysOf_v {K : PySem.W.Frag} {m : List Addr} {H : Hp} : ∀ {ys : List AV} {ws : List V} {ks : List Ky}, omap keyOf ys = some ks → VRs K m H ys ws → ws = ks.map kV
  | [], ws, ks, e, h => by
    have z : ks = [] := by simpa [omap] using e.symm
    subst z; exact h
  | y :: ys, _, ks, e, ⟨u, r, eu, h, t⟩ => by
    subst eu
    simp only [omap] at e
    split at e
    · cases e
    · rename_i k hk
      split at e
      · cases e
      · rename_i ks' hks
        cases e
        rw [keysOf_v hks t, keyOf_v hk h]
        rfl
/-- what x, a dict, holds at y; none: no dict, no key -/
def dGetA (x y : AV) (h : AH) : Option (Option AV) := match x with
  | .ref a => match h[a]? with
    | some (.dk kvs) => match keyOf y with
      | some k => some (valA kvs k)
      | none => none
    | some (.dt kvs) => match y with
      | .tup ys => match omap keyOf ys with
        | some k => some (valA kvs k)
        | none => none
      | _ => none
    | _ => none
  | .fk ks vs => match keyOf y with
    | some k => some (valA (ks.zip vs) k)
    | none => none
  | .ft ks vs => match y with
    | .tup ys => match omap keyOf ys with
      | some k => some (valA (ks.zip vs) k)
      | none => none
    | _ => none
  | _ => none
/-- a frozen dict's pairs -/
theorem kvr_zip {κ : Type} {K : PySem.W.Frag} {m : List Addr} {H : Hp} : ∀ {vs : List AV} {ps : List (κ × V)}, VRs K m H vs (ps.map (·.2)) → KVR K m H ((ps.map (·.1)).zip vs) ps
  | [], [], _ => rfl
  | [], _ :: _, h => by cases h
  | _ :: _, [], ⟨_, _, e, _⟩ => by cases e
  | v :: vs, p :: ps, ⟨u, r, e, h, t⟩ => by
    cases e
    exact ⟨p.2, ps, rfl, h, kvr_zip t⟩
theorem DGet.kR {H : Hp} {a : Addr} {kvs : List (Key × V)} {k : Key} (e : Rd H a (.dK kvs)) : DGet H a (kV k) (valV kvs k) := .inl ⟨kvs, k, e, rfl, rfl⟩
theorem DGet.tR {H : Hp} {a b : Addr} {kvs : List (List Key × V)} {k : List Key} (e : Rd H a (.dT kvs)) (eb : H b = some (.tup (k.map kV))) : DGet H a (.ref b) (valV kvs k) := .inr ⟨kvs, k, b, e, rfl, eb, rfl⟩
theorem dGet_of {D : Dm} {m : List Addr} {H : Hp} {h : AH} {x y : AV} {u w : V} {o : Option AV} (r : Rel D m h H) (hx : VR D.K m H x u) (hy : VR D.K m H y w) (e : dGetA x y h = some o) :
    ∃ a ov, u = .ref a ∧ DGet H a w ov ∧ RO D.K m H o ov := by
  cases x with
  | ref i =>
    obtain ⟨a, h1, h2⟩ := hx
    simp only [dGetA] at e
    split at e
    · rename_i kvs hk
      obtain ⟨ps, h3, h4⟩ := r.ob i _ a hk h1
      split at e
      · rename_i k ek
        cases e
        rw [keyOf_v ek hy]
        exact ⟨a, _, h2, DGet.k h3, h4.val k⟩
      · cases e
    · rename_i kvs hk
      obtain ⟨ps, h3, h4⟩ := r.ob i _ a hk h1
      split at e
      · rename_i ys
        split at e
        · rename_i k ek
          cases e
          obtain ⟨b, us, e1, h5, h6⟩ := hy
          rw [keysOf_v ek h6] at h5
          rw [e1]
          exact ⟨a, _, h2, DGet.t h3 h5, h4.val k⟩
        · cases e
      · cases e
    · cases e
  | fk ks vs =>
    obtain ⟨a, ps, h2, ⟨od, h3⟩, h4, h5⟩ := hx
    simp only [dGetA] at e
    split at e
    · rename_i k ek
      cases e
      subst h4
      rw [keyOf_v ek hy]
      exact ⟨a, _, h2, DGet.kR (.inr ⟨od, h3⟩), (kvr_zip h5).val k⟩
    · cases e
  | ft ks vs =>
    obtain ⟨a, ps, h2, ⟨od, h3⟩, h4, h7⟩ := hx
    simp only [dGetA] at e
    split at e
    · rename_i ys
      split at e
      · rename_i k ek
        cases e
        obtain ⟨b, us, e1, h5, h6⟩ := hy
        rw [keysOf_v ek h6] at h5
        rw [e1]
        subst h4
        exact ⟨a, _, h2, DGet.tR (.inr ⟨od, h3⟩) h5, (kvr_zip h7).val k⟩
      · cases e
    · cases e
  | _ => cases e
/-- d[y] = v -/
def dPutA (x y v : AV) (h : AH) : Option AH := match x with
  | .ref a => match h[a]? with
    | some (.dk kvs) => match keyOf y with
      | some k => if kvs.length < sizeLine then some (h.set a (.dk (putD kvs k v))) else none
      | none => none
    | some (.dt kvs) => match y with
      | .tup ys => match omap keyOf ys with
        | some k => if kvs.length < sizeLine then some (h.set a (.dt (putD kvs k v))) else none
        | none => none
      | _ => none
    | _ => none
  | _ => none
theorem dPut_of {D : Dm} {m : List Addr} {H : Hp} {h h' : AH} {x y v : AV} {u w z : V} (r : Rel D m h H) (hx : VR D.K m H x u) (hy : VR D.K m H y w) (hv : VR D.K m H v z) (e : dPutA x y v h = some h') :
    ∃ a H', u = .ref a ∧ DPut H a w z H' ∧ Keep H H' ∧ Rel D m h' H' := by
  cases x with
  | ref i =>
    obtain ⟨a, h1, h2⟩ := hx
    simp only [dPutA] at e
    split at e
    · rename_i kvs hk
      obtain ⟨ps, h3, h4⟩ := r.ob i _ a hk h1
      split at e
      · rename_i k ek
        split at e
        · rename_i hl
          cases e
          have kk : Keep H (upd H a (.dK (putK ps k z))) := Keep.chg h3 trivial
          refine ⟨a, _, h2, by rw [keyOf_v ek hy]; exact DPut.k h3 (by rw [h4.length]; exact hl), kk, r.put h1 kk (fun b nb u q => by rw [upd_ne nb]; exact q) ⟨_, upd_same, KVR.mono (List.prefix_refl m) kk (KVR.putD hv k h4)⟩⟩
        · cases e
      · cases e
    · rename_i kvs hk
      obtain ⟨ps, h3, h4⟩ := r.ob i _ a hk h1
      split at e
      · rename_i ys
        split at e
        · rename_i k ek
          split at e
          · rename_i hl
            cases e
            obtain ⟨b, us, e1, h5, h6⟩ := hy
            rw [keysOf_v ek h6] at h5
            have kk : Keep H (upd H a (.dT (putK ps k z))) := Keep.chg h3 trivial
            refine ⟨a, _, h2, by rw [e1]; exact DPut.t h3 h5 (by rw [h4.length]; exact hl), kk, r.put h1 kk (fun b nb u q => by rw [upd_ne nb]; exact q) ⟨_, upd_same, KVR.mono (List.prefix_refl m) kk (KVR.putD hv k h4)⟩⟩
          · cases e
        · cases e
      · cases e
    · cases e
  | _ => cases e
section
variable {cl : Nat → Addr} {X : Cx} {W : WX} {C : CE} {k : Nat} {o i value : Expr} {pos pos' : Pos}
/-- d[y] = v -/
def ssDPut (o i e : SE) : SS := fun σ h => (e σ h).to σ fun v h1 => (o σ h1).to σ fun l h2 => (i σ h2).to σ fun j h3 => match dPutA l j v h3 with
  | some h4 => .ok (.nx σ) h4
  | none => .bad
theorem ms_dput {fo fi fe : SE} (hr : Room k X.A) (ho : PEm cl X W o fo) (hi : PEm cl X W i fi) (hv : PEm cl X W value fe) (hs : swapsWith value (some (.Subscript o i pos')) pos.line X.env = pure false := by rfl) : PSm cl X W (.Assign [.Subscript o i pos'] value pos) (ssDPut fo fi fe) := fun tk => by
  obtain ⟨to, h2, s2⟩ := ho tk
  obtain ⟨ti, h3, s3⟩ := hi tk
  obtain ⟨te, h4, s4⟩ := hv tk
  refine ⟨_, ps_dput (hu_of hr) h2 h3 h4 hs, fun hid m h H σ' σ Dn r rs q => s4 hid m h H σ' σ _ r rs (PostS.to rs q fun v h1 m1 H1 u _ p1 k1 r1 v1 q1 => ?_)⟩
  refine s2 hid m1 h1 H1 σ' σ _ r1 (rs.mono p1 k1) (PostS.to (rs.mono p1 k1) q1 fun l h2 m2 H2 ul _ p2 k2 r2 v2 q2 => ?_)
  refine s3 hid m2 h2 H2 σ' σ _ r2 ((rs.mono p1 k1).mono p2 k2) (PostS.to ((rs.mono p1 k1).mono p2 k2) q2 fun j h3 m3 H3 uj _ p3 k3 r3 v3 q3 => ?_)
  split at q3
  · rename_i h5 e5
    obtain ⟨a, H', e6, hd, kk, r'⟩ := dPut_of r3 (VR.mono p3 k3 _ _ v2) v3 (VR.mono p3 k3 _ _ (VR.mono p2 k2 _ _ v1)) e5
    exact ⟨a, H', e6, hd, PostS.now (W := W) (PostS.mono (List.prefix_refl m3) kk q3) r' ((((rs.mono p1 k1).mono p2 k2).mono p3 k3).mono (List.prefix_refl m3) kk)⟩
  · exact q3.elim
/-- {} -/
def sDk : SE := fun _ h => new (.dk []) h
def sDt : SE := fun _ h => new (.dt []) h
theorem m_dk : PEm cl X W (.Dict [] [] pos) sDk := fun tk => ⟨_, pe_dnewK, fun hid m h H σ' σ Q r rs q p n => Post.fresh r q n ⟨[], upd_same, rfl⟩⟩
theorem m_dt : PEm cl X W (.Dict [] [] pos) sDt := fun tk => ⟨_, pe_dnewT, fun hid m h H σ' σ Q r rs q p n => Post.fresh r q n ⟨[], upd_same, rfl⟩⟩
end
end Mi

namespace Mi
open PySem PySem.Spec PyProof.Rows L2
/-- x[y] of a dict, of an instance with __getitem__, else as oIx -/
def oIxA (C : CE) (x y : AV) (h : AH) : R AV := match dGetA x y h with
  | some (some v) => .ok v h
  | some none => .bad
  | none => match cls? x h with
    | some (c, _) => match C.dn c .get with
      | some f => C.call f [x, y] h
      | none => .bad
    | none => oIx C x y h
def oInA (C : CE) (x y : AV) (h : AH) : R AV := match dGetA y x h with
  | some o => .ok (.bl o.isSome) h
  | none => match x, y with
    | .str a, .str b => .ok (.bl (!(Builtin.Str.occurrences b a 0 b.length 1).isEmpty)) h
    | _, _ => oIn C x y h
def oNotInA (C : CE) (x y : AV) (h : AH) : R AV := match dGetA y x h with
  | some o => .ok (.bl (!o.isSome)) h
  | none => match x, y with
    | .str a, .str b => .ok (.bl (!(!(Builtin.Str.occurrences b a 0 b.length 1).isEmpty))) h
    | _, _ => oNotIn C x y h
section
variable {cl : Nat → Addr} {X : Cx} {W : WX} {C : CE} {k : Nat} {o i : Expr} {pos : Pos}
theorem sub_tail {prog : Program} {w : World} {A : Around} {E : Value → Shared → Prop} {s : Shared} {value slice : Expr} {T id : String} {Q : Value → Shared → Prop} {v u : Value} (hl : typeLookup (.type T) "__getitem__" = pure (some (.builtin id))) (hs : subscripted slice false v u = operate [v, u] (getItem v u)) (hT : s.TypeIs v T)
    (h : wpAny (model prog w) A (getItem v u) Q E s) : wpAny (model prog w) A (subscriptTail value slice v u) Q E s := by
  unfold subscriptTail
  refine wpAny_bind ?_
  rw [getitemInPython_of_ne hT.not_modules]
  refine wpAny_bind (wpAny_specialOf hT hl ?_)
  have fin : wpAny (model prog w) A (subscripted slice false v u) (fun r s₃ => wpAny (model prog w) A (letTemporaryGo value v r >>= fun _ => pure r) Q E s₃) E s := by
    rw [hs]
    exact wpAny_operating (wpAny_mono h (fun r s₃ h₃ => wpAny_bind (wpAny_letTemporaryGo (wpAny_pure h₃))) fun _ _ x => x)
  first
    | exact wpAny_pure (wpAny_bind fin)
    | exact wpAny_bind (wpAny_pure (wpAny_bind fin))
    | exact wpAny_bind fin
abbrev RunIx (X : Cx) (r : R2s) : Prop := ∀ (value slice : Expr) (pins : List (Addr × Obj)) (s : Shared) (σ : L2.St) (H : Hp) (x y : V) (v u : Value) (Q : VK), Inv X pins σ H s → RelV x v → RelV y u → r σ x y H Q →
    subscripted slice false v u = operate [v, u] (getItem v u) → subscripted slice true v u = runValue (.builtin "lifetime.subscript" ⟨[v, u], []⟩) → wpAny (model X.prog X.w) X.A (subscriptTail value slice v u) (EP X pins σ Q) X.xe s
theorem RunIx.or {r r' : R2s} (h : RunIx X r) (h' : RunIx X r') : RunIx X (fun σ x y H Q => r σ x y H Q ∨ r' σ x y H Q) := fun value slice pins s σ H x y v u Q I rx ry q h1 h2 => q.elim (fun q => h value slice pins s σ H x y v u Q I rx ry q h1 h2) fun q => h' value slice pins s σ H x y v u Q I rx ry q h1 h2
def IxAny (cl : Nat → Addr) (X : Cx) (W : WX) (f : AV → AV → AH → R AV) : Prop := Takes X W → ∃ r : R2s, RunIx X r ∧
  ∀ (hid : Hid) (m : List Addr) (h : AH) (H : Hp) (σ : L2.St) (x y : AV) (u v : V) (Q : VK), Rel (dm X cl hid) m h H → VR X.K m H x u → VR X.K m H y v → Post (dm X cl hid) m H (relV X.K) (f x y h) Q (atW W σ) → r σ u v H Q
theorem ix_dict (hu : X.A.units + 1 < cLine) : RunIx X (fun _ x y H Q => ∃ a v, x = .ref a ∧ DGet H a y (some v) ∧ Q v H) := fun value slice pins s σ H x y v u Q I rx ry q h1 _ => by
  obtain ⟨a, w, rfl, g, q⟩ := q
  cases (show v = Value.ref a from rx)
  exact sub_tail PySem.F.slot_dict_getitem.lookup h1 (dict_typeIs I g) (d_getItem hu I g ry fun w' s3 I3 rw' => ⟨w, H, I3, rw', q⟩)
theorem ixs_of {m : List Addr} {h : AH} {H : Hp} {σ : L2.St} {x y : AV} {u v : V} {Q : VK} (r : Rel (dm X cl hid) m h H) (hx : VR X.K m H x u) (hy : VR X.K m H y v) (q : Post (dm X cl hid) m H (relV X.K) (oIx C x y h) Q (atW W σ)) : rIx X.K u v H Q := by
  unfold oIx at q
  split at q
  · split at q
    · split at q
      · rename_i hl
        split at q
        · rename_i c0 e0
          exact .inr (.inr ⟨_, _, c0, hx, hy, hl, e0, q.now r rfl⟩)
        · exact q.elim
      · exact q.elim
    · split at q
      · rename_i xs e0
        split at q
        · rename_i w0 e1
          obtain ⟨p0, us, e2, hq, hv⟩ := seqOf_sq r hx e0
          obtain ⟨u0, e3, h3⟩ := atI_vrs hv e1
          rcases hq with hq | hq
          · exact .inl ⟨p0, us, _, u0, e2, hy, hq, e3, q.now r h3⟩
          · exact .inr (.inl ⟨p0, us, _, u0, e2, hy, hq, e3, q.now r h3⟩)
        · exact q.elim
      · exact q.elim
  · exact q.elim
theorem ix_own (T : DunT cl X k C .get "__getitem__") (hr : Room (k + 1) X.A) (tk : Takes X W) : RunIx X (fun σ x y H Q => ∃ (c i : Nat) (a dx : Addr) (gs : List (Str × V)), C.dn c .get = some i ∧ x = .ref a ∧ H a = some (.ins (cl c) dx gs) ∧ spF cl X.K (C.call i) [x, y] H Q (atW W σ)) := fun value slice pins s σ H x y v u Q I rx ry q _ h2 => by
  obtain ⟨c, i, a, dx, gs, e, rfl, ha, q⟩ := q
  cases (show v = Value.ref a from rx)
  obtain ⟨⟨f, F⟩, _, _⟩ := T c i e
  obtain ⟨ox, od, J⟩ := inst_at I ha
  obtain ⟨m, hF⟩ := I.fr
  exact PySem.W.sub_K hF I.ok.mod.kin J F.at_ F.lk F.fn (run_in1 (us := [.ref a, u]) (vs := [.ref a, y]) F.run hr tk I (.cons rfl (.cons ry .nil)) q) h2
theorem k_ixA (T : DunT cl X k C .get "__getitem__") (hr : Room (k + 1) X.A) : IxAny cl X W (oIxA C) := fun tk => ⟨_, (RunIx.or (fun value slice pins s σ H x y v u Q I rx ry q h1 _ => ix_seq value slice pins s σ H x y v u Q I rx ry q h1) ((ix_dict (hu_of hr)).or (ix_own (W := W) T hr tk))), fun hid m h H σ x y u v Q r hx hy q => by
  unfold oIxA at q
  split at q
  · rename_i w e
    obtain ⟨a, ov, e1, g, w', e2, hw⟩ := dGet_of r hx hy e
    subst e2
    exact .inr (.inl ⟨a, w', e1, g, q.now r hw⟩)
  · exact q.elim
  · split at q
    · rename_i c fs e
      split at q
      · rename_i i ei
        obtain ⟨a, dx, gs, e1, h3, h4, _⟩ := cls_get r hx e
        exact .inr (.inr ⟨c, i, a, dx, gs, ei, e1, h3, hid, m, h, [x, y], r, ⟨_, _, rfl, hx, _, _, rfl, hy, rfl⟩, q⟩)
      · exact q.elim
    · exact .inl (ixs_of r hx hy q)⟩
theorem m_ixA {fo fi : SE} {g : AV → AV → AH → R AV} (hk : IxAny cl X W g) (ha : PEm cl X W o fo) (hb : PEm cl X W i fi) (hs : ∀ v u, subscripted i false v u = operate [v, u] (getItem v u) := by exact fun _ _ => rfl)
    (hs2 : ∀ v u, subscripted i true v u = runValue (.builtin "lifetime.subscript" ⟨[v, u], []⟩) := by intro _ _; with_unfolding_all rfl) : PEm cl X W (.Subscript o i pos) (op2 g fo fi) := fun tk => by
  obtain ⟨r, hr, sr⟩ := hk tk
  obtain ⟨ta, h1, s1⟩ := ha tk
  obtain ⟨tb, h2, s2⟩ := hb tk
  refine ⟨tOps r ta tb, ⟨fun pins s σ H Q I h => Subscript_ (binT h1 h2 I h fun v u s2 x y H2 I2 rx ry q => hr o i pins s2 σ H2 x y v u Q I2 rx ry q (hs _ _) (hs2 _ _))⟩, fun hid m h H σ' σ Q rl rs q => ?_⟩
  refine s1 hid m h H σ' σ _ rl rs (op2_post q fun x h1 m1 H1 u p1 k1 r1 v1 q1 => ?_)
  refine s2 hid m1 h1 H1 σ' σ _ r1 (rs.mono p1 k1) (Post.bind q1 fun y h2 m2 H2 v _ p2 k2 r2 v2 q2 => ?_)
  exact sr hid m2 h2 H2 σ x y u v Q r2 (VR.mono p2 k2 _ _ v1) v2 q2
end
end Mi

namespace Mi
open PySem PySem.Spec PyProof.Rows L2
section
variable {cl : Nat → Addr} {X : Cx} {W : WX} {C : CE} {k : Nat} {a b c o i e : Expr} {es : List Expr} {pos p p2 apos : Pos} {x : Str}
theorem in_dict (hu : X.A.units + 1 < cLine) : OpRs X (compareOp .In) (fun _ y x H Q => ∃ a o, x = .ref a ∧ DGet H a y o ∧ Q (.bl o.isSome) H) := fun pins s σ H y x u v Q I ry rx q => by
  obtain ⟨a, o, rfl, g, q⟩ := q
  cases (show v = Value.ref a from rx)
  exact d_in hu I g ry fun s3 I3 => ⟨.bl o.isSome, H, I3, rfl, q⟩
theorem notin_dict (hu : X.A.units + 1 < cLine) : OpRs X (compareOp .NotIn) (fun _ y x H Q => ∃ a o, x = .ref a ∧ DGet H a y o ∧ Q (.bl (!o.isSome)) H) := fun pins s σ H y x u v Q I ry rx q => by
  obtain ⟨a, o, rfl, g, q⟩ := q
  cases (show v = Value.ref a from rx)
  exact d_notIn hu I g ry fun s3 I3 => ⟨.bl (!o.isSome), H, I3, rfl, q⟩
theorem RO.isSome {K : PySem.W.Frag} {m : List Addr} {H : Hp} : ∀ {o : Option AV} {w : Option V}, RO K m H o w → w.isSome = o.isSome
  | none, _, h => by rw [show _ = none from h]; rfl
  | some v, _, ⟨u, h, _⟩ => by rw [h]; rfl
theorem k_inA (T : DunT cl X k C .has "__contains__") (hr : Room k X.A) : BinOk cl X W (compareOp .In) (oInA C) := fun tk => by
  obtain ⟨r1, h1, s1⟩ := k_in T hr tk
  refine ⟨_, h1.or ((in_dict (hu_of hr)).or (OpRs.of op_in_str)), fun hid m h H σ x y u v Q r hx hy q => ?_⟩
  unfold oInA at q
  split at q
  · rename_i o e
    obtain ⟨a, ov, e1, g, ho⟩ := dGet_of r hy hx e
    exact .inr (.inl ⟨a, ov, e1, g, by rw [ho.isSome]; exact q.now r rfl⟩)
  · split at q
    · exact .inr (.inr ⟨_, _, hx, hy, q.now r rfl⟩)
    · exact .inl (s1 hid m h H σ _ _ u v Q r hx hy q)
theorem k_notinA (T : DunT cl X k C .has "__contains__") (hr : Room k X.A) : BinOk cl X W (compareOp .NotIn) (oNotInA C) := fun tk => by
  obtain ⟨r1, h1, s1⟩ := k_notin T hr tk
  refine ⟨_, h1.or ((notin_dict (hu_of hr)).or (OpRs.of op_notin_str)), fun hid m h H σ x y u v Q r hx hy q => ?_⟩
  unfold oNotInA at q
  split at q
  · rename_i o e
    obtain ⟨a, ov, e1, g, ho⟩ := dGet_of r hy hx e
    exact .inr (.inl ⟨a, ov, e1, g, by rw [ho.isSome]; exact q.now r rfl⟩)
  · split at q
    · exact .inr (.inr ⟨_, _, hx, hy, q.now r rfl⟩)
    · exact .inl (s1 hid m h H σ _ _ u v Q r hx hy q)
/-- a <= b <= c of ints -/
def oLeI (x y : AV) (h : AH) : R AV := match x, y with
  | .int i, .int j => .ok (.bl (decide (i ≤ j))) h
  | _, _ => .bad
theorem leI_of {D : Dm} {m : List Addr} {H : Hp} {h : AH} {x y : AV} {u v : V} {Q : VK} {E : XK} (r : Rel D m h H) (hx : VR D.K m H x u) (hy : VR D.K m H y v) (q : Post D m H (relV D.K) (oLeI x y h) Q E) : rI0 (fun i j => .bl (decide (i ≤ j))) u v H Q := by
  unfold oLeI at q
  split at q
  · exact ⟨_, _, hx, hy, q.now r rfl⟩
  · exact q.elim
theorem chain_of {m : List Addr} {h : AH} {H : Hp} {σ' : Sl} {σ : L2.St} {fa fb fc : SE} {ta tb tc : TE} {Q : VK}
    (s1 : ∀ (hid : Hid) (m : List Addr) (h : AH) (H : Hp) (σ' : Sl) (σ : L2.St) (Q : VK), Rel (dm X cl hid) m h H → RelS X.K m H σ' σ → Post (dm X cl hid) m H (relV X.K) (fa σ' h) Q (atW W σ) → ta σ H Q)
    (s2 : ∀ (hid : Hid) (m : List Addr) (h : AH) (H : Hp) (σ' : Sl) (σ : L2.St) (Q : VK), Rel (dm X cl hid) m h H → RelS X.K m H σ' σ → Post (dm X cl hid) m H (relV X.K) (fb σ' h) Q (atW W σ) → tb σ H Q)
    (s3 : ∀ (hid : Hid) (m : List Addr) (h : AH) (H : Hp) (σ' : Sl) (σ : L2.St) (Q : VK), Rel (dm X cl hid) m h H → RelS X.K m H σ' σ → Post (dm X cl hid) m H (relV X.K) (fc σ' h) Q (atW W σ) → tc σ H Q)
    (r : Rel (dm X cl hid) m h H) (rs : RelS X.K m H σ' σ) (q : Post (dm X cl hid) m H (relV X.K) (sChain oLeI oLeI fa fb fc σ' h) Q (atW W σ)) :
    tChain (rI0 fun i j => .bl (decide (i ≤ j))) (rI0 fun i j => .bl (decide (i ≤ j))) ta tb tc σ H Q := by
  unfold sChain at q
  refine s1 hid m h H σ' σ _ r rs (Post.bind q fun x h1 m1 H1 u _ p1 k1 r1 v1 q1 => ?_)
  refine s2 hid m1 h1 H1 σ' σ _ r1 (rs.mono p1 k1) (Post.bind q1 fun y h2 m2 H2 w _ p2 k2 r2 v2 q2 => ?_)
  refine leI_of (E := atW W σ) r2 (VR.mono p2 k2 _ _ v1) v2 (Post.bind q2 fun z h3 m3 H3 z' _ p3 k3 r3 v3 q3 => ?_)
  split at q3
  · refine ⟨true, v3, ?_⟩
    rw [if_pos rfl]
    refine s3 hid m3 _ H3 σ' σ _ r3 (((rs.mono p1 k1).mono p2 k2).mono p3 k3) (Post.bind q3 fun c h4 m4 H4 w4 _ p4 k4 r4 v4 q4 => ?_)
    exact leI_of (E := atW W σ) r4 (VR.mono p4 k4 _ _ (VR.mono p3 k3 _ _ v2)) v4 q4
  · refine ⟨false, v3, ?_⟩
    rw [if_neg Bool.false_ne_true]
    exact q3.now r3 rfl
  · exact q3.elim
theorem m_chain {fa fb fc : SE} (ha : PEm cl X W a fa) (hb : PEm cl X W b fb) (hc : PEm cl X W c fc) (hm : lastMarks [.LtE, .LtE] [b, c] = false := by with_unfolding_all rfl) : PEm cl X W (.Compare a [.LtE, .LtE] [b, c] pos) (sChain oLeI oLeI fa fb fc) := fun tk => by
  obtain ⟨ta, h1, s1⟩ := ha tk
  obtain ⟨tb, h2, s2⟩ := hb tk
  obtain ⟨tc, h3, s3⟩ := hc tk
  exact ⟨_, pe_chain op_le op_le h1 h2 h3 hm, fun hid m h H σ' σ Q r rs q => chain_of s1 s2 s3 r rs q⟩
theorem mt_chain {fa fb fc : SE} (ha : PEm cl X W a fa) (hb : PEm cl X W b fb) (hc : PEm cl X W c fc) (hm : lastMarks [.LtE, .LtE] [b, c] = false := by with_unfolding_all rfl) : PTm cl X W (.Compare a [.LtE, .LtE] [b, c] pos) (tBl (sChain oLeI oLeI fa fb fc)) := fun tk => by
  obtain ⟨ta, h1, s1⟩ := ha tk
  obtain ⟨tb, h2, s2⟩ := hb tk
  obtain ⟨tc, h3, s3⟩ := hc tk
  refine ⟨_, pt_chain op_le op_le h1 h2 h3 hm, fun hid m h H σ' σ Q r rs q => ?_⟩
  unfold tBl at q
  have q' : Post (dm X cl hid) m H (relV X.K) (sChain oLeI oLeI fa fb fc σ' h) (fun x H' => ∃ k, x = .bl k ∧ Q k H') (atW W σ) := Post.bind q fun v h1 m1 H1 u ev p1 k1 r1 v1 q1 => by
    cases v with
    | bl b => exact ⟨b, v1, q1.now r1 rfl⟩
    | _ => exact q1.elim
  exact chain_of s1 s2 s3 r rs q'
end
end Mi

namespace Mi
open PySem PySem.Spec PyProof.Rows L2
def mSplit (s : AV) (vs : List AV) (h : AH) : R AV := match s, vs with
  | .str a, [.str b] => if (b.length == 0) = false ∧ a.length + 2 ≤ sizeLine then .ok (.fl ((Txt.split a b).map .str)) h else .bad
  | _, _ => .bad
def mPart (s : AV) (vs : List AV) (h : AH) : R AV := match s, vs with
  | .str a, [.str b] => if (b.length == 0) = false ∧ a.length ≤ sizeLine then .ok (.tup [.str (Txt.partition a b).1, .str (Txt.partition a b).2.1, .str (Txt.partition a b).2.2]) h else .bad
  | _, _ => .bad
section
variable {cl : Nat → Addr} {X : Cx} {W : WX} {C : CE} {k : Nat} {a b c o i e : Expr} {es : List Expr} {pos p p2 apos : Pos} {x : Str}
/-- the frame of a text's method with one argument -/
theorem aOne_bind {α : Type} {fa : SE} {σ' : Sl} {h : AH} {f : List AV → AH → R α} : (aCons fa aNil σ' h).bind f = (fa σ' h).bind fun v h2 => f [v] h2 := by
  unfold aCons aNil
  cases fa σ' h <;> rfl
theorem txt1_of {hid : Hid} {m : List Addr} {h : AH} {H : Hp} {σ' : Sl} {σ : L2.St} {fo fa : SE} {to ta : TE} {Q : VK} {f : AV → List AV → AH → R AV} {r : V → List V → Hp → VK → Prop}
    (s1 : ∀ (hid : Hid) (m : List Addr) (h : AH) (H : Hp) (σ' : Sl) (σ : L2.St) (Q : VK), Rel (dm X cl hid) m h H → RelS X.K m H σ' σ → Post (dm X cl hid) m H (relV X.K) (fo σ' h) Q (atW W σ) → to σ H Q)
    (s2 : ∀ (hid : Hid) (m : List Addr) (h : AH) (H : Hp) (σ' : Sl) (σ : L2.St) (Q : VK), Rel (dm X cl hid) m h H → RelS X.K m H σ' σ → Post (dm X cl hid) m H (relV X.K) (fa σ' h) Q (atW W σ) → ta σ H Q)
    (hr : ∀ (hid : Hid) (m : List Addr) (h : AH) (H : Hp) (z : Str) (w : AV) (u : V) (Q : VK), Rel (dm X cl hid) m h H → VR X.K m H w u → Post (dm X cl hid) m H (relV X.K) (f (.str z) [w] h) Q (atW W σ) → r (.str z) [u] H (FQ Q))
    (rl : Rel (dm X cl hid) m h H) (rs : RelS X.K m H σ' σ) (q : Post (dm X cl hid) m H (relV X.K) (sBm isStr f fo (aCons fa aNil) σ' h) Q (atW W σ)) : tM1 r to ta σ H (FQ Q) := by
  refine s1 hid m h H σ' σ _ rl rs (Post.bind q fun v h1' m1 H1 u _ p1 k1 r1 v1 q1 => ?_)
  by_cases hs : isStr v h1' = true
  · rw [if_pos hs] at q1
    rw [aOne_bind] at q1
    cases v with
    | str z =>
      refine ⟨⟨z, v1⟩, s2 hid m1 h1' H1 σ' σ _ r1 (rs.mono p1 k1) (Post.bind q1 fun w h2' m2 H2 uw _ p2 k2 r2 v2 q2 => ?_)⟩
      rw [show u = V.str z from v1]
      exact hr hid m2 h2' H2 z w uw Q r2 v2 q2
    | _ => cases hs
  · rw [if_neg hs] at q1
    exact q1.elim
theorem m_split {fo fa : SE} (ho : PEm cl X W o fo) (ha : PEm cl X W a fa) (hs : starEach [a] X.env = [(false, eval a X.env)] := by rfl) (hbase : attributeBase o "split" X.env (eval o X.env) = eval o X.env := by rfl) (hline : (apos.endLine == pos.line) = true := by rfl) :
    PEm cl X W (.Call (.Attribute o "split" apos) [a] [] pos) (sBm isStr mSplit fo (aCons fa aNil)) := fun tk => by
  obtain ⟨to, h1, s1⟩ := ho tk
  obtain ⟨ta, h2, s2⟩ := ha tk
  refine ⟨_, fqE (pe_split h1 h2 hs hbase hline), fun hid m h H σ' σ Q r rs q => txt1_of (f := mSplit) s1 s2 (fun hid m h H z w u Q rl hw q => ?_) r rs q⟩
  cases w with
  | str y =>
    unfold mSplit at q
    dsimp only at q
    split at q
    · rename_i hh
      exact ⟨z, y, rfl, by rw [show u = _ from hw], hh.1, hh.2, Post.newL (b := false) rl (vrs_of_strs _) q⟩
    · exact q.elim
  | _ => exact q.elim
theorem vrs3s {K : PySem.W.Frag} {m : List Addr} {H : Hp} (a b c : Str) : VRs K m H [.str a, .str b, .str c] [.str a, .str b, .str c] := ⟨_, _, rfl, rfl, _, _, rfl, rfl, _, _, rfl, rfl, rfl⟩
theorem m_partition {fo fa : SE} (ho : PEm cl X W o fo) (ha : PEm cl X W a fa) (hs : starEach [a] X.env = [(false, eval a X.env)] := by rfl) (hbase : attributeBase o "partition" X.env (eval o X.env) = eval o X.env := by rfl) (hline : (apos.endLine == pos.line) = true := by rfl) :
    PEm cl X W (.Call (.Attribute o "partition" apos) [a] [] pos) (sBm isStr mPart fo (aCons fa aNil)) := fun tk => by
  obtain ⟨to, h1, s1⟩ := ho tk
  obtain ⟨ta, h2, s2⟩ := ha tk
  refine ⟨_, fqE (pe_partition h1 h2 hs hbase hline), fun hid m h H σ' σ Q r rs q => txt1_of (f := mPart) s1 s2 (fun hid m h H z w u Q rl hw q => ?_) r rs q⟩
  cases w with
  | str y =>
    unfold mPart at q
    dsimp only at q
    split at q
    · rename_i hh
      exact ⟨z, y, rfl, by rw [show u = _ from hw], hh.1, hh.2, fun p n => .now (Post.newTup rl (vrs3s _ _ _) q p n)⟩
    · exact q.elim
  | _ => exact q.elim
/-- min(i, j) -/
def bMin (vs : List AV) (h : AH) : R AV := match vs with
  | [a, b] => match a, b with
    | .int i, .int j => .ok (.int (if j < i then j else i)) h
    | _, _ => .bad
  | _ => .bad
theorem vrs2 {K : PySem.W.Frag} {m : List Addr} {H : Hp} {a b : AV} {us : List V} (h : VRs K m H [a, b] us) : ∃ u v, us = [u, v] ∧ VR K m H a u ∧ VR K m H b v := by
  obtain ⟨u, r, e, h1, v, r', e', h2, e2⟩ := h
  subst e e'
  rw [show r' = [] from e2]
  exact ⟨u, v, rfl, h1, h2⟩
theorem c_min (hc : X.calm = true) : CallOk cl X W (.builtin "min") bMin := fun tk => ⟨_, CallRs.of (call_min2 hc), fun hid m h H σ vs us Q rl hv q => by
  unfold bMin at q
  split at q
  · rename_i a b
    obtain ⟨u, v, e, h1, h2⟩ := vrs2 hv
    subst e
    split at q
    · rw [show u = _ from h1, show v = _ from h2]
      exact ⟨_, _, rfl, q.now rl rfl⟩
    · exact q.elim
  · exact q.elim⟩
/-- tuple(xs) -/
theorem call_tupleF : CallR X (.type "tuple") (fun xs H Q => ∃ p ys, xs = [.ref p] ∧ SqL X.K H p ys ∧ ∀ (l : Addr) (ob : Obj), H l = none → ob.dict = none → Q (.ref l) (upd H l (.frz ob (.tup ys)))) := by
  intro pins s σ H xs us Q I r h
  obtain ⟨p, ys, rfl, hq, q⟩ := h
  obtain ⟨u, rfl, rx⟩ := vals1 r
  cases rx
  obtain ⟨its, r', pl, hz⟩ := I.list hq
  have hlen := r'.length
  refine call_tuple_list pl.isList (fun h' kp => ?_) (by simp only [List.size_toArray] <;> omega)
  have I1 : Inv X pins σ H { s with heap := h' } := I.kept (t' := s.toks) kp
  have I2 : Inv X pins σ (upd H h'.objs.size (.frz { cls := .type "tuple", data := .seq its.toArray } (.tup ys))) { s with heap := h'.push { cls := .type "tuple", data := .seq its.toArray } } :=
    I1.laid (t' := s.toks) (fun b o e => Heap.get?_push_of_some _ e) (Nat.le_refl _) (show ObjOk X.prog X.w _ _ _ (.frz _ (.tup ys)) from ⟨Heap.get?_push_size _ rfl, hz, its, r', IsTup.new _ _⟩)
  exact ⟨.ref h'.objs.size, _, I2, rfl, q _ _ (I1.hok.fresh (Nat.le_refl _)) rfl⟩
def bTuple (v : AV) (h : AH) : R AV := match lstOf v h with
  | some xs => match strL xs with
    | some ss => .ok (.ctp ss) h
    | none => .ok (.tup xs) h
  | none => match v with
    | .tup xs => .ok (.tup xs) h
    | .ctp xs => .ok (.ctp xs) h
    | _ => .bad
theorem c_tuple : CallOk cl X W (.type "tuple") (arg1 bTuple) := CallOk.one _ ((CallRs.of call_tuple_of).or (CallRs.of call_tupleF)) fun hid m h H σ v u Q r hv q => by
  unfold bTuple at q
  split at q
  · rename_i xs ex
    obtain ⟨p0, us, e1, h1, h2⟩ := lst_sq r hv ex
    split at q
    · rename_i ss es
      have z := vrs_strs es h2
      subst z
      exact .inr ⟨p0, _, by rw [e1], h1, fun l ob n d => q m _ _ (List.prefix_refl m) (Keep.new n) (r.fresh n) ⟨l, rfl, .inl ⟨ob, d, upd_same⟩⟩⟩
    · exact .inl ⟨p0, us, by rw [e1], .inl ⟨h1, Post.newTup r h2 q⟩⟩
  · split at q
    · rename_i xs
      obtain ⟨p0, us, e1, h1, h2⟩ := hv
      exact .inl ⟨p0, us, by rw [e1], .inr ⟨.inl (.inl h1), q.now r ⟨p0, us, rfl, h1, h2⟩⟩⟩
    · rename_i xs
      obtain ⟨p0, e1, h1⟩ := hv
      exact .inl ⟨p0, _, by rw [e1], .inr ⟨h1.sq, q.now r ⟨p0, rfl, h1⟩⟩⟩
    · exact q.elim
end
end Mi

namespace Mi
open PySem PySem.Spec PyProof.Rows L2

mutual
def clean (n : Nat) : AV → Bool
  | .non => true
  | .bl _ => true
  | .int _ => true
  | .str _ => true
  | .ref i => decide (i < n)
  | .scr _ => true
  | .tup xs => cleans n xs
  | .ctp _ => true
  | .fl xs => cleans n xs
  | .fk _ vs => cleans n vs
  | .ft _ vs => cleans n vs
def cleans (n : Nat) : List AV → Bool
  | [] => true
  | x :: xs => clean n x && cleans n xs
end
theorem cleans_iff {n : Nat} : ∀ {xs : List AV}, cleans n xs = true ↔ ∀ x ∈ xs, clean n x = true
  | [] => by simp [cleans]
  | x :: xs => by simp [cleans, cleans_iff (n := n) (xs := xs)]
def cleanO (n : Nat) : AO → Bool
  | .dead => true
  | .lst xs => cleans n xs
  | .dk kvs => cleans n (kvs.map (·.2))
  | .dt kvs => cleans n (kvs.map (·.2))
  | .ins _ fs => cleans n (fs.map (·.2))
mutual
theorem clean_mono {n n' : Nat} (h : n ≤ n') : ∀ x : AV, clean n x = true → clean n' x = true
  | .non, _ => rfl
  | .bl _, _ => rfl
  | .int _, _ => rfl
  | .str _, _ => rfl
  | .ref i, z => by simp only [clean, decide_eq_true_eq] at z ⊢; omega
  | .scr _, _ => rfl
  | .tup xs, z => by simp only [clean] at z ⊢; exact cleans_mono h xs z
  | .ctp _, _ => rfl
  | .fl xs, z => by simp only [clean] at z ⊢; exact cleans_mono h xs z
  | .fk _ vs, z => by simp only [clean] at z ⊢; exact cleans_mono h vs z
  | .ft _ vs, z => by simp only [clean] at z ⊢; exact cleans_mono h vs z
theorem cleans_mono {n n' : Nat} (h : n ≤ n') : ∀ xs : List AV, cleans n xs = true → cleans n' xs = true
  | [], _ => rfl
  | x :: xs, z => by
    simp only [cleans, Bool.and_eq_true] at z ⊢
    exact ⟨clean_mono h x z.1, cleans_mono h xs z.2⟩
end
theorem cleanO_mono {n n' : Nat} (h : n ≤ n') {o : AO} (z : cleanO n o = true) : cleanO n' o = true := by
  cases o with
  | dead => rfl
  | lst xs => exact cleans_mono h _ z
  | dk kvs => exact cleans_mono h _ z
  | dt kvs => exact cleans_mono h _ z
  | ins c fs => exact cleans_mono h _ z
section
variable {K : PySem.W.Frag} {m : List Addr} {H : Hp}
mutual
theorem clean_of : ∀ {x : AV} {u : V}, VR K m H x u → clean m.length x = true
  | .non, _, _ => rfl
  | .bl _, _, _ => rfl
  | .int _, _, _ => rfl
  | .str _, _, _ => rfl
  | .ref i, _, ⟨a, h, _⟩ => by
    simp only [clean, decide_eq_true_eq]
    exact (List.getElem?_eq_some_iff.mp h).1
  | .scr _, _, _ => rfl
  | .tup xs, _, ⟨_, us, _, _, r⟩ => by simp only [clean]; exact cleans_of r
  | .ctp _, _, _ => rfl
  | .fl xs, _, ⟨_, us, _, _, r⟩ => by simp only [clean]; exact cleans_of r
  | .fk _ vs, _, ⟨_, us, _, _, _, r⟩ => by simp only [clean]; exact cleans_of r
  | .ft _ vs, _, ⟨_, us, _, _, _, r⟩ => by simp only [clean]; exact cleans_of r
theorem cleans_of : ∀ {xs : List AV} {us : List V}, VRs K m H xs us → cleans m.length xs = true
  | [], _, _ => rfl
  | x :: xs, _, ⟨u, r, _, h, t⟩ => by
    simp only [cleans, Bool.and_eq_true]
    exact ⟨clean_of h, cleans_of t⟩
end
mutual
theorem VR.cut {N : Nat} : ∀ {x : AV} {u : V}, clean N x = true → VR K m H x u → VR K (m.take N) H x u
  | .non, _, _, h => h
  | .bl _, _, _, h => h
  | .int _, _, _, h => h
  | .str _, _, _, h => h
  | .ref i, _, c, ⟨a, h, e⟩ => by
    simp only [clean, decide_eq_true_eq] at c
    exact ⟨a, by rw [List.getElem?_take_of_lt c]; exact h, e⟩
  | .scr _, _, _, h => h
  | .tup xs, _, c, ⟨p, us, e, h, r⟩ => by simp only [clean] at c; exact ⟨p, us, e, h, VRs.cut c r⟩
  | .ctp _, _, _, h => h
  | .fl xs, _, c, ⟨p, us, e, h, r⟩ => by simp only [clean] at c; exact ⟨p, us, e, h, VRs.cut c r⟩
  | .fk _ vs, _, c, ⟨p, us, e, h, y, r⟩ => by simp only [clean] at c; exact ⟨p, us, e, h, y, VRs.cut c r⟩
  | .ft _ vs, _, c, ⟨p, us, e, h, y, r⟩ => by simp only [clean] at c; exact ⟨p, us, e, h, y, VRs.cut c r⟩
theorem VRs.cut {N : Nat} : ∀ {xs : List AV} {us : List V}, cleans N xs = true → VRs K m H xs us → VRs K (m.take N) H xs us
  | [], _, _, h => h
  | x :: xs, _, c, ⟨u, r, e, h, t⟩ => by
    simp only [cleans, Bool.and_eq_true] at c
    exact ⟨u, r, e, VR.cut c.1 h, VRs.cut c.2 t⟩
end
theorem KVR.cleans_of {κ : Type} : ∀ {xs : List (κ × AV)} {us : List (κ × V)}, KVR K m H xs us → cleans m.length (xs.map (·.2)) = true
  | [], _, _ => rfl
  | x :: xs, _, ⟨u, r, _, h, t⟩ => by
    simp only [List.map_cons, cleans, Bool.and_eq_true]
    exact ⟨clean_of h, KVR.cleans_of t⟩
theorem KVR.cut {κ : Type} {N : Nat} : ∀ {xs : List (κ × AV)} {us : List (κ × V)}, cleans N (xs.map (·.2)) = true → KVR K m H xs us → KVR K (m.take N) H xs us
  | [], _, _, h => h
  | x :: xs, _, c, ⟨u, r, e, h, t⟩ => by
    simp only [List.map_cons, cleans, Bool.and_eq_true] at c
    exact ⟨u, r, e, VR.cut c.1 h, KVR.cut c.2 t⟩
end
theorem OR.cleanO_of {D : Dm} {m : List Addr} {H : Hp} {a : Addr} {o : AO} (h : OR D m H a o) : cleanO m.length o = true := by
  cases o with
  | dead => rfl
  | lst xs => obtain ⟨vs, _, r⟩ := h; exact cleans_of r
  | dk kvs => obtain ⟨vs, _, r⟩ := h; exact KVR.cleans_of r
  | dt kvs => obtain ⟨vs, _, r⟩ := h; exact KVR.cleans_of r
  | ins c fs => obtain ⟨dx, vs, _, r⟩ := h; exact KVR.cleans_of r
theorem OR.cut {D : Dm} {m : List Addr} {H : Hp} {a : Addr} {o : AO} {N : Nat} (c : cleanO N o = true) (h : OR D m H a o) : OR D (m.take N) H a o := by
  cases o with
  | dead => exact h
  | lst xs => obtain ⟨vs, e, r⟩ := h; exact ⟨vs, e, VRs.cut c r⟩
  | dk kvs => obtain ⟨vs, e, r⟩ := h; exact ⟨vs, e, KVR.cut c r⟩
  | dt kvs => obtain ⟨vs, e, r⟩ := h; exact ⟨vs, e, KVR.cut c r⟩
  | ins c0 fs => obtain ⟨dx, vs, e, r⟩ := h; exact ⟨dx, vs, e, KVR.cut c r⟩

def TrimOk (k : Nat) (h h' : AH) : Prop := ∀ i o, i < h.length + k → h'[i]? = some o → (i < h.length ∧ h[i]? = some o) ∨ cleanO (h.length + k) o = true
open Classical in
noncomputable def trimR (k : Nat) (h : AH) (r : R AV) : R AV := match r with
  | .ok v h' => if h.length + k ≤ h'.length ∧ clean (h.length + k) v = true ∧ TrimOk k h h' then .ok v (h'.take (h.length + k)) else .ok v h'
  | .ex c fs h' => if h.length + k ≤ h'.length ∧ cleans (h.length + k) (fs.map (·.2)) = true ∧ TrimOk k h h' then .ex c fs (h'.take (h.length + k)) else .ex c fs h'
  | .bad => .bad
theorem Rel.cut {D : Dm} {m m' : List Addr} {h h' : AH} {H H' : Hp} {k : Nat} (r : Rel D m h H) (r' : Rel D m' h' H') (hk : h.length + k ≤ h'.length) (t : TrimOk k h h') : Rel D (m'.take (h.length + k)) (h'.take (h.length + k)) H' := by
  refine ⟨by rw [List.length_take, List.length_take, r'.len], (List.take_sublist _ _).nodup r'.nd, fun i o a e1 e2 => ?_, fun q hq => ⟨(r'.hd q hq).1, fun z => (r'.hd q hq).2 (List.mem_of_mem_take z)⟩⟩
  have hi : i < h.length + k := by
    have z := (List.getElem?_eq_some_iff.mp e1).1
    rw [List.length_take] at z; omega
  rw [List.getElem?_take_of_lt hi] at e1 e2
  refine OR.cut ?_ (r'.ob i o a e1 e2)
  rcases t i o hi e1 with ⟨z, y⟩ | z
  · obtain ⟨b, _, ob⟩ := r.at_ y
    have c := ob.cleanO_of
    rw [r.len] at c
    exact cleanO_mono (Nat.le_add_right _ _) c
  · exact z
theorem pre_take {m m' : List Addr} {N : Nat} (p : m <+: m') (h : m.length ≤ N) : m <+: m'.take N := by
  obtain ⟨t, rfl⟩ := p
  rw [List.take_append, List.take_of_length_le h]
  exact ⟨_, rfl⟩
theorem trim_post {D : Dm} {m : List Addr} {h : AH} {H : Hp} {k : Nat} {r : R AV} {Q : VK} {E : XK} (rl : Rel D m h H) (q : Post D m H (relV D.K) (trimR k h r) Q E) : Post D m H (relV D.K) r Q E := by
  cases r with
  | bad => exact q
  | ok v h' =>
    unfold trimR at q
    dsimp only at q
    split at q
    · rename_i hh
      obtain ⟨h1, h2, h3⟩ := hh
      intro m' H' u p kk r' hv
      exact q (m'.take (h.length + k)) H' u (pre_take p (by rw [rl.len]; omega)) kk (rl.cut r' h1 h3) (VR.cut h2 hv)
    · exact q
  | ex c fs h' =>
    unfold trimR at q
    dsimp only at q
    split at q
    · rename_i hh
      obtain ⟨h1, h2, h3⟩ := hh
      intro m' H' d p kk r' hx
      refine q (m'.take (h.length + k)) H' d (pre_take p (by rw [rl.len]; omega)) kk (rl.cut r' h1 h3) ?_
      rcases hx with hx | ⟨x, gs, e1, e2, e3⟩
      · exact .inl hx
      · exact .inr ⟨x, gs, e1, e2, KVR.cut h2 e3⟩
    · exact q
/-- a def's result, trimmed; none: as it is -/
noncomputable def trimF (k : Option Nat) (g : List AV → AH → R AV) : List AV → AH → R AV := match k with
  | some k => fun vs h => trimR k h (g vs h)
  | none => g
theorem fn_trim {P : Program} {w : World} {K : PySem.W.Frag} {mg : Str → Option Value} {base : Heap} {cl : Nat → Addr} {n : Nat} {f : Addr} {g : List AV → AH → R AV} (k : Option Nat) (F : FnR P w K mg base (L2.CX P w) n f (spF cl K g)) : FnR P w K mg base (L2.CX P w) n f (spF cl K (trimF k g)) := by
  cases k with
  | none => exact F
  | some k => exact FnR.imp F fun vs H Q E ⟨hid, m, h, as, r, hv, q⟩ => ⟨hid, m, h, as, r, hv, trim_post r q⟩

theorem FH.bind {P P' : Hp → Prop} {H : Hp} (h : FH P H) (g : ∀ H', P H' → FH P' H') : FH P' H := by
  induction h with
  | now z => exact g _ z
  | lock d u e mu _ ih => exact .lock d u e mu ih
/-- the object at a becomes a value (its parts as they are) -/
def flatO (o : AO) : Option AV := match o with
  | .lst xs => some (.fl xs)
  | .dk kvs => some (.fk (kvs.map (·.1)) (kvs.map (·.2)))
  | .dt kvs => some (.ft (kvs.map (·.1)) (kvs.map (·.2)))
  | _ => none
mutual
/-- all lists and dicts in a value become values, n deep -/
def deepV : Nat → AV → AH → AV × AH
  | 0, v, h => (v, h)
  | n + 1, v, h => match v with
    | .ref a => match h[a]? with
      | some (.lst xs) => let r := deepL n xs (h.set a .dead); (.fl r.1, r.2)
      | some (.dk kvs) => let r := deepL n (kvs.map (·.2)) (h.set a .dead); (.fk (kvs.map (·.1)) r.1, r.2)
      | some (.dt kvs) => let r := deepL n (kvs.map (·.2)) (h.set a .dead); (.ft (kvs.map (·.1)) r.1, r.2)
      | _ => (v, h)
    | .tup xs => let r := deepL n xs h; (.tup r.1, r.2)
    | .fl xs => let r := deepL n xs h; (.fl r.1, r.2)
    | .fk ks vs => let r := deepL n vs h; (.fk ks r.1, r.2)
    | v => (v, h)
def deepL : Nat → List AV → AH → List AV × AH
  | 0, vs, h => (vs, h)
  | n + 1, vs, h => match vs with
    | [] => ([], h)
    | v :: vs => let r := deepV n v h; let q := deepL n vs r.2; (r.1 :: q.1, q.2)
end
section
variable {D : Dm} {m : List Addr}
theorem KVR.fsts {κ : Type} {K : PySem.W.Frag} {H : Hp} : ∀ {xs : List (κ × AV)} {us : List (κ × V)}, KVR K m H xs us → us.map (·.1) = xs.map (·.1)
  | [], _, h => by rw [show _ = [] from h]; rfl
  | x :: xs, _, ⟨u, r, e, _, t⟩ => by subst e; simp [KVR.fsts t]
theorem KVR.snds {κ : Type} {K : PySem.W.Frag} {H : Hp} : ∀ {xs : List (κ × AV)} {us : List (κ × V)}, KVR K m H xs us → VRs K m H (xs.map (·.2)) (us.map (·.2))
  | [], _, h => by rw [show _ = [] from h]; rfl
  | x :: xs, _, ⟨u, r, e, h, t⟩ => by subst e; exact ⟨u, _, rfl, h, KVR.snds t⟩
theorem Rel.kill {h : AH} {H : Hp} (r : Rel D m h H) {i : Nat} {p : Addr} {u : HO} {od : Obj} (e : m[i]? = some p) (hp : H p = some u) (c : Chg u) : Rel D m (h.set i .dead) (upd H p (.frz od u)) :=
  r.put e (Keep.chg hp c) (fun a na w z => by rw [upd_ne na]; exact z) ⟨_, upd_same⟩
/-- each thing stands as it stood, or locked -/
def Lk (H H' : Hp) : Prop := Keep H H' ∧ ∀ a o, H a = some o → H' a = some o ∨ ((∃ od, H' a = some (.frz od o)) ∧ ∀ C dx gs, o ≠ .ins C dx gs)
theorem Lk.rfl' {H : Hp} : Lk H H := ⟨.rfl', fun _ _ e => .inl e⟩
theorem Lk.trans {H H1 H2 : Hp} (a : Lk H H1) (b : Lk H1 H2) : Lk H H2 := ⟨a.1.trans b.1, fun c o e => by
  rcases a.2 c o e with z | ⟨⟨od, z⟩, n⟩
  · exact b.2 c o z
  · exact .inr ⟨⟨od, b.1.2 _ _ _ z⟩, n⟩⟩
theorem Lk.lock {H : Hp} {p : Addr} {u : HO} {od : Obj} (e : H p = some u) (c : Chg u) (n : ∀ C dx gs, u ≠ .ins C dx gs) : Lk H (upd H p (.frz od u)) := ⟨Keep.chg e c, fun a o ea => by
  by_cases z : a = p
  · subst z
    rw [e] at ea; cases ea
    exact .inr ⟨⟨od, upd_same⟩, n⟩
  · exact .inl (by rw [upd_ne z]; exact ea)⟩
mutual
theorem deepV_ok : ∀ (n : Nat) (v : AV) (h : AH) (H : Hp) (u : V), Rel D m h H → VR D.K m H v u → FH (fun H' => Lk H H' ∧ Rel D m (deepV n v h).2 H' ∧ VR D.K m H' (deepV n v h).1 u) H
  | 0, v, h, H, u, r, hv => by unfold deepV; exact .now ⟨.rfl', r, hv⟩
  | n + 1, v, h, H, u, r, hv => by
    cases v with
    | ref a =>
      obtain ⟨p, ep, eu⟩ := hv
      unfold deepV
      dsimp only
      cases eo : h[a]? with
      | none => exact .now ⟨.rfl', r, p, ep, eu⟩
      | some o =>
        have ob := r.ob a o p eo ep
        cases o with
        | dead => exact .now ⟨.rfl', r, p, ep, eu⟩
        | ins c fs => exact .now ⟨.rfl', r, p, ep, eu⟩
        | lst xs =>
          obtain ⟨us, h1, h2⟩ := ob
          refine .lock p _ h1 trivial fun od => ?_
          have k1 : Lk H (upd H p (.frz od (.lst us))) := Lk.lock h1 trivial (fun _ _ _ z => nomatch z)
          refine (deepL_ok n xs (h.set a .dead) _ us (r.kill ep h1 trivial) (VRs.mono (List.prefix_refl m) k1.1 _ _ h2)).bind fun H' ⟨k2, r2, v2⟩ => .now ⟨k1.trans k2, r2, p, us, eu, ⟨od, k2.1.2 _ _ _ upd_same⟩, v2⟩
        | dk kvs =>
          obtain ⟨us, h1, h2⟩ := ob
          refine .lock p _ h1 trivial fun od => ?_
          have k1 : Lk H (upd H p (.frz od (.dK us))) := Lk.lock h1 trivial (fun _ _ _ z => nomatch z)
          refine (deepL_ok n (kvs.map (·.2)) (h.set a .dead) _ (us.map (·.2)) (r.kill ep h1 trivial) (VRs.mono (List.prefix_refl m) k1.1 _ _ h2.snds)).bind fun H' ⟨k2, r2, v2⟩ => .now ⟨k1.trans k2, r2, p, us, eu, ⟨od, k2.1.2 _ _ _ upd_same⟩, h2.fsts, v2⟩
        | dt kvs =>
          obtain ⟨us, h1, h2⟩ := ob
          refine .lock p _ h1 trivial fun od => ?_
          have k1 : Lk H (upd H p (.frz od (.dT us))) := Lk.lock h1 trivial (fun _ _ _ z => nomatch z)
          refine (deepL_ok n (kvs.map (·.2)) (h.set a .dead) _ (us.map (·.2)) (r.kill ep h1 trivial) (VRs.mono (List.prefix_refl m) k1.1 _ _ h2.snds)).bind fun H' ⟨k2, r2, v2⟩ => .now ⟨k1.trans k2, r2, p, us, eu, ⟨od, k2.1.2 _ _ _ upd_same⟩, h2.fsts, v2⟩
    | tup xs =>
      obtain ⟨p, us, eu, h1, h2⟩ := hv
      unfold deepV
      exact (deepL_ok n xs h H us r h2).bind fun H' ⟨k2, r2, v2⟩ => .now ⟨k2, r2, p, us, eu, k2.1.1 _ _ h1, v2⟩
    | fl xs =>
      obtain ⟨p, us, eu, ⟨od, h1⟩, h2⟩ := hv
      unfold deepV
      exact (deepL_ok n xs h H us r h2).bind fun H' ⟨k2, r2, v2⟩ => .now ⟨k2, r2, p, us, eu, ⟨od, k2.1.2 _ _ _ h1⟩, v2⟩
    | fk ks vs =>
      obtain ⟨p, us, eu, ⟨od, h1⟩, y, h2⟩ := hv
      unfold deepV
      exact (deepL_ok n vs h H _ r h2).bind fun H' ⟨k2, r2, v2⟩ => .now ⟨k2, r2, p, us, eu, ⟨od, k2.1.2 _ _ _ h1⟩, y, v2⟩
    | _ => unfold deepV; exact .now ⟨.rfl', r, hv⟩
theorem deepL_ok : ∀ (n : Nat) (vs : List AV) (h : AH) (H : Hp) (us : List V), Rel D m h H → VRs D.K m H vs us → FH (fun H' => Lk H H' ∧ Rel D m (deepL n vs h).2 H' ∧ VRs D.K m H' (deepL n vs h).1 us) H
  | 0, vs, h, H, us, r, hv => by unfold deepL; exact .now ⟨.rfl', r, hv⟩
  | n + 1, vs, h, H, us, r, hv => by
    cases vs with
    | nil => unfold deepL; exact .now ⟨.rfl', r, hv⟩
    | cons v vs =>
      obtain ⟨u, ws, eu, h1, h2⟩ := hv
      unfold deepL
      dsimp only
      refine (deepV_ok n v h H u r h1).bind fun H1 ⟨k1, r1, v1⟩ => ?_
      refine (deepL_ok n vs _ H1 ws r1 (VRs.mono (List.prefix_refl m) k1.1 _ _ h2)).bind fun H2 ⟨k2, r2, v2⟩ => ?_
      exact .now ⟨k1.trans k2, r2, u, ws, eu, VR.mono (List.prefix_refl m) k2.1 _ _ v1, v2⟩
end
end
/-- the parts of the object at a become values -/
def deepO (n : Nat) (a : Nat) (h : AH) : Option AH := match h[a]? with
  | some (.dk kvs) => let r := deepL n (kvs.map (·.2)) h; match r.2[a]? with
    | some (.dk _) => some (r.2.set a (.dk ((kvs.map (·.1)).zip r.1)))
    | _ => none
  | some (.ins c fs) => let r := deepL n (fs.map (·.2)) h; match r.2[a]? with
    | some (.ins _ _) => some (r.2.set a (.ins c ((fs.map (·.1)).zip r.1)))
    | _ => none
  | _ => none
section
variable {D : Dm} {m : List Addr}
theorem zip_kvr {κ : Type} {K : PySem.W.Frag} {H : Hp} : ∀ {ks : List κ} {vs : List AV} {us : List (κ × V)}, us.map (·.1) = ks → VRs K m H vs (us.map (·.2)) → KVR K m H (ks.zip vs) us := fun {ks vs us} e h => by
  subst e
  exact kvr_zip h
theorem deepO_ok {n a : Nat} {h h' : AH} {H : Hp} {p : Addr} (r : Rel D m h H) (ep : m[a]? = some p) (e : deepO n a h = some h') : FH (fun H' => Keep H H' ∧ Rel D m h' H') H := by
  unfold deepO at e
  split at e
  · rename_i kvs eo
    obtain ⟨us, h1, h2⟩ := r.ob a _ p eo ep
    dsimp only at e
    split at e
    · rename_i kvs' eo'
      cases e
      refine (deepL_ok n _ h H _ r h2.snds).bind fun H2 ⟨k2, r2, v2⟩ => .now ⟨k2.1, ?_⟩
      obtain ⟨us', h3, _⟩ := r2.ob a _ p eo' ep
      rcases k2.2 p _ h1 with z | ⟨⟨od, z⟩, _⟩
      · have kk : Keep H2 H2 := .rfl'
        exact r2.put ep kk (fun _ _ _ z => z) ⟨us, z, zip_kvr h2.fsts v2⟩
      · rw [h3] at z; cases z
    · cases e
  · rename_i c fs eo
    obtain ⟨dx, gs, h1, h2⟩ := r.ob a _ p eo ep
    dsimp only at e
    split at e
    · rename_i c' fs' eo'
      cases e
      refine (deepL_ok n _ h H _ r h2.snds).bind fun H2 ⟨k2, r2, v2⟩ => .now ⟨k2.1, ?_⟩
      rcases k2.2 p _ h1 with z | ⟨_, z⟩
      · have kk : Keep H2 H2 := .rfl'
        exact r2.put ep kk (fun _ _ _ z => z) ⟨dx, gs, z, zip_kvr h2.fsts v2⟩
      · exact (z _ _ _ rfl).elim
    · cases e
  · cases e
end
section
variable {cl : Nat → Addr} {X : Cx} {W : WX} {C : CE} {k : Nat} {e : Expr} {st : Stmt} {sts : List Stmt}
/-- an expression's value becomes a value through and through -/
def deepE (n : Nat) (f : SE) : SE := fun σ h => (f σ h).bind fun v h1 => .ok (deepV n v h1).1 (deepV n v h1).2
theorem m_deep (n : Nat) {f : SE} (h : PEm cl X W e f) : PEm cl X W e (deepE n f) := fun tk => by
  obtain ⟨t, h1, s1⟩ := h tk
  refine ⟨_, fqE h1, fun hid m h H σ' σ Q r rs q => s1 hid m h H σ' σ _ r rs (Post.bind q fun v h1 m1 H1 u _ p1 k1 r1 v1 q1 => ?_)⟩
  exact (deepV_ok n v h1 H1 u r1 v1).bind fun H2 ⟨k2, r2, v2⟩ => .now (q1 m1 H2 u (List.prefix_refl m1) k2.1 r2 v2)
/-- an expression's value is an object; its parts become values -/
def deepOE (n : Nat) (f : SE) : SE := fun σ h => (f σ h).bind fun v h1 => match v with
  | .ref a => match deepO n a h1 with
    | some h2 => .ok v h2
    | none => .bad
  | _ => .bad
theorem m_deepO (n : Nat) {f : SE} (h : PEm cl X W e f) : PEm cl X W e (deepOE n f) := fun tk => by
  obtain ⟨t, h1, s1⟩ := h tk
  refine ⟨_, fqE h1, fun hid m h H σ' σ Q r rs q => s1 hid m h H σ' σ _ r rs (Post.bind q fun v h1 m1 H1 u _ p1 k1 r1 v1 q1 => ?_)⟩
  cases v with
  | ref a =>
    dsimp only at q1
    split at q1
    · rename_i h2 e2
      obtain ⟨p, ep, eu⟩ := v1
      exact (deepO_ok r1 ep e2).bind fun H2 ⟨k2, r2⟩ => .now (q1 m1 H2 u (List.prefix_refl m1) k2 r2 ⟨p, ep, eu⟩)
    · exact q1.elim
  | _ => exact q1.elim
/-- a slot's value, ahead of a block -/
def ssDeep (n i : Nat) (g : SS) : SS := fun σ h => match σ[i]? with
  | some (some v) => g (σ.set i (some (deepV n v h).1)) (deepV n v h).2
  | _ => .bad
theorem RelS.same {K : PySem.W.Frag} {m : List Addr} {H : Hp} {σ' : Sl} {σ : L2.St} {v : AV} {u : V} {i : Nat} (r : RelS K m H σ' σ) (e : σ[i]? = some (some u)) (h : VR K m H v u) : RelS K m H (σ'.set i (some v)) σ := by
  refine ⟨by simp [r.1], fun j w ej => ?_⟩
  by_cases hj : j = i
  · subst hj
    have hl : j < σ'.length := by simpa using (List.getElem?_eq_some_iff.mp ej).1
    rw [List.getElem?_set_self hl] at ej
    cases ej
    exact ⟨u, e, h⟩
  · rw [List.getElem?_set_ne (Ne.symm hj)] at ej
    exact r.2 j w ej
theorem fqSs {t : TS} (h : PSs X sts t) : PSs X sts (fun D σ H => FH (t D σ) H) := ⟨fun pins s σ H D I q => let ⟨H', I', q'⟩ := inv_fh q I; h.run pins s σ H' D I' q'⟩
theorem mss_deep (n i : Nat) {g : SS} (h : PSsm cl X W sts g) : PSsm cl X W sts (ssDeep n i g) := fun tk => by
  obtain ⟨t, h1, s1⟩ := h tk
  refine ⟨_, fqSs h1, fun hid m h H σ' σ Dn r rs q => ?_⟩
  unfold ssDeep at q
  split at q
  · rename_i v ev
    obtain ⟨u, eu, hv⟩ := rs.2 i v ev
    exact (deepV_ok n v h H u r hv).bind fun H2 ⟨k2, r2, v2⟩ => .now (s1 hid m _ H2 _ σ Dn r2 ((rs.mono (List.prefix_refl m) k2.1).same eu v2) (PostS.mono (List.prefix_refl m) k2.1 q))
  · exact q.elim
end
end Mi

namespace Mi
open PySem PySem.Spec PyProof.Rows L2
section
variable {cl : Nat → Addr} {X : Cx} {W : WX} {C : CE} {k : Nat} {a b c o i e elt iter iter1 tg tg1 : Expr} {es ifs ifs1 : List Expr} {pos p p2 apos cpos : Pos} {x : Str}

abbrev SP2 := Sl → AH → R (List (AV × AV))
def dpNil : SP2 := fun _ h => .ok [] h
def dpCons (fk fv : SE) (r : SP2) : SP2 := fun σ h => (fk σ h).bind fun x h1 => (fv σ h1).bind fun y h2 => (r σ h2).bind fun ps h3 => .ok ((x, y) :: ps) h3
def keyPs : List (AV × AV) → Option (List (Ky × AV))
  | [] => some []
  | (x, y) :: r => match keyOf x, keyPs r with
    | some k, some ps => some ((k, y) :: ps)
    | _, _ => none
def mergeA (kvs more : List (Ky × AV)) : List (Ky × AV) := more.foldl (fun acc kv => putD acc kv.1 kv.2) kvs
def newK (b : Bool) (kvs : List (Ky × AV)) (h : AH) : R AV := if b then new (.dk kvs) h else .ok (.fk (kvs.map (·.1)) (kvs.map (·.2))) h
def sDisp (b : Bool) (ps : SP2) : SE := fun σ h => (ps σ h).bind fun ps h1 => match keyPs ps with
  | some kvs => if kvs.length ≤ 15 then newK b (mergeA [] kvs) h1 else .bad
  | none => .bad
def VP2 (K : PySem.W.Frag) (m : List Addr) (H : Hp) : List (AV × AV) → List (V × V) → Prop
  | [], us => us = []
  | p :: ps, us => ∃ u v r, us = (u, v) :: r ∧ VR K m H p.1 u ∧ VR K m H p.2 v ∧ VP2 K m H ps r
theorem VP2.mono {K : PySem.W.Frag} {m m' : List Addr} {H H' : Hp} (p : m <+: m') (k : Keep H H') : ∀ {xs : List (AV × AV)} {us : List (V × V)}, VP2 K m H xs us → VP2 K m' H' xs us
  | [], _, h => h
  | x :: xs, _, ⟨u, v, r, e, h1, h2, t⟩ => ⟨u, v, r, e, VR.mono p k _ _ h1, VR.mono p k _ _ h2, VP2.mono p k t⟩
abbrev relP2 (K : PySem.W.Frag) : List Addr → Hp → List (AV × AV) → List (V × V) → Prop := fun m H x u => VP2 K m H x u
def PPm (cl : Nat → Addr) (X : Cx) (W : WX) (pos : Pos) (keys : List (Option Expr)) (values : List Expr) (f : SP2) : Prop := Takes X W → ∃ trs, PPs X pos keys values trs ∧ ∀ (hid : Hid) (m : List Addr) (h : AH) (H : Hp) (σ' : Sl) (σ : L2.St) (Q : List (V × V) → Hp → Prop),
  Rel (dm X cl hid) m h H → RelS X.K m H σ' σ → Post (dm X cl hid) m H (relP2 X.K) (f σ' h) Q (atW W σ) → tPairs trs σ H Q
theorem mp_nil : PPm cl X W pos [] [] dpNil := fun _ => ⟨[], pps_nil, fun hid m h H σ' σ Q r rs q => q.now r (rel := relP2 X.K) (v := []) rfl⟩
theorem mp_cons {ke ve : Expr} {ks : List (Option Expr)} {vs : List Expr} {fk fv : SE} {r : SP2} (hk : PEm cl X W ke fk) (hv : PEm cl X W ve fv) (hr : PPm cl X W pos ks vs r) : PPm cl X W pos (some ke :: ks) (ve :: vs) (dpCons fk fv r) := fun tk => by
  obtain ⟨t1, h1, s1⟩ := hk tk
  obtain ⟨t2, h2, s2⟩ := hv tk
  obtain ⟨t3, h3, s3⟩ := hr tk
  refine ⟨(t1, t2) :: t3, pps_cons h1 h2 h3, fun hid m h H σ' σ Q r rs q => s1 hid m h H σ' σ _ r rs (Post.bind q fun x h1 m1 H1 u _ p1 k1 r1 v1 q1 => ?_)⟩
  refine s2 hid m1 h1 H1 σ' σ _ r1 (rs.mono p1 k1) (Post.bind q1 fun y h2 m2 H2 w _ p2 k2 r2 v2 q2 => ?_)
  refine s3 hid m2 h2 H2 σ' σ _ r2 ((rs.mono p1 k1).mono p2 k2) (Post.bind q2 fun ps h3 m3 H3 ws _ p3 k3 r3 v3 q3 => ?_)
  exact q3.now r3 (rel := relP2 X.K) ⟨u, w, ws, rfl, VR.mono p3 k3 _ _ (VR.mono p2 k2 _ _ v1), VR.mono p3 k3 _ _ v2, v3⟩
theorem keyPs_of {K : PySem.W.Frag} {m : List Addr} {H : Hp} : ∀ {ps : List (AV × AV)} {us : List (V × V)} {kvs : List (Ky × AV)}, keyPs ps = some kvs → VP2 K m H ps us → ∃ qs : List (Key × V), us = qs.map (fun kv => (kV kv.1, kv.2)) ∧ KVR K m H kvs qs
  | [], us, kvs, e, h => by cases e; exact ⟨[], h, rfl⟩
  | (x, y) :: ps, us, kvs, e, ⟨u, v, r, eu, h1, h2, t⟩ => by
    subst eu
    simp only [keyPs] at e
    split at e
    · rename_i k qs e1 e2
      cases e
      obtain ⟨qs', e3, h3⟩ := keyPs_of e2 t
      subst e3
      exact ⟨(k, v) :: qs', by rw [keyOf_v e1 h1]; rfl, v, qs', rfl, h2, h3⟩
    · cases e
theorem KVR.mergeA {K : PySem.W.Frag} {m : List Addr} {H : Hp} : ∀ {more : List (Ky × AV)} {qs : List (Key × V)} {kvs : List (Ky × AV)} {ps : List (Key × V)}, KVR K m H more qs → KVR K m H kvs ps → KVR K m H (Mi.mergeA kvs more) (mergeK ps qs)
  | [], _, _, _, h, g => by rw [show _ = [] from h]; exact g
  | x :: xs, _, kvs, ps, ⟨u, r, e, h, t⟩, g => by
    subst e
    exact KVR.mergeA (kvs := Mi.putD kvs x.1 x.2) (ps := putK ps x.1 u) t (KVR.putD h x.1 g)
theorem fk_now {D : Dm} {m : List Addr} {H : Hp} {kvs : List (Ky × AV)} {ps : List (Key × V)} {p0 : Addr} {h' : AH} {Q : V → Hp → Prop} {E : XK} (r : Rel D m h' H) (hx : KVR D.K m H kvs ps) (hq : Post D m H (relV D.K) (.ok (.fk (kvs.map (·.1)) (kvs.map (·.2))) h') Q E) {o : HO} (e : H p0 = some o) (c : Chg o) (n : p0 ∉ m) (nh : ∀ q ∈ D.hid, q.1 ≠ p0) : FQ Q (.ref p0) (upd H p0 (.dK ps)) :=
  .lock p0 (.dK ps) upd_same trivial fun od => .now (by
    rw [upd_upd]
    have kk : Keep H (upd H p0 (.frz od (.dK ps))) := Keep.chg e c
    exact hq m _ _ (List.prefix_refl m) kk (r.side kk n nh) ⟨p0, ps, rfl, ⟨od, upd_same⟩, hx.fsts, VRs.mono (List.prefix_refl m) kk _ _ hx.snds⟩)
theorem m_disp (b : Bool) {keys : List (Option Expr)} {values : List Expr} {f : SP2} (h : PPm cl X W pos keys values f) (hall : keys.all (·.isSome) = true := by rfl) (hl : keys.length = values.length := by rfl) (h0 : keys ≠ [] := by simp) (h15 : keys.length ≤ 15 := by decide) : PEm cl X W (.Dict keys values pos) (sDisp b f) := fun tk => by
  obtain ⟨trs, h1, s1⟩ := h tk
  refine ⟨_, fqE (pe_disp h1 hall hl h0 h15), fun hid m h H σ' σ Q r rs q p0 n0 => ?_⟩
  have k0 : Keep H (upd H p0 (.dK [])) := Keep.new n0
  have nh : ∀ q ∈ hid, q.1 ≠ p0 := fun q hq z => by
    have y := (r.hd q hq).1
    rw [z, n0] at y; cases y
  have r0 : Rel (dm X cl hid) m h (upd H p0 (.dK [])) := r.fresh n0
  refine s1 ((p0, .dK []) :: hid) m h _ σ' σ _ (r0.hide upd_same (r.free n0)) (rs.mono (List.prefix_refl m) k0) ?_
  have q0 := Post.mono (List.prefix_refl m) k0 q
  unfold sDisp at q0
  cases ef : f σ' h with
  | bad => rw [ef] at q0; exact q0.elim
  | ex c fs h' =>
    rw [ef] at q0
    exact fun m' H' d a b c e => q0 m' H' d a b c.show_.2.2 e
  | ok ps h' =>
    rw [ef] at q0
    simp only [bind_ok] at q0
    intro m1 H1 us p1 k1 rr v1
    obtain ⟨e1, n1, r1⟩ := rr.show_
    have q1 := Post.mono p1 k1 q0
    split at q1
    · rename_i kvs ek
      split at q1
      · rename_i hl15
        obtain ⟨qs, eq, hq⟩ := keyPs_of ek v1
        refine ⟨e1, qs, eq, by rw [hq.length]; exact hl15, ?_⟩
        have hm : KVR X.K m1 H1 (mergeA [] kvs) (mergeK [] qs) := KVR.mergeA hq (show KVR X.K m1 H1 [] [] from rfl)
        unfold newK at q1
        split at q1
        · refine .now (q1 (m1 ++ [p0]) _ _ ⟨[p0], rfl⟩ (Keep.chg e1 trivial) ?_ ⟨p0, by rw [← r1.len]; simp, rfl⟩)
          have kk : Keep H1 (upd H1 p0 (.dK (mergeK [] qs))) := Keep.chg e1 trivial
          have r2 := r1.side kk n1 nh
          refine ⟨by simp [r1.len], List.nodup_append.mpr ⟨r1.nd, by simp, fun x hx y hy => ?_⟩, fun i ob ad e2 e3 => ?_, fun q hq => ⟨(r2.hd q hq).1, fun z => ?_⟩⟩
          · have e4 : y = p0 := by simpa using hy
            rw [e4]; exact fun z => n1 (z ▸ hx)
          · by_cases hi : i < h'.length
            · rw [List.getElem?_append_left hi] at e2
              rw [List.getElem?_append_left (by rw [r1.len]; exact hi)] at e3
              exact (r2.ob i ob ad e2 e3).stay ⟨[p0], rfl⟩ .rfl' fun u z => z
            · have e1' : i = h'.length := by
                have z := (List.getElem?_eq_some_iff.mp e2).1
                simp at z; omega
              subst e1'
              simp at e2
              subst e2
              rw [← r1.len] at e3
              simp at e3
              subst e3
              exact ⟨_, upd_same, KVR.mono ⟨[p0], rfl⟩ kk hm⟩
          · rcases List.mem_append.mp z with z | z
            · exact (r1.hd q hq).2 z
            · exact nh q hq (by simpa using z)
        · exact fk_now r1 hm q1 e1 trivial n1 nh
      · exact q1.elim
    · exact q1.elim

abbrev SO := Sl → AH → R (Option Int)
def oNone : SO := fun _ h => .ok none h
def oSome (f : SE) : SO := fun σ h => (f σ h).bind fun v h1 => match v with
  | .int i => .ok (some i) h1
  | _ => .bad
def cutA (xs : List AV) (lo hi : Option Int) : List AV := (xs.drop (HT.sIx xs.length 0 lo)).take (HT.sIx xs.length xs.length hi - HT.sIx xs.length 0 lo)
def bCut (b : Bool) (v : AV) (lo hi : Option Int) (h : AH) : R AV := match lstOf v h with
  | some xs => newL b (cutA xs lo hi) h
  | none => match v with
    | .tup xs => .ok (.tup (cutA xs lo hi)) h
    | .ctp ss => if (cutA (ss.map .str) lo hi).length < ss.length then .ok (.tup (cutA (ss.map .str) lo hi)) h else .bad
    | _ => .bad
def sCut (b : Bool) (f : SE) (lo hi : SO) : SE := fun σ h => (f σ h).bind fun v h1 => (lo σ h1).bind fun l h2 => (hi σ h2).bind fun u h3 => bCut b v l u h3
abbrev relO : List Addr → Hp → Option Int → Option Int → Prop := fun _ _ x u => x = u
def POm (cl : Nat → Addr) (X : Cx) (W : WX) (e : Option Expr) (f : SO) : Prop := Takes X W → ∃ t, PO X e t ∧ ∀ (hid : Hid) (m : List Addr) (h : AH) (H : Hp) (σ' : Sl) (σ : L2.St) (Q : Option Int → Hp → Prop),
  Rel (dm X cl hid) m h H → RelS X.K m H σ' σ → Post (dm X cl hid) m H relO (f σ' h) Q (atW W σ) → t σ H Q
theorem mo_none : POm cl X W none oNone := fun _ => ⟨_, po_none, fun hid m h H σ' σ Q r rs q => q.now r (rel := relO) (v := none) rfl⟩
theorem mo_some {f : SE} (h : PEm cl X W e f) : POm cl X W (some e) (oSome f) := fun tk => by
  obtain ⟨t, h1, s1⟩ := h tk
  refine ⟨_, po_some h1, fun hid m h H σ' σ Q r rs q => s1 hid m h H σ' σ _ r rs (Post.bind q fun v h1 m1 H1 u _ p1 k1 r1 v1 q1 => ?_)⟩
  cases v with
  | int j => exact ⟨j, v1, q1.now r1 (rel := relO) (v := some j) rfl⟩
  | _ => exact q1.elim
theorem VRs.cutV {K : PySem.W.Frag} {m : List Addr} {H : Hp} {xs : List AV} {us : List V} (lo hi : Option Int) (h : VRs K m H xs us) : VRs K m H (cutA xs lo hi) (L2.cutV us lo hi) := by
  unfold cutA L2.cutV
  rw [h.length]
  exact VRs.take _ (VRs.drop _ h)
theorem sIx_le (n d : Nat) (hd : d ≤ n) (o : Option Int) : HT.sIx n d o ≤ n := by
  cases o with
  | none => exact hd
  | some i => unfold HT.sIx; simp only; split <;> omega
theorem cutA_all {xs : List AV} {lo hi : Option Int} (h : HT.sIx xs.length 0 lo = 0 ∧ HT.sIx xs.length xs.length hi = xs.length) : cutA xs lo hi = xs := by
  unfold cutA
  rw [h.1, h.2]
  simp
theorem SlR.fq {r : V → Option Int → Option Int → Hp → VK → Prop} (h : L2.SlR X r) : L2.SlR X (fun x lo hi H Q => r x lo hi H (FQ Q)) := fun pins s σ H x v vl vu lo hi sl Q I rx hs pl pu q => by
  obtain ⟨T, id, h1, h2, h3⟩ := h pins s σ H x v vl vu lo hi sl _ I rx hs pl pu q
  exact ⟨T, id, h1, h2, thn h3 fun _ _ z => ep_fq z⟩
theorem m_cut (b : Bool) {lo hi : Option Expr} {f : SE} {fl fh : SO} (he : PEm cl X W e f) (hl : POm cl X W lo fl) (hh : POm cl X W hi fh) : PEm cl X W (.Subscript e (.Slice lo hi none p2) pos) (sCut b f fl fh) := fun tk => by
  obtain ⟨t1, h1, s1⟩ := he tk
  obtain ⟨t2, h2, s2⟩ := hl tk
  obtain ⟨t3, h3, s3⟩ := hh tk
  refine ⟨_, pe_slice (SlR.or (SlR.fq sl_list) sl_tupA) h1 h2 h3, fun hid m h H σ' σ Q r rs q => s1 hid m h H σ' σ _ r rs (Post.bind q fun v h1' m1 H1 u _ p1 k1 r1 v1 q1 => ?_)⟩
  refine s2 hid m1 h1' H1 σ' σ _ r1 (rs.mono p1 k1) (Post.bind q1 fun l h2' m2 H2 l' _ p2 k2 r2 v2 q2 => ?_)
  refine s3 hid m2 h2' H2 σ' σ _ r2 ((rs.mono p1 k1).mono p2 k2) (Post.bind q2 fun w h3' m3 H3 w' _ p3 k3 r3 v3 q3 => ?_)
  subst v2 v3
  have v1' := VR.mono p3 k3 _ _ (VR.mono p2 k2 _ _ v1)
  unfold bCut at q3
  split at q3
  · rename_i xs ex
    obtain ⟨p0, us, e1, h4, h5⟩ := lst_sq r3 v1' ex
    exact .inl ⟨p0, us, e1, h4, Post.newL r3 (h5.cutV l w) q3⟩
  · split at q3
    · rename_i xs
      obtain ⟨p0, us, e1, h4, h5⟩ := v1'
      refine .inr ⟨p0, us, e1, .inl (.inl h4), fun z => ?_, fun _ => Post.newTup r3 (h5.cutV l w) q3⟩
      rw [h5.length] at z
      rw [cutA_all z] at q3
      exact q3.now r3 ⟨p0, us, e1 ▸ rfl, h4, h5⟩
    · rename_i ss _ _
      obtain ⟨p0, e1, h4⟩ := v1'
      have h5 : VRs X.K m3 H3 (ss.map .str) (ss.map V.str) := vrs_of_strs ss
      split at q3
      · rename_i hl
        refine .inr ⟨p0, _, e1, h4.sq, fun z => ?_, fun _ => Post.newTup r3 (h5.cutV l w) q3⟩
        rw [h5.length] at z
        rw [cutA_all z] at hl
        simp at hl
      · exact q3.elim
    · exact q3.elim

def cI (cl : Nat → Addr) (K : PySem.W.Frag) (W : WX) (f : SI) : TI := fun σ H R => ∃ hid m h σ', Rel ⟨K, cl, hid⟩ m h H ∧ RelS K m H σ' σ ∧ Post ⟨K, cl, hid⟩ m H (fun m H s J => SrcOk ⟨K, cl, hid⟩ m H s J) (f σ' h) R (atW W σ)
theorem PIm.can {f : SI} (h : PIm cl X W tg iter f) (tk : Takes X W) : PI X tg iter (cI cl X.K W f) := by
  obtain ⟨t, h1, s1⟩ := h tk
  exact ⟨fun pins s σ H Q I ⟨hid, m, h, σ', r, rs, q⟩ => h1.run pins s σ H Q I (s1 hid m h H σ' σ Q r rs q)⟩
def lc2F (s : Src) (g : SG) (t : SB) (it1 : SI) (g1 : SG) (t1 : SB) (e : SE) (vs1 : List Nat) (σ : Sl) : Nat → Nat → List AV → AH → R AV
  | k, i, acc, h => match s.at i h with
    | none => .bad
    | some none => .ok (.fl acc) h
    | some (some v) => match k with
      | 0 => .bad
      | k + 1 => match g v σ with
        | some σ1 => match t σ1 h with
          | .ok true h2 => match it1 σ1 h2 with
            | .ok s1 h3 => match lcF s1 g1 t1 e (wipeA σ1 vs1) (s1.len h3) 0 acc h3 with
              | .ok (.fl acc2) h4 => lc2F s g t it1 g1 t1 e vs1 σ k (i + 1) acc2 h4
              | _ => .bad
            | _ => .bad
          | .ok false h2 => lc2F s g t it1 g1 t1 e vs1 σ k (i + 1) acc h2
          | _ => .bad
        | none => .bad
def sLc2F (it : SI) (g : SG) (t : SB) (it1 : SI) (g1 : SG) (t1 : SB) (e : SE) (vs vs1 : List Nat) : SE := fun σ h => (it σ h).bind fun s h1 => lc2F s g t it1 g1 t1 e vs1 (wipeA σ vs) (s.len h1) 0 [] h1
theorem lc2F_sem {D : Dm} {m : List Addr} {h : AH} {H : Hp} {σ' : Sl} {σ : L2.St} {Q : VK} {E : XK} {fi fi1 : SI} {g g1 : SG} {js js1 vs vs1 : List Nat} {ft ft1 : SB} {fe : SE} {wi : TI} (hjs : ∀ j ∈ js, j ∈ vs) (hjs1 : ∀ j ∈ js1, j ∈ vs1)
    (hi : ∀ Rk : It → Hp → Prop, Post D m H (fun m H s J => SrcOk D m H s J) (fi σ' h) Rk E → wi σ H Rk) (rs : RelS D.K m H σ' σ)
    (q : Post D m H (relV D.K) (sLc2F fi g ft fi1 g1 ft1 fe vs vs1 σ' h) Q E) : tLc2 wi (cG D.cls D.K g js) (cT D.cls D.K W0 ft) (cI D.cls D.K W0 fi1) (cG D.cls D.K g1 js1) (cT D.cls D.K W0 ft1) (cE D.cls D.K W0 fe) vs vs1 σ H (FQ Q) := by
  refine hi _ (Post.bind (rel2 := relV D.K) q fun sc h1 m1 H1 J _ p1 k1 r1 v1 q1 => ?_)
  intro Da nD
  have kD : Keep H1 (upd H1 Da (.lst [])) := Keep.new nD
  have nh : ∀ q ∈ D.hid, q.1 ≠ Da := fun q hq z => by
    have y := (r1.hd q hq).1
    rw [z, nD] at y; cases y
  refine ⟨fun i0 n0 H2 => ∃ m2 h2 acc us, m1 <+: m2 ∧ Keep (upd H1 Da (.lst [])) H2 ∧ Rel D m2 h2 H2 ∧ H2 Da = some (.lst us) ∧ Da ∉ m2 ∧ VRs D.K m2 H2 acc us ∧ Post D m2 H2 (relV D.K) (lc2F sc g ft fi1 g1 ft1 fe vs1 (wipeA σ' vs) n0 i0 acc h2) Q E,
    ⟨_, m1, _, [], [], List.prefix_refl _, .rfl', r1.fresh nD, upd_same, r1.free nD, rfl, q1.mono (List.prefix_refl _) kD⟩, ?_⟩
  rintro i0 n0 H2 ⟨m2, h2, acc, us, p2, k2, r2, eD, nm, va, q2⟩
  have sv := v1 _ m2 h2 H2 i0 p2 (kD.trans k2) r2
  unfold lc2F at q2
  split at q2
  · exact q2.elim
  · rename_i e0
    rw [e0] at sv
    refine .inl ⟨sv, .lock Da _ eD trivial fun od => .now ?_⟩
    have kk : Keep H2 (upd H2 Da (.frz od (.lst us))) := Keep.chg eD trivial
    exact q2 m2 _ _ (List.prefix_refl m2) kk (r2.side kk nm nh) ⟨Da, us, rfl, ⟨od, upd_same⟩, VRs.mono (List.prefix_refl m2) kk _ _ va⟩
  · rename_i v e0
    rw [e0] at sv
    obtain ⟨go, yl⟩ := sv
    split at q2
    · exact q2.elim
    · rename_i n1
      refine .inr ⟨go, fun H3 => ∃ m3 h3 acc us, m1 <+: m3 ∧ Keep (upd H1 Da (.lst [])) H3 ∧ Rel D m3 h3 H3 ∧ H3 Da = some (.lst us) ∧ Da ∉ m3 ∧ VRs D.K m3 H3 acc us ∧ Post D m3 H3 (relV D.K) (lc2F sc g ft fi1 g1 ft1 fe vs1 (wipeA σ' vs) n1 (i0 + 1) acc h3) Q E, fun H3 h => ⟨n1, Nat.lt_succ_self _, h⟩, fun u H3 hy => ?_⟩
      obtain ⟨eH3, v3⟩ := yl u H3 hy
      subst eH3
      have rs0 : RelS D.K m2 H3 σ' σ := ((rs.mono p1 k1).mono p2 (kD.trans k2))
      have rh := r2.hide eD nm
      split at q2
      · rename_i σ4' eg
        refine ⟨m2, _, σ4', v, rs0.wipe vs, v3, eg, fun σ4 rs4 l4 o4 => ⟨?_, (Da, .lst us) :: D.hid, m2, h2, σ4', rh, rs4, ?_⟩⟩
        · rw [← wipe_wipe σ vs]
          exact wipe_eq l4 hjs o4
        · split at q2
          · rename_i h4 e4
            rw [e4]
            intro m4 H4 t4 p4 k4 r4 z4
            subst z4
            rw [if_pos rfl]
            refine ⟨(Da, .lst us) :: D.hid, m4, h4, σ4', r4, rs4.mono p4 k4, ?_⟩
            split at q2
            · rename_i s1 h5 e5
              rw [e5]
              intro m5 H5 J1 p5 k5 r5 v5
              split at q2
              · rename_i acc2 h6 e6
                obtain ⟨eD5, nm5, r5'⟩ := r5.show_
                have q5 := Post.mono (p4.trans p5) (k4.trans k5) q2
                refine ⟨fun j0 c0 H6 => ∃ m6 h7 acc us, m5 <+: m6 ∧ Keep H5 H6 ∧ Rel D m6 h7 H6 ∧ H6 Da = some (.lst us) ∧ Da ∉ m6 ∧ VRs D.K m6 H6 acc us ∧ lcF s1 g1 ft1 fe (wipeA σ4' vs1) c0 j0 acc h7 = .ok (.fl acc2) h6,
                  ⟨_, m5, h5, acc, us, List.prefix_refl _, .rfl', r5', eD5, nm5, VRs.mono (p4.trans p5) (k4.trans k5) _ _ va, e6⟩, ?_⟩
                rintro j0 c0 H6 ⟨m6, h7, acc6, us6, p6, k6, r6, eD6, nm6, va6, e7⟩
                have sv6 := v5 _ m6 h7 H6 j0 p6 k6 r6
                unfold lcF at e7
                split at e7
                · cases e7
                · rename_i e8
                  rw [e8] at sv6
                  cases e7
                  exact .inl ⟨sv6, m6, h6, acc2, us6, ((p2.trans p4).trans p5).trans p6, ((k2.trans k4).trans k5).trans k6, r6, eD6, nm6, va6, Post.mono p6 k6 q5⟩
                · rename_i v8 e8
                  rw [e8] at sv6
                  obtain ⟨go6, yl6⟩ := sv6
                  split at e7
                  · cases e7
                  · rename_i c1
                    refine .inr ⟨go6, fun H9 => ∃ m6 h7 acc us, m5 <+: m6 ∧ Keep H5 H9 ∧ Rel D m6 h7 H9 ∧ H9 Da = some (.lst us) ∧ Da ∉ m6 ∧ VRs D.K m6 H9 acc us ∧ lcF s1 g1 ft1 fe (wipeA σ4' vs1) c1 (j0 + 1) acc h7 = .ok (.fl acc2) h6, fun H9 h => ⟨c1, Nat.lt_succ_self _, h⟩, fun u9 H9 hy9 => ?_⟩
                    obtain ⟨eH9, v9⟩ := yl6 u9 H9 hy9
                    subst eH9
                    have rs6 : RelS D.K m6 H9 σ4' σ4 := ((rs4.mono p4 k4).mono p5 k5).mono p6 k6
                    have rh6 := r6.hide eD6 nm6
                    split at e7
                    · rename_i σ7' eg7
                      refine ⟨m6, _, σ7', v8, rs6.wipe vs1, v9, eg7, fun σ7 rs7 l7 o7 => ⟨?_, (Da, .lst us6) :: D.hid, m6, h7, σ7', rh6, rs7, ?_⟩⟩
                      · rw [← wipe_wipe σ4 vs1]
                        exact wipe_eq l7 hjs1 o7
                      · split at e7
                        · rename_i h8 e9
                          rw [e9]
                          intro m8 H8 t8 p8 k8 r8 z8
                          subst z8
                          rw [if_pos rfl]
                          refine ⟨(Da, .lst us6) :: D.hid, m8, h8, σ7', r8, rs7.mono p8 k8, ?_⟩
                          split at e7
                          · rename_i w h10 e10
                            rw [e10]
                            intro m10 H10 y p10 k10 r10 v10
                            split at e7
                            · rename_i hl
                              obtain ⟨e11, n11, r11⟩ := r10.show_
                              have va10 := VRs.mono (p8.trans p10) (k8.trans k10) _ _ va6
                              have k11 : Keep H10 (upd H10 Da (.lst (us6 ++ [y]))) := Keep.chg e11 trivial
                              exact ⟨us6, e11, by rw [va6.length]; exact hl, m10, _, acc6 ++ [w], us6 ++ [y], (p6.trans p8).trans p10, ((k6.trans k8).trans k10).trans k11, r11.side k11 n11 nh, upd_same, n11, VRs.mono (List.prefix_refl m10) k11 _ _ (va10.append (ys := [w]) ⟨_, _, rfl, v10, rfl⟩), e7⟩
                            · cases e7
                          · cases e7
                        · rename_i h8 e9
                          rw [e9]
                          intro m8 H8 t8 p8 k8 r8 z8
                          subst z8
                          rw [if_neg Bool.false_ne_true]
                          obtain ⟨e11, n11, r11⟩ := r8.show_
                          exact ⟨m8, h8, acc6, us6, p6.trans p8, k6.trans k8, r11, e11, n11, VRs.mono p8 k8 _ _ va6, e7⟩
                        · cases e7
                    · cases e7
              · exact q2.elim
            · exact q2.elim
          · rename_i h4 e4
            rw [e4]
            intro m4 H4 t4 p4 k4 r4 z4
            subst z4
            rw [if_neg Bool.false_ne_true]
            obtain ⟨e6, n6, r6⟩ := r4.show_
            exact ⟨m4, h4, acc, us, p2.trans p4, k2.trans k4, r6, e6, n6, VRs.mono p4 k4 _ _ va, Post.mono p4 k4 q2⟩
          · exact q2.elim
      · exact q2.elim
theorem m_lc2F {fi fi1 : SI} {g g1 : SG} {js js1 vs1 : List Nat} {ft ft1 : SB} {fe : SE} {scope : Scope} {own : List (Str × Nat)} (hc : X.calm = true) (hN : X.N.Nodup) (hi : PIm cl X W tg iter fi) (ok : BlkOk X.N X.env.scope scope own) (hjs : ∀ j ∈ js, j ∈ own.map (·.2)) (hjs1 : ∀ j ∈ js1, j ∈ vs1) (hv : ∀ j ∈ vs1, j ∈ own.map (·.2))
    (hg : ∀ (s : Shared) (H : Hp) (C : Addr) (cl' : List (Str × Addr)) (fp : List Addr), PGm cl (X.blk s H scope (compEnvC scope cl' C X.env) fp) tg g js)
    (ht : ∀ (s : Shared) (H : Hp) (C : Addr) (cl' : List (Str × Addr)) (fp : List Addr), PTsm cl (X.blk s H scope (compEnvC scope cl' C X.env) fp) W0 ifs ft)
    (hi1 : ∀ (s : Shared) (H : Hp) (C : Addr) (cl' : List (Str × Addr)) (fp : List Addr), PIm cl (X.blk s H scope (compEnvC scope cl' C X.env) fp) W0 tg1 iter1 fi1)
    (hg1 : ∀ (s : Shared) (H : Hp) (C : Addr) (cl' : List (Str × Addr)) (fp : List Addr), PGm cl (X.blk s H scope (compEnvC scope cl' C X.env) fp) tg1 g1 js1)
    (ht1 : ∀ (s : Shared) (H : Hp) (C : Addr) (cl' : List (Str × Addr)) (fp : List Addr), PTsm cl (X.blk s H scope (compEnvC scope cl' C X.env) fp) W0 ifs1 ft1)
    (he : ∀ (s : Shared) (H : Hp) (C : Addr) (cl' : List (Str × Addr)) (fp : List Addr), PEm cl (X.blk s H scope (compEnvC scope cl' C X.env) fp) W0 elt fe) (hs : ∀ x, foldedSetIterable iter X.env x = pure x := by intro _; rfl) (hs1 : ∀ env x, foldedSetIterable iter1 env x = pure x := by intro _ _; rfl) :
    PEm cl X W (.ListComp elt [⟨tg, iter, ifs, 0⟩, ⟨tg1, iter1, ifs1, 0⟩] scope pos) (sLc2F fi g ft fi1 g1 ft1 fe (own.map (·.2)) vs1) := fun tk => by
  obtain ⟨wi, h1, s1⟩ := hi tk
  refine ⟨_, fqE (pe_lc2 (te := cE cl X.K W0 fe) (tt := cT cl X.K W0 ft) (g := cG cl X.K g js) (wi1 := cI cl X.K W0 fi1) (tt1 := cT cl X.K W0 ft1) (g1 := cG cl X.K g1 js1) (vs1 := vs1) hc hN h1 ok hv (fun s H C cl' fp => (hg s H C cl' fp).can) (fun s H C cl' fp => (ht s H C cl' fp).can takes0) (fun s H C cl' fp => (hi1 s H C cl' fp).can takes0) (fun s H C cl' fp => (hg1 s H C cl' fp).can) (fun s H C cl' fp => (ht1 s H C cl' fp).can takes0) (fun s H C cl' fp => (he s H C cl' fp).can takes0) hs hs1), fun hid m h H σ' σ Q r rs q => ?_⟩
  exact lc2F_sem (D := dm X cl hid) hjs hjs1 (fun Rk => s1 hid m h H σ' σ Rk r rs) rs q
theorem ms_lc2F {y : Str} {py spos : Pos} (j0 : Nat) {fi fi1 : SI} {g g1 : SG} {js js1 vs1 : List Nat} {ft ft1 : SB} {fe : SE} {scope : Scope} {own : List (Str × Nat)} (hc : X.calm = true) (hN : X.N.Nodup) (hsw : swapsWith (.ListComp elt [⟨tg, iter, ifs, 0⟩, ⟨tg1, iter1, ifs1, 0⟩] scope pos) (some (.Name y py)) spos.line X.env = pure true) (hi : PIm cl X W tg iter fi) (ok : BlkOk X.N X.env.scope scope own) (hjs : ∀ j ∈ js, j ∈ own.map (·.2)) (hjs1 : ∀ j ∈ js1, j ∈ vs1) (hv : ∀ j ∈ vs1, j ∈ own.map (·.2))
    (hg : ∀ (s : Shared) (H : Hp) (C : Addr) (cl' : List (Str × Addr)) (fp : List Addr), PGm cl (X.blk s H scope (compEnvC scope cl' C X.env) fp) tg g js)
    (ht : ∀ (s : Shared) (H : Hp) (C : Addr) (cl' : List (Str × Addr)) (fp : List Addr), PTsm cl (X.blk s H scope (compEnvC scope cl' C X.env) fp) W0 ifs ft)
    (hi1 : ∀ (s : Shared) (H : Hp) (C : Addr) (cl' : List (Str × Addr)) (fp : List Addr), PIm cl (X.blk s H scope (compEnvC scope cl' C X.env) fp) W0 tg1 iter1 fi1)
    (hg1 : ∀ (s : Shared) (H : Hp) (C : Addr) (cl' : List (Str × Addr)) (fp : List Addr), PGm cl (X.blk s H scope (compEnvC scope cl' C X.env) fp) tg1 g1 js1)
    (ht1 : ∀ (s : Shared) (H : Hp) (C : Addr) (cl' : List (Str × Addr)) (fp : List Addr), PTsm cl (X.blk s H scope (compEnvC scope cl' C X.env) fp) W0 ifs1 ft1)
    (he : ∀ (s : Shared) (H : Hp) (C : Addr) (cl' : List (Str × Addr)) (fp : List Addr), PEm cl (X.blk s H scope (compEnvC scope cl' C X.env) fp) W0 elt fe) (hy : X.N[j0]? = some y := by rfl) (hyl : X.env.scope.names.lookup y = some .local := by rfl)
    (hs : ∀ x, foldedSetIterable iter X.env x = pure x := by intro _; rfl) (hs1 : ∀ env x, foldedSetIterable iter1 env x = pure x := by intro _ _; rfl) :
    PSm cl X W (.Assign [.Name y py] (.ListComp elt [⟨tg, iter, ifs, 0⟩, ⟨tg1, iter1, ifs1, 0⟩] scope pos) spos) (ssSet j0 (sLc2F fi g ft fi1 g1 ft1 fe (own.map (·.2)) vs1)) := fun tk => by
  obtain ⟨wi, h1, s1⟩ := hi tk
  refine ⟨_, fqS (ps_setLc2 (te := cE cl X.K W0 fe) (tt := cT cl X.K W0 ft) (g := cG cl X.K g js) (wi1 := cI cl X.K W0 fi1) (tt1 := cT cl X.K W0 ft1) (g1 := cG cl X.K g1 js1) (vs1 := vs1) (i := j0) hc hN hy hyl hsw h1 ok hv (fun s H C cl' fp => (hg s H C cl' fp).can) (fun s H C cl' fp => (ht s H C cl' fp).can takes0) (fun s H C cl' fp => (hi1 s H C cl' fp).can takes0) (fun s H C cl' fp => (hg1 s H C cl' fp).can) (fun s H C cl' fp => (ht1 s H C cl' fp).can takes0) (fun s H C cl' fp => (he s H C cl' fp).can takes0) hs hs1), fun hid m h H σ' σ Dn r rs q => ?_⟩
  refine lc2F_sem (D := dm X cl hid) (E := atW W σ) hjs hjs1 (fun Rk => s1 hid m h H σ' σ Rk r rs) rs (PostS.to rs q fun v h1 m1 H1 u _ p1 k1 r1 v1 q1 => ?_)
  exact PostS.now (W := W) q1 r1 ((rs.mono p1 k1).set j0 v1)
end
end Mi

namespace Mi
open PySem PySem.Spec PyProof.Rows L2
section
variable {cl : Nat → Addr} {X : Cx} {W : WX} {C : CE} {k : Nat} {a b c o i e f : Expr} {es : List Expr} {pos p p2 apos cpos : Pos} {x name : Str} {T id : String}
/-- a method by values -/
def MtOk (cl : Nat → Addr) (X : Cx) (id : String) (f : AV → List AV → AH → R AV) : Prop := ∃ r : V → List V → Hp → VK → Prop, MtR X id r ∧
  ∀ (hid : Hid) (m : List Addr) (h : AH) (H : Hp) (x : AV) (vs : List AV) (u : V) (us : List V) (Q : VK) (E : XK), Rel (dm X cl hid) m h H → VR X.K m H x u → VRs X.K m H vs us → Post (dm X cl hid) m H (relV X.K) (f x vs h) Q E → r u us H Q
def TyOk (cl : Nat → Addr) (X : Cx) (T : String) (ty : AV → AH → Bool) : Prop := ∀ (hid : Hid) (m : List Addr) (h : AH) (H : Hp) (v : AV) (u : V), Rel (dm X cl hid) m h H → VR X.K m H v u → ty v h = true → tyV X.K T u H
theorem MtR.fq {r : V → List V → Hp → VK → Prop} (h : MtR X id r) : MtR X id (fun x xs H Q => r x xs H (FQ Q)) := fun pins s σ H x xs v us Q I rx rs q => thn (h pins s σ H x xs v us _ I rx rs q) fun _ _ z => ep_fq z
theorem m_bm {ty : AV → AH → Bool} {g : AV → List AV → AH → R AV} {fo : SE} {fa : SA} (pa : PlainAttrs T) (slot : Slot T name id) (hty : typeOf (.builtin id) = pure (.type "method_descriptor")) (hT : TyOk cl X T ty) (M : MtOk cl X id g) (ho : PEm cl X W o fo) (ha : PAm cl X W (e :: es) fa)
    (hbase : attributeBase o name X.env (eval o X.env) = eval o X.env := by rfl)
    (hfew : ((backTo cpos (starEach (e :: es) X.env)).all (fun x => !x.1) && (backToKw cpos (keywordEach [] X.env)).all (fun x => x.1.isSome)
      && decide ((e :: es).length + ([] : List Keyword).length + (if ([] : List Keyword).isEmpty then 0 else 1) < 30)) = true := by rfl)
    (hline : (apos.endLine == cpos.line) = true := by rfl) (hs : starEach (e :: es) X.env = (false, eval e X.env) :: starEach es X.env := by rfl) (hplain : (backTo cpos (starEach es X.env)).any (·.1) = false := by rfl) :
    PEm cl X W (.Call (.Attribute o name apos) (e :: es) [] cpos) (sBm ty g fo fa) := fun tk => by
  obtain ⟨t1, h1, s1⟩ := ho tk
  obtain ⟨t2, h2, s2⟩ := ha tk
  obtain ⟨r, hr, sr⟩ := M
  refine ⟨_, pe_bm pa slot hty hr h1 h2 hbase hfew hline hs hplain, fun hid m h H σ' σ Q rl rs q => s1 hid m h H σ' σ _ rl rs (Post.bind q fun v h1' m1 H1 u _ p1 k1 r1 v1 q1 => ?_)⟩
  split at q1
  · rename_i hL
    exact ⟨hT hid m1 h1' H1 v u r1 v1 hL, s2 hid m1 h1' H1 σ' σ _ r1 (rs.mono p1 k1) (Post.bind q1 fun vs h2' m2 H2 us _ p2 k2 r2 v2 q2 => sr hid m2 h2' H2 v vs u us Q _ r2 (VR.mono p2 k2 _ _ v1) v2 q2)⟩
  · exact q1.elim
theorem m_bm0 {ty : AV → AH → Bool} {g : AV → List AV → AH → R AV} {fo : SE} (pa : PlainAttrs T) (slot : Slot T name id) (hty : typeOf (.builtin id) = pure (.type "method_descriptor")) (hT : TyOk cl X T ty) (M : MtOk cl X id g) (ho : PEm cl X W o fo)
    (hbase : attributeBase o name X.env (eval o X.env) = eval o X.env := by rfl) (hline : (apos.endLine == cpos.line) = true := by rfl) :
    PEm cl X W (.Call (.Attribute o name apos) [] [] cpos) (sBm ty g fo aNil) := fun tk => by
  obtain ⟨t1, h1, s1⟩ := ho tk
  obtain ⟨r, hr, sr⟩ := M
  refine ⟨_, pe_bm0 pa slot hty hr h1 hbase hline, fun hid m h H σ' σ Q rl rs q => s1 hid m h H σ' σ _ rl rs (Post.bind q fun v h1' m1 H1 u _ p1 k1 r1 v1 q1 => ?_)⟩
  split at q1
  · rename_i hL
    exact ⟨hT hid m1 h1' H1 v u r1 v1 hL, sr hid m1 h1' H1 v [] u [] Q _ r1 v1 rfl q1⟩
  · exact q1.elim
theorem ty_list : TyOk cl X "list" isLst := fun hid m h H v u r hv e => by
  unfold isLst at e
  obtain ⟨xs0, ex0⟩ := Option.isSome_iff_exists.mp e
  obtain ⟨p0, us0, e1, h3, h4⟩ := lst_sq r hv ex0
  subst e1
  exact .inl ⟨rfl, _, h3⟩
theorem vrs1 {K : PySem.W.Frag} {m : List Addr} {H : Hp} {a : AV} {us : List V} (h : VRs K m H [a] us) : ∃ u, us = [u] ∧ VR K m H a u := by
  obtain ⟨u, r, e, h1, e2⟩ := h
  subst e
  rw [show r = [] from e2]
  exact ⟨u, rfl, h1⟩
def flatE (x y : AV) : Bool := match toV x, toV y with
  | some u, some v => eqV u v
  | _, _ => false
def isFl (x : AV) : Bool := (toV x).isSome
def mCount (x : AV) (vs : List AV) (h : AH) : R AV := match lstOf x h, vs with
  | some xs, [y] => if isFl y = true ∧ xs.all isFl = true then .ok (.int (xs.countP fun z => flatE z y : Nat)) h else .bad
  | _, _ => .bad
def rCntF (K : PySem.W.Frag) : V → List V → Hp → VK → Prop := fun x xs H Q => ∃ (p : Addr) (ys : List V) (y : V), x = .ref p ∧ xs = [y] ∧ SqL K H p ys ∧ flatV y = true ∧ ys.all flatV = true ∧ Q (.int (ys.countP fun z => eqV z y : Nat)) H
theorem eqU_count {y : V} : ∀ {ys : List V} {us : List Value}, Vals ys us → ys.all flatV = true → us.countP (eqU y) = ys.countP fun z => eqV z y
  | _, _, .nil, _ => rfl
  | _ :: _, _ :: _, .cons r t, f => by
    rw [List.all_cons, Bool.and_eq_true] at f
    rw [List.countP_cons, List.countP_cons, eqU_count t f.2, eqU_of r f.1]
theorem mt_countF : MtR X "list.count" (rCntF X.K) := by
  intro pins s σ H x xs v us Q I rx rxs h
  obtain ⟨p, ys, y, rfl, rfl, hs, fy, fys, q⟩ := h
  cases rx
  obtain ⟨u, rfl, ru⟩ := rxs.one
  obtain ⟨its, rv, ⟨⟨cls, dd, data, sl⟩, n, ho, hc, hdn, hd⟩, hlen⟩ := I.list hs
  simp only at hc hd
  subst hc hd
  refine call_meets PySem.F.slot_list_count ⟨_, ho, rfl⟩ PySem.F.entry_list_count (PySem.F.args_list_count_2 _ _)
    (SeqAt.list_countAt p its.toArray n dd sl u (eqU y)) ⟨ho, fun w hw => mem_eqAt ru fy rv fys w (by simpa using hw), ?_⟩
  have ec : its.toArray.toList.countP (eqU y) = ys.countP fun z => eqV z y := eqU_count rv fys
  refine ⟨.int (ys.countP fun z => eqV z y : Nat), H, I.tok _, ⟨s.toks, ?_⟩, q⟩
  show Value.int ((its.toArray.toList.countP (eqU y) : Nat) : Int) s.toks = Value.int ((ys.countP (fun z => eqV z y) : Nat) : Int) s.toks
  rw [ec]
theorem isFl_of {K : PySem.W.Frag} {m : List Addr} {H : Hp} {x : AV} {u : V} (e : isFl x = true) (h : VR K m H x u) : toV x = some u ∧ flatV u = true := by
  obtain ⟨v, ev⟩ := Option.isSome_iff_exists.mp e
  obtain ⟨e1, f⟩ := vr_toV ev h
  subst e1
  exact ⟨ev, f⟩
theorem fls_of {K : PySem.W.Frag} {m : List Addr} {H : Hp} {y : AV} {v : V} (ey : toV y = some v) : ∀ {xs : List AV} {us : List V}, xs.all isFl = true → VRs K m H xs us → us.all flatV = true ∧ us.countP (fun z => eqV z v) = xs.countP (fun z => flatE z y) ∧ (∀ j : Nat, us[j]?.map (fun z => eqV z v) = xs[j]?.map fun z => flatE z y)
  | [], us, _, h => by rw [show us = [] from h]; exact ⟨rfl, rfl, fun _ => rfl⟩
  | x :: xs, _, e, ⟨u, r, eu, h, t⟩ => by
    subst eu
    rw [List.all_cons, Bool.and_eq_true] at e
    obtain ⟨e1, f1⟩ := isFl_of e.1 h
    obtain ⟨e2, e3, e4⟩ := fls_of ey e.2 t
    have z : flatE x y = eqV u v := by unfold flatE; rw [e1, ey]
    refine ⟨by rw [List.all_cons, f1, e2]; rfl, by rw [List.countP_cons, List.countP_cons, e3, z], fun j => ?_⟩
    cases j with
    | zero => simp [z]
    | succ j => simpa using e4 j
theorem mo_count : MtOk cl X "list.count" mCount := ⟨_, mt_countF, fun hid m h H x vs u us Q E r hx hv q => by
  unfold mCount at q
  split at q
  · rename_i xs y ex
    split at q
    · rename_i hh
      obtain ⟨p0, zs, e1, h3, h4⟩ := lst_sq r hx ex
      obtain ⟨w, e2, h2⟩ := vrs1 hv
      subst e1 e2
      obtain ⟨ey, fy⟩ := isFl_of hh.1 h2
      obtain ⟨f1, f2, _⟩ := fls_of ey hh.2 h4
      exact ⟨p0, zs, w, rfl, rfl, h3, fy, f1, by rw [f2]; exact q.now r rfl⟩
    · exact q.elim
  · exact q.elim⟩
def mIndex (x : AV) (vs : List AV) (h : AH) : R AV := match lstOf x h, vs with
  | some xs, [y] => if isFl y = true ∧ xs.all isFl = true then match xs.findIdx? (fun z => flatE z y) with
      | some j => .ok (.int (j : Nat)) h
      | none => .bad
    else .bad
  | _, _ => .bad
theorem mo_index : MtOk cl X "list.index" mIndex := ⟨_, mt_index, fun hid m h H x vs u us Q E r hx hv q => by
  unfold mIndex at q
  split at q
  · rename_i xs y ex
    split at q
    · rename_i hh
      split at q
      · rename_i j ej
        obtain ⟨p0, zs, e1, h3, h4⟩ := lst_sq r hx ex
        obtain ⟨w, e2, h2⟩ := vrs1 hv
        subst e1 e2
        obtain ⟨ey, fy⟩ := isFl_of hh.1 h2
        obtain ⟨f1, _, f3⟩ := fls_of ey hh.2 h4
        obtain ⟨hj, hp, hn⟩ := List.findIdx?_eq_some_iff_getElem.mp ej
        have z := f3 j
        rw [List.getElem?_eq_getElem hj] at z
        obtain ⟨z0, ez, ez2⟩ := Option.map_eq_some_iff.mp z
        refine ⟨p0, zs, w, j, z0, rfl, rfl, h3, fy, f1, ez, by rw [ez2]; exact hp, fun m' z' hm hz => ?_, q.now r rfl⟩
        have y1 := f3 m'
        have hml : m' < xs.length := Nat.lt_trans hm hj
        rw [hz, List.getElem?_eq_getElem hml] at y1
        have y2 := hn m' hm
        simp only [Option.map_some, Option.some.injEq] at y1
        rw [y1]
        simpa using y2
      · exact q.elim
    · exact q.elim
  · exact q.elim⟩
def rExtR : V → List V → Hp → VK → Prop := fun x vs H Q => ∃ l b xs zs, x = .ref l ∧ vs = [.ref b] ∧ H l = some (.lst xs) ∧ Rd H b (.lst zs) ∧ xs.length + zs.length ≤ sizeLine ∧ Q .non (upd H l (.lst (xs ++ zs)))
theorem mt_extR : MtR X "list.extend" rExtR := by
  intro pins s σ H x vs v us Q I rx rv h
  obtain ⟨l, b, xs, zs, rfl, rfl, hH, hB, hz, q⟩ := h
  cases rx
  obtain ⟨u, rfl, ru⟩ := rv.one
  cases ru
  obtain ⟨z, its, n, r, hl, e⟩ := I.lstM hH
  obtain ⟨z2, its2, n2, r2, e2⟩ := hB.ok I.hok
  have hl2 := r2.length
  have hsz : its.toArray.size + its2.toArray.size ≤ sizeLine := by rw [List.size_toArray, List.size_toArray]; omega
  have hlong : ¬ (!its.toArray.isEmpty && Builtin.List.listTooLong (its.toArray.size + its2.toArray.size)) = true := by
    rw [notLongL hsz, Bool.and_false]
    exact Bool.false_ne_true
  refine call_meets PySem.F.slot_list_extend ⟨_, e, rfl⟩ PySem.F.entry_list_extend (PySem.F.args_list_extend_2 _ _)
    (AutoSeq1.list_extend_list_list_0 l its.toArray n b its2.toArray n2 hlong (by have z := sizeLine_eq; rw [List.size_toArray]; omega) (by have z := sizeLine_eq; omega)) ⟨e, e2, ?_⟩
  refine ⟨.non, _, I.lset (its' := its ++ its2) hH e (by simp) (r.append r2) ?_, rfl, q⟩
  rw [List.length_append]
  omega
def mExtend (x : AV) (vs : List AV) (h : AH) : R AV := match x, vs with
  | .ref a, [y] => match h[a]?, lstOf y h with
    | some (.lst xs), some zs => if xs.length + zs.length ≤ sizeLine then .ok .non (h.set a (.lst (xs ++ zs))) else .bad
    | _, _ => .bad
  | _, _ => .bad
theorem mo_extend : MtOk cl X "list.extend" mExtend := ⟨_, mt_extR, fun hid m h H x vs u us Q E r hx hv q => by
  unfold mExtend at q
  split at q
  · rename_i a y
    split at q
    · rename_i xs zs e1 e2
      split at q
      · rename_i hl
        obtain ⟨w, e3, h3⟩ := vrs1 hv
        obtain ⟨p1, ws, e4, h4, h5⟩ := lst_rd r h3 e2
        obtain ⟨p0, us0, e5, e6, h6, h7⟩ := vr_lst r hx e1
        subst e3 e4 e5
        refine ⟨p0, p1, us0, ws, rfl, rfl, h6, h4, by rw [h7.length, h5.length]; exact hl, ?_⟩
        exact q m _ .non (List.prefix_refl m) (Keep.chg h6 trivial) (r.lst e6 h6 (h7.append h5)) rfl
      · exact q.elim
    · exact q.elim
  · exact q.elim⟩
def mInsert (x : AV) (vs : List AV) (h : AH) : R AV := match x, vs with
  | .ref a, [j, y] => match h[a]?, j with
    | some (.lst xs), .int i => if xs.length < sizeLine ∧ 0 ≤ i ∧ i < 2 ^ 63 then .ok .non (h.set a (.lst (xs.take i.toNat ++ [y] ++ xs.drop i.toNat))) else .bad
    | _, _ => .bad
  | _, _ => .bad
theorem mo_insert : MtOk cl X "list.insert" mInsert := ⟨_, mt_insert, fun hid m h H x vs u us Q E r hx hv q => by
  unfold mInsert at q
  split at q
  · rename_i a j y
    split at q
    · rename_i xs i e1
      split at q
      · rename_i hl
        obtain ⟨w, w2, e3, h3, h3'⟩ := vrs2 hv
        obtain ⟨p0, us0, e5, e6, h6, h7⟩ := vr_lst r hx e1
        subst e3 e5
        refine ⟨p0, us0, i, w2, rfl, by rw [show w = _ from h3], h6, by rw [h7.length]; exact hl.1, hl.2.1, hl.2.2, ?_⟩
        exact q m _ .non (List.prefix_refl m) (Keep.chg h6 trivial) (r.lst e6 h6 (((h7.take _).append (ys := [y]) ⟨_, _, rfl, h3', rfl⟩).append (h7.drop _))) rfl
      · exact q.elim
    · exact q.elim
  · exact q.elim⟩
theorem VRs.eraseIdx {K : PySem.W.Frag} {m : List Addr} {H : Hp} : ∀ {xs : List AV} {us : List V} (n : Nat), VRs K m H xs us → VRs K m H (xs.eraseIdx n) (us.eraseIdx n)
  | [], us, n, h => by rw [show us = [] from h]; simp [VRs]
  | x :: xs, _, 0, ⟨u, r, e, h, t⟩ => by subst e; exact t
  | x :: xs, _, n + 1, ⟨u, r, e, h, t⟩ => by subst e; exact ⟨u, _, rfl, h, VRs.eraseIdx n t⟩
/-- xs.pop(), xs.pop(i) of a list -/
def mPop (x : AV) (vs : List AV) (h : AH) : R AV := match x, vs with
  | .ref a, [] => match h[a]? with
    | some (.lst xs) => match xs[xs.length - 1]? with
      | some y => .ok y (h.set a (.lst (xs.eraseIdx (xs.length - 1))))
      | none => .bad
    | _ => .bad
  | _, _ => .bad
def mPopAt (x : AV) (vs : List AV) (h : AH) : R AV := match x, vs with
  | .ref a, [j] => match h[a]?, j with
    | some (.lst xs), .int i => match ixN xs.length i with
      | some n => if -(2 ^ 63) ≤ i ∧ i < 2 ^ 63 then match xs[n]? with
          | some y => .ok y (h.set a (.lst (xs.eraseIdx n)))
          | none => .bad
        else .bad
      | none => .bad
    | _, _ => .bad
  | _, _ => .bad
theorem mo_pop : MtOk cl X "list.pop" mPop := ⟨_, mt_pop, fun hid m h H x vs u us Q E r hx hv q => by
  unfold mPop at q
  split at q
  · rename_i a
    split at q
    · rename_i xs e1
      split at q
      · rename_i y ey
        obtain ⟨p0, us0, e5, e6, h6, h7⟩ := vr_lst r hx e1
        obtain ⟨w, ew, hw⟩ := h7.get ey
        subst e5
        refine ⟨p0, us0, w, rfl, hv, h6, by rw [h7.length]; exact ew, ?_⟩
        have kk : Keep H (upd H p0 (.lst us0.dropLast)) := Keep.chg h6 trivial
        refine q m _ w (List.prefix_refl m) kk (r.lst e6 h6 ?_) (VR.mono (List.prefix_refl m) kk _ _ hw)
        have z := h7.eraseIdx (xs.length - 1)
        rw [← h7.length] at z
        rw [← h7.length]
        rw [show us0.dropLast = us0.eraseIdx (us0.length - 1) from by rw [List.eraseIdx_length_sub_one]]
        exact z
      · exact q.elim
    · exact q.elim
  · exact q.elim⟩
theorem mo_popAt : MtOk cl X "list.pop" mPopAt := ⟨_, mt_popAt, fun hid m h H x vs u us Q E r hx hv q => by
  unfold mPopAt at q
  split at q
  · rename_i a j
    split at q
    · rename_i xs i e1
      split at q
      · rename_i n en
        split at q
        · rename_i hl
          split at q
          · rename_i y ey
            obtain ⟨w2, e3, h3⟩ := vrs1 hv
            obtain ⟨p0, us0, e5, e6, h6, h7⟩ := vr_lst r hx e1
            obtain ⟨w, ew, hw⟩ := h7.get ey
            subst e3 e5
            refine ⟨p0, us0, i, n, w, rfl, by rw [show w2 = _ from h3], h6, hl.1, hl.2, by rw [h7.length]; exact (ixN_seq en).1, ew, ?_⟩
            have kk : Keep H (upd H p0 (.lst (us0.eraseIdx n))) := Keep.chg h6 trivial
            exact q m _ w (List.prefix_refl m) kk (r.lst e6 h6 (h7.eraseIdx n)) (VR.mono (List.prefix_refl m) kk _ _ hw)
          · exact q.elim
        · exact q.elim
      · exact q.elim
    · exact q.elim
  · exact q.elim⟩
end
end Mi

namespace Mi
open PySem PySem.Spec PyProof.Rows L2
section
variable {pd : PD} {X : Cx} {C : CE} {k : Nat} {W : WX} {a b o e : Expr} {es : List Expr} {pos p p2 apos : Pos} {x f name : Str}
theorem x_gstr (c : Ctx pd X C k) {z : Str} (h : (x, z) ∈ pd.cstrs) (hg : Gl X x := by rfl) (hd : (x == ("__debug__" : Str)) = false := by decide) : PEm (pd.cl X.K) X W (.Name x pos) (sK (.str z)) := fun tk => by
  obtain ⟨t, e⟩ := c.gstr h
  exact m_glob (v := .str z) hg e (show RelV (.str z) _ from ⟨t, rfl⟩) (fun _ _ => rfl) hd tk
theorem x_gtup (c : Ctx pd X C k) {ss : List Str} (h : (x, ss) ∈ pd.ctups) (hg : Gl X x := by rfl) (hd : (x == ("__debug__" : Str)) = false := by decide) : PEm (pd.cl X.K) X W (.Name x pos) (sK (.ctp ss)) := fun tk => by
  obtain ⟨e, q⟩ := c.gtup h
  exact m_glob (v := .ctp ss) hg e (show RelV (.ref _) _ from rfl) (fun m H => ⟨_, rfl, by
    rcases q with ⟨o, _, z⟩ | q
    · cases z
    · exact .inr q⟩) hd tk
def tyNm : Ty → Str
  | .bool => "bool" | .int => "int" | .str => "str" | .list => "list" | .tuple => "tuple"
theorem m_isT (t : Ty) {T : String} {cl : Nat → Addr} {fe : SE} (hx : x = tyNm t) (hT : T = (match t with | .bool => "bool" | .int => "int" | .str => "str" | .list => "list" | .tuple => "tuple"))
    (hg : Gl X "isinstance") (hm : X.mg "isinstance" = none) (hg2 : Gl X x) (hm2 : X.mg x = none) (hv : bootBuiltins x = some (.type T)) (ha : PEm cl X W e fe)
    (he : starEach (e :: [.Name x p2]) X.env = (false, eval e X.env) :: starEach [.Name x p2] X.env := by rfl) (hpl : (backTo pos (starEach [.Name x p2] X.env)).any (·.1) = false := by rfl) (hn : x ≠ "__name__" := by decide) (hdb : (x == ("__debug__" : Str)) = false := by decide) :
    PEm cl X W (.Call (.Name "isinstance" p) [e, .Name x p2] [] pos) (op1 (bIsT t) fe) := fun tk => by
  obtain ⟨ta, a1, s1⟩ := ha tk
  refine ⟨_, pe_callB call_isi hg hm (by decide +kernel) (pa_cons a1 (pa_cons (pe_bltn (v := .ty T) (u := .type T) hg2 hm2 hv rfl hn hdb) pa_nil) he) (he := he) (hpl := hpl), fun hid m h H σ' σ Q r rs q => s1 hid m h H σ' σ _ r rs (Post.bind q fun v h1' m1 H1 u _ p1 k1 r1 v1 q1 => ?_)⟩
  show ∃ (x c : V) (t' u' : Value) (b : Bool), [u, V.ty T] = [x, c] ∧ ClsV c u' ∧ TyX X.K H1 x t' ∧ PySem.W.kitOne X.K t' u' = some b ∧ Q (.bl b) H1
  subst hT
  cases v with
  | non =>
    unfold bIsT at q1
    refine ⟨u, _, _, _, _, rfl, .ty _, by rw [show u = _ from v1]; exact .base .non, ?_, q1.now r1 rfl⟩
    cases t <;> rfl
  | bl b0 =>
    unfold bIsT at q1
    refine ⟨u, _, _, _, _, rfl, .ty _, by rw [show u = _ from v1]; exact .base (.bl b0), ?_, q1.now r1 rfl⟩
    cases t <;> rfl
  | int b0 =>
    unfold bIsT at q1
    refine ⟨u, _, _, _, _, rfl, .ty _, by rw [show u = _ from v1]; exact .base (.int b0), ?_, q1.now r1 rfl⟩
    cases t <;> rfl
  | str b0 =>
    unfold bIsT at q1
    refine ⟨u, _, _, _, _, rfl, .ty _, by rw [show u = _ from v1]; exact .base (.str b0), ?_, q1.now r1 rfl⟩
    cases t <;> rfl
  | tup xs =>
    obtain ⟨q0, us, eu, h1, h2⟩ := v1
    subst eu
    unfold bIsT at q1
    refine ⟨_, _, _, _, _, rfl, .ty _, .base (.tup h1), ?_, q1.now r1 rfl⟩
    cases t <;> rfl
  | fl xs =>
    obtain ⟨q0, us, eu, ⟨od, h1⟩, h2⟩ := v1
    subst eu
    unfold bIsT at q1
    refine ⟨_, _, _, _, _, rfl, .ty _, .base (.frz h1), ?_, q1.now r1 rfl⟩
    cases t <;> rfl
  | ctp ss =>
    obtain ⟨q0, eu, h1⟩ := v1
    subst eu
    unfold bIsT at q1
    refine ⟨_, _, .type "tuple", _, _, rfl, .ty _, ?_, ?_, q1.now r1 rfl⟩
    · rcases h1 with ⟨o, _, h1⟩ | ⟨o, its, n, h1, h2, _⟩
      · exact .fTuple h1
      · exact .kTuple h1 h2
    cases t <;> rfl
  | ref j =>
    unfold bIsT at q1
    dsimp only at q1
    split at q1
    · rename_i xs ex
      obtain ⟨p0, us, eu, _, h1, _⟩ := vr_lst r1 v1 ex
      subst eu
      refine ⟨_, _, _, _, _, rfl, .ty _, .base (.lst h1), ?_, q1.now r1 rfl⟩
      cases t <;> rfl
    · exact q1.elim
  | _ => exact q1.elim
end
end Mi

namespace Mi
open PySem PySem.Spec PyProof.Rows L2
section
variable {cl : Nat → Addr} {X : Cx} {W : WX} {C : CE} {k : Nat} {a b o e f : Expr} {es : List Expr} {pos p p2 apos cpos : Pos} {x name : Str}
def dLen (v : AV) (h : AH) : Option Nat := match v with
  | .fk ks vs => if ks.length = vs.length then some ks.length else none
  | .ft ks vs => if ks.length = vs.length then some ks.length else none
  | .ref a => match h[a]? with
    | some (.dk kvs) => some kvs.length
    | some (.dt kvs) => some kvs.length
    | _ => none
  | _ => none
def bLenA (C : CE) (v : AV) (h : AH) : R AV := match dLen v h with
  | some n => .ok (.int (n : Nat)) h
  | none => bLen C v h
theorem call_lenK : CallR X (.builtin "len") (fun xs H Q => ∃ a n, xs = [V.ref a] ∧ ((∃ kvs, Rd H a (.dK kvs) ∧ n = kvs.length) ∨ ∃ kvs, Rd H a (.dT kvs) ∧ n = kvs.length) ∧ Q (.int (n : Nat)) H) := by
  intro pins s σ H xs us Q I r h
  obtain ⟨a, n, rfl, hd, q⟩ := h
  obtain ⟨u, rfl, ru⟩ := vals1 r
  cases ru
  rcases hd with ⟨kvs, hd, rfl⟩ | ⟨kvs, hd, rfl⟩
  · exact d_len I hd fun t s' I' => ⟨.int kvs.length, H, I', ⟨t, rfl⟩, q⟩
  · obtain ⟨z, hd, ys, rel, dd⟩ := dt_rd I.hok hd
    have hl : kvs.length = ys.length := Paired.length rel
    refine call_len_dictH hd dd (by rw [← hl]; rw [sizeLine_eq] at z; omega) ?_
    rw [← hl]
    exact ⟨.int ((kvs.length : Nat) : Int), H, I.tok _, ⟨_, rfl⟩, q⟩
theorem dLen_of {D : Dm} {m : List Addr} {H : Hp} {h : AH} {v : AV} {u : V} {n : Nat} (r : Rel D m h H) (hv : VR D.K m H v u) (e : dLen v h = some n) : ∃ a, u = .ref a ∧ ((∃ kvs, Rd H a (.dK kvs) ∧ n = kvs.length) ∨ ∃ kvs, Rd H a (.dT kvs) ∧ n = kvs.length) := by
  cases v with
  | fk ks vs =>
    obtain ⟨p, ps, eu, ⟨o, h1⟩, h2, h3⟩ := hv
    simp only [dLen] at e
    split at e
    · cases e
      exact ⟨p, eu, .inl ⟨ps, .inr ⟨o, h1⟩, by rw [← h2]; simp⟩⟩
    · cases e
  | ft ks vs =>
    obtain ⟨p, ps, eu, ⟨o, h1⟩, h2, h3⟩ := hv
    simp only [dLen] at e
    split at e
    · cases e
      exact ⟨p, eu, .inr ⟨ps, .inr ⟨o, h1⟩, by rw [← h2]; simp⟩⟩
    · cases e
  | ref i =>
    obtain ⟨a, h1, h2⟩ := hv
    simp only [dLen] at e
    split at e
    · rename_i kvs ek
      cases e
      obtain ⟨ps, h3, h4⟩ := r.ob i _ a ek h1
      exact ⟨a, h2, .inl ⟨ps, .inl h3, h4.length.symm⟩⟩
    · rename_i kvs ek
      cases e
      obtain ⟨ps, h3, h4⟩ := r.ob i _ a ek h1
      exact ⟨a, h2, .inr ⟨ps, .inl h3, h4.length.symm⟩⟩
    · cases e
  | _ => cases e
theorem c_lenA (T : DunT cl X k C .len "__len__") (hr : Room (k + 1) X.A) : CallOk cl X W (.builtin "len") (arg1 (bLenA C)) := fun tk => by
  obtain ⟨r, hc, sr⟩ := c_len (W := W) T hr tk
  refine ⟨_, hc.or (CallRs.of call_lenK), fun hid m h H σ vs us Q rl hv q => ?_⟩
  cases vs with
  | nil => exact q.elim
  | cons v vs =>
    cases vs with
    | cons _ _ => exact q.elim
    | nil =>
      have q' : Post (dm X cl hid) m H (relV X.K) (bLenA C v h) Q (atW W σ) := q
      unfold bLenA at q'
      cases e : dLen v h with
      | some n =>
        rw [e] at q'
        obtain ⟨u, e1, h1⟩ := vrs1 hv
        obtain ⟨a, e2, h2⟩ := dLen_of rl h1 e
        subst e1 e2
        exact .inr ⟨a, n, rfl, h2, q'.now rl rfl⟩
      | none =>
        rw [e] at q'
        exact .inl (sr hid m h H σ [v] us Q rl hv q')
def bAny (v : AV) (h : AH) : R AV := match lstOf v h with
  | some xs => match blsL xs with
    | some bs => .ok (.bl (bs.any id)) h
    | none => .bad
  | none => .bad
theorem c_any (hc : X.calm = true) : CallOk cl X W (.builtin "any") (arg1 bAny) := CallOk.one _ (CallRs.of (cr_any hc)) fun hid m h H σ v u Q r hv q => by
  unfold bAny at q
  split at q
  · rename_i xs ex
    split at q
    · rename_i bs eb
      obtain ⟨p0, us, e1, h1, h2⟩ := lst_sq r hv ex
      have z := vrs_bls eb h2
      subst z e1
      exact ⟨p0, bs, rfl, h1, q.now r rfl⟩
    · exact q.elim
  · exact q.elim
/-- d.get(k, x) -/
def isDic (v : AV) (h : AH) : Bool := match v with
  | .fk _ _ => true
  | .ft _ _ => true
  | .ref a => match h[a]? with
    | some (.dk _) => true
    | some (.dt _) => true
    | _ => false
  | _ => false
def sGet2 (fo fi fx : SE) : SE := fun σ h => (fo σ h).bind fun d h1 => if isDic d h1 then (fi σ h1).bind fun y h2 => (fx σ h2).bind fun z h3 => match dGetA d y h3 with
    | some r => .ok (r.getD z) h3
    | none => .bad
  else .bad
theorem isDic_of {D : Dm} {m : List Addr} {H : Hp} {h : AH} {v : AV} {u : V} (r : Rel D m h H) (hv : VR D.K m H v u) (e : isDic v h = true) : ∃ a, u = .ref a ∧ IsD H a := by
  cases v with
  | fk ks vs =>
    obtain ⟨p, ps, eu, ⟨o, h1⟩, h2, h3⟩ := hv
    exact ⟨p, eu, .inl ⟨ps, .inr ⟨o, h1⟩⟩⟩
  | ft ks vs =>
    obtain ⟨p, ps, eu, ⟨o, h1⟩, h2, h3⟩ := hv
    exact ⟨p, eu, .inr ⟨ps, .inr ⟨o, h1⟩⟩⟩
  | ref i =>
    obtain ⟨a, h1, h2⟩ := hv
    simp only [isDic] at e
    split at e
    · rename_i kvs ek
      obtain ⟨ps, h3, h4⟩ := r.ob i _ a ek h1
      exact ⟨a, h2, .inl ⟨ps, .inl h3⟩⟩
    · rename_i kvs ek
      obtain ⟨ps, h3, h4⟩ := r.ob i _ a ek h1
      exact ⟨a, h2, .inr ⟨ps, .inl h3⟩⟩
    · cases e
  | _ => cases e
theorem m_get2 {fo fi fx : SE} (hr : Room k X.A) (ho : PEm cl X W o fo) (hi : PEm cl X W e fi) (hx : PEm cl X W f fx) (m2 : M2 X o "get" apos e f cpos := by exact ⟨rfl, rfl, rfl, rfl⟩) : PEm cl X W (.Call (.Attribute o "get" apos) [e, f] [] cpos) (sGet2 fo fi fx) := fun tk => by
  obtain ⟨t1, h1, s1⟩ := ho tk
  obtain ⟨t2, h2, s2⟩ := hi tk
  obtain ⟨t3, h3, s3⟩ := hx tk
  refine ⟨_, pe_dget2 (hu_of hr) h1 h2 h3 m2, fun hid m h H σ' σ Q rl rs q => s1 hid m h H σ' σ _ rl rs (Post.bind q fun d h1' m1 H1 ud _ p1 k1 r1 v1 q1 => ?_)⟩
  split at q1
  · rename_i hd
    obtain ⟨a, eu, hI⟩ := isDic_of r1 v1 hd
    subst eu
    refine ⟨a, rfl, hI, s2 hid m1 h1' H1 σ' σ _ r1 (rs.mono p1 k1) (Post.bind q1 fun y h2' m2 H2 uy _ p2 k2 r2 v2 q2 => ?_)⟩
    refine s3 hid m2 h2' H2 σ' σ _ r2 ((rs.mono p1 k1).mono p2 k2) (Post.bind q2 fun z h3' m3 H3 uz _ p3 k3 r3 v3 q3 => ?_)
    split at q3
    · rename_i r0 er
      obtain ⟨a', ov, e1, g, ho⟩ := dGet_of r3 (VR.mono p3 k3 _ _ (VR.mono p2 k2 _ _ v1)) (VR.mono p3 k3 _ _ v2) er
      cases e1
      refine ⟨ov, g, ?_⟩
      cases r0 with
      | none => rw [show ov = none from ho]; exact q3.now r3 v3
      | some w => obtain ⟨uw, e4, h4⟩ := ho; rw [e4]; exact q3.now r3 h4
    · exact q3.elim
  · exact q1.elim
end
end Mi

namespace Mi
open PySem PySem.Spec PyProof.Rows L2
section
variable {pd : PD} {X : Cx} {C : CE} {k : Nat} {W : WX} {a b o e : Expr} {es : List Expr} {pos p p2 apos cpos : Pos} {x f name : Str}
theorem x_meth (c : Ctx pd X C k) (j i : Nat) {cd : ClsD} {d : He.DefD} {fo : SE} {fa : SA} {pl : Sem Bool} (hj : pd.cds[j]? = some cd) (hm : (x, i) ∈ cd.meths) (hd : pd.fn[i]? = some d) (ho : PEm (pd.cl X.K) X W o fo) (ha : PAm (pd.cl X.K) X W (e :: es) fa)
    (hst : starEach (e :: es) X.env = (false, eval e X.env) :: starEach es X.env := by rfl) (hpl : (backTo pos (starEach es X.env)).any (·.1) = false := by rfl)
    (ht : eval (.Call (.Attribute o x apos) (e :: es) [] pos) X.env = (do
      let ov ← eval o X.env
      standAt apos.atName
      let (f, first) ← holding [ov] (getMethod ov x pl)
      callWith pos f first (backTo pos (starEach (e :: es) X.env)) (backToKw pos (keywordEach [] X.env))) := by rfl) : PEm (pd.cl X.K) X W (.Call (.Attribute o x apos) (e :: es) [] pos) (sMeth C j x i fo fa) :=
  m_meth (c.cl_ hj) (c.mth hj hm hd) (c.h.run i d hd) c.r0 ho ha hst hpl ht
theorem x_meth0 (c : Ctx pd X C k) (j i : Nat) {cd : ClsD} {d : He.DefD} {fo : SE} {pl : Sem Bool} (hj : pd.cds[j]? = some cd) (hm : (x, i) ∈ cd.meths) (hd : pd.fn[i]? = some d) (ho : PEm (pd.cl X.K) X W o fo)
    (ht : eval (.Call (.Attribute o x apos) [] [] pos) X.env = (do
      let ov ← eval o X.env
      standAt apos.atName
      let (f, first) ← holding [ov] (getMethod ov x pl)
      callWith pos f first (backTo pos (starEach [] X.env)) (backToKw pos (keywordEach [] X.env))) := by rfl) : PEm (pd.cl X.K) X W (.Call (.Attribute o x apos) [] [] pos) (sMeth C j x i fo aNil) :=
  m_meth0 (c.cl_ hj) (c.mth hj hm hd) (c.h.run i d hd) c.r0 ho ht
def isCt (v : AV) (_ : AH) : Bool := match v with
  | .ctp _ => true
  | _ => false
def mTIndex (x : AV) (vs : List AV) (h : AH) : R AV := match x, vs with
  | .ctp ss, [y] => match y with
    | .str z => match ss.findIdx? (fun s => decide (s = z)) with
      | some j => .ok (.int (j : Nat)) h
      | none => .bad
    | _ => .bad
  | _, _ => .bad
theorem ctAt_is {pins : List (Addr × Obj)} {σ : L2.St} {H : Hp} {s : Shared} {q : Addr} {xs : List V} (I : Inv X pins σ H s) (h : CtAt X.K H q xs) : s.TypeIs (.ref q) "tuple" ∧ ∀ a, Value.ref q = .ref a → ∃ ob, s.heap.get? a = some ob ∧ ob.dict = none := by
  rcases h with ⟨o, hd, h⟩ | ⟨o, its, n, h1, h2, h3, _⟩
  · obtain ⟨e, z, its, r, o', e', hc, _⟩ := (show ObjOk X.prog X.w H s.heap q (.frz o (.tup xs)) from I.hok q _ h)
    rw [e] at e'
    cases e'
    refine ⟨⟨o, e, hc⟩, fun a ea => ?_⟩
    cases ea
    exact ⟨o, e, hd⟩
  · refine ⟨⟨o, I.kIn q o h1, h2⟩, fun a ea => ?_⟩
    cases ea
    exact ⟨o, I.kIn _ o h1, h3⟩
theorem mt_tindex : MtR X "tuple.index" (fun x xs H Q => ∃ p, ∃ ys : List Str, ∃ z j, x = .ref p ∧ xs = [.str z] ∧ SqT X.K H p (ys.map V.str) ∧ ys[j]? = some z ∧ (∀ m, m < j → ys[m]? ≠ some z) ∧ Q (.int (j : Nat)) H) := mt_tup_index
theorem m_tindex {cl : Nat → Addr} {fo : SE} {fa : SA} (ho : PEm cl X W o fo) (ha : PAm cl X W (e :: es) fa)
    (hbase : attributeBase o "index" X.env (eval o X.env) = eval o X.env := by rfl)
    (hfew : ((backTo cpos (starEach (e :: es) X.env)).all (fun x => !x.1) && (backToKw cpos (keywordEach [] X.env)).all (fun x => x.1.isSome)
      && decide ((e :: es).length + ([] : List Keyword).length + (if ([] : List Keyword).isEmpty then 0 else 1) < 30)) = true := by rfl)
    (hline : (apos.endLine == cpos.line) = true := by rfl) (hs : starEach (e :: es) X.env = (false, eval e X.env) :: starEach es X.env := by rfl) (hplain : (backTo cpos (starEach es X.env)).any (·.1) = false := by rfl) :
    PEm cl X W (.Call (.Attribute o "index" apos) (e :: es) [] cpos) (sBm isCt mTIndex fo fa) := fun tk => by
  obtain ⟨t1, h1, s1⟩ := ho tk
  obtain ⟨t2, h2, s2⟩ := ha tk
  refine ⟨fun σ H Q => t1 σ H fun x H1 => (∃ q xs, x = .ref q ∧ CtAt X.K H1 q xs) ∧ t2 σ H1 fun vs H2 => ∃ p, ∃ ys : List Str, ∃ z j, x = .ref p ∧ vs = [.str z] ∧ SqT X.K H2 p (ys.map V.str) ∧ ys[j]? = some z ∧ (∀ m : Nat, m < j → ys[m]? ≠ some z) ∧ Q (.int (j : Nat)) H2, ⟨fun pins s σ H Q I h => ?_⟩, fun hid m h H σ' σ Q rl rs q => ?_⟩
  · refine wpAny_Call_method_late hbase hfew hline rfl (thn (h1.run pins s σ H _ I h) fun v s1 ⟨x, H1, I1, r1, ⟨q, xs, ex, hc⟩, q1⟩ => ?_)
    subst ex
    cases (show v = Value.ref q from r1)
    obtain ⟨g1, g2⟩ := ctAt_is I1 hc
    refine ⟨"tuple", _, PySem.F.plainAttrs_tuple, PySem.F.slot_tuple_index, PySem.F.type_tuple_index, g1, g2, ?_⟩
    have hA := h2.run cpos pins s1 σ H1 _ I1 q1
    rw [hs] at hA ⊢
    refine Calls.callWith_builtin (by show (false || (backTo cpos (starEach es X.env)).any (·.1)) = false; rw [hplain] <;> rfl) (Calls.evalArgs_plain ?_)
    exact thn hA fun us s2 ⟨vs, H2, I2, r2, q2⟩ => mt_tindex pins s2 σ H2 (.ref q) vs (.ref q) us Q I2 rfl r2 q2
  · refine s1 hid m h H σ' σ _ rl rs (Post.bind q fun v h1' m1 H1 u _ p1 k1 r1 v1 q1 => ?_)
    cases v with
    | ctp ss =>
      rw [if_pos (show isCt (.ctp ss) h1' = true from rfl)] at q1
      obtain ⟨q0, eu, hc⟩ := v1
      refine ⟨⟨q0, _, eu, hc⟩, s2 hid m1 h1' H1 σ' σ _ r1 (rs.mono p1 k1) (Post.bind q1 fun vs h2' m2 H2 us _ p2 k2 r2 v2 q2 => ?_)⟩
      cases vs with
      | nil => exact q2.elim
      | cons y vs =>
        cases vs with
        | cons _ _ => exact q2.elim
        | nil =>
          obtain ⟨w, e2, h3⟩ := vrs1 v2
          cases y with
          | str z =>
            unfold mTIndex at q2
            dsimp only at q2
            split at q2
            · rename_i j ej
              obtain ⟨hj, hp, hn⟩ := List.findIdx?_eq_some_iff_getElem.mp ej
              refine ⟨q0, ss, z, j, eu, by rw [e2, show w = _ from h3], (CtAt.keep k2 hc).sq, by rw [List.getElem?_eq_getElem hj]; exact congrArg some (of_decide_eq_true hp), fun m' hm z' => ?_, q2.now r2 rfl⟩
              have y2 := hn m' hm
              rw [List.getElem?_eq_getElem (Nat.lt_trans hm hj)] at z'
              cases z'
              simp at y2
            · exact q2.elim
          | _ => exact q2.elim
    | _ => exact q1.elim
end
end Mi

namespace Mi
open PySem PySem.Spec PyProof.Rows L2
section
variable {pd : PD} {X : Cx} {C : CE} {k : Nat} {W : WX} {a b o e : Expr} {es : List Expr} {pos p p2 apos cpos : Pos} {x f name : Str}
def mTCount (x : AV) (vs : List AV) (h : AH) : R AV := match x, vs with
  | .ctp ss, [y] => match y with
    | .str z => .ok (.int (ss.count z : Nat)) h
    | _ => .bad
  | _, _ => .bad
theorem mt_tcount : MtR X "tuple.count" (fun x xs H Q => ∃ p, ∃ ys : List Str, ∃ z, x = .ref p ∧ xs = [.str z] ∧ SqT X.K H p (ys.map V.str) ∧ Q (.int (ys.count z : Nat)) H) := by
  intro pins s σ H x xs v us Q I rx rs h
  obtain ⟨p, ys, z, rfl, rfl, hq, q⟩ := h
  cases rx
  obtain ⟨u, rfl, t, rfl⟩ := vals1 rs
  obtain ⟨its, r, pl, hz⟩ := I.tuple hq
  obtain ⟨⟨cls, dd, dt, sl⟩, ho, hc, n, hd⟩ := pl
  simp only at hc hd
  subst hc
  subst hd
  have ec : its.toArray.toList.countP (eqU (.str z)) = ys.count z := by
    rw [show its.toArray.toList.countP (eqU (.str z)) = (ys.map V.str).countP fun w => eqV w (.str z) from eqU_count r (flat_strs ys), List.countP_map, List.count]
    congr 1
  refine call_meets PySem.F.slot_tuple_count ⟨_, ho, rfl⟩ PySem.F.entry_tuple_count (PySem.F.args_tuple_count_2 _ _) (SeqAt.tuple_countAt p its.toArray n dd sl (.str z t) (eqU (.str z)))
    ⟨ho, fun w hw => mem_eqAt (x := .str z) ⟨t, rfl⟩ rfl r (flat_strs ys) w (by simpa using hw), ?_⟩
  refine ⟨.int (ys.count z : Nat), H, I.tok _, ⟨s.toks, ?_⟩, q⟩
  show Value.int ((its.toArray.toList.countP (eqU (.str z)) : Nat) : Int) s.toks = Value.int ((ys.count z : Nat) : Int) s.toks
  rw [ec]
theorem m_tcount {cl : Nat → Addr} {fo : SE} {fa : SA} (ho : PEm cl X W o fo) (ha : PAm cl X W (e :: es) fa)
    (hbase : attributeBase o "count" X.env (eval o X.env) = eval o X.env := by rfl)
    (hfew : ((backTo cpos (starEach (e :: es) X.env)).all (fun x => !x.1) && (backToKw cpos (keywordEach [] X.env)).all (fun x => x.1.isSome)
      && decide ((e :: es).length + ([] : List Keyword).length + (if ([] : List Keyword).isEmpty then 0 else 1) < 30)) = true := by rfl)
    (hline : (apos.endLine == cpos.line) = true := by rfl) (hs : starEach (e :: es) X.env = (false, eval e X.env) :: starEach es X.env := by rfl) (hplain : (backTo cpos (starEach es X.env)).any (·.1) = false := by rfl) :
    PEm cl X W (.Call (.Attribute o "count" apos) (e :: es) [] cpos) (sBm isCt mTCount fo fa) := fun tk => by
  obtain ⟨t1, h1, s1⟩ := ho tk
  obtain ⟨t2, h2, s2⟩ := ha tk
  refine ⟨fun σ H Q => t1 σ H fun x H1 => (∃ q xs, x = .ref q ∧ CtAt X.K H1 q xs) ∧ t2 σ H1 fun vs H2 => ∃ p, ∃ ys : List Str, ∃ z, x = .ref p ∧ vs = [.str z] ∧ SqT X.K H2 p (ys.map V.str) ∧ Q (.int (ys.count z : Nat)) H2, ⟨fun pins s σ H Q I h => ?_⟩, fun hid m h H σ' σ Q rl rs q => ?_⟩
  · refine wpAny_Call_method_late hbase hfew hline rfl (thn (h1.run pins s σ H _ I h) fun v s1 ⟨x, H1, I1, r1, ⟨q, xs, ex, hc⟩, q1⟩ => ?_)
    subst ex
    cases (show v = Value.ref q from r1)
    obtain ⟨g1, g2⟩ := ctAt_is I1 hc
    refine ⟨"tuple", _, PySem.F.plainAttrs_tuple, PySem.F.slot_tuple_count, PySem.F.type_tuple_count, g1, g2, ?_⟩
    have hA := h2.run cpos pins s1 σ H1 _ I1 q1
    rw [hs] at hA ⊢
    refine Calls.callWith_builtin (by show (false || (backTo cpos (starEach es X.env)).any (·.1)) = false; rw [hplain] <;> rfl) (Calls.evalArgs_plain ?_)
    exact thn hA fun us s2 ⟨vs, H2, I2, r2, q2⟩ => mt_tcount pins s2 σ H2 (.ref q) vs (.ref q) us Q I2 rfl r2 q2
  · refine s1 hid m h H σ' σ _ rl rs (Post.bind q fun v h1' m1 H1 u _ p1 k1 r1 v1 q1 => ?_)
    cases v with
    | ctp ss =>
      rw [if_pos (show isCt (.ctp ss) h1' = true from rfl)] at q1
      obtain ⟨q0, eu, hc⟩ := v1
      refine ⟨⟨q0, _, eu, hc⟩, s2 hid m1 h1' H1 σ' σ _ r1 (rs.mono p1 k1) (Post.bind q1 fun vs h2' m2 H2 us _ p2 k2 r2 v2 q2 => ?_)⟩
      cases vs with
      | nil => exact q2.elim
      | cons y vs =>
        cases vs with
        | cons _ _ => exact q2.elim
        | nil =>
          obtain ⟨w, e2, h3⟩ := vrs1 v2
          cases y with
          | str z =>
            unfold mTCount at q2
            dsimp only at q2
            exact ⟨q0, ss, z, eu, by rw [e2, show w = _ from h3], (CtAt.keep k2 hc).sq, q2.now r2 rfl⟩
          | _ => exact q2.elim
    | _ => exact q1.elim
end
end Mi

namespace Mi
open PySem PySem.Spec PyProof.Rows L2
open Classical in
/-- a result of plain data, trimmed -/
noncomputable def trimP {α : Type} (h : AH) (r : R α) : R α := match r with
  | .ok v h' => if h.length ≤ h'.length ∧ TrimOk 0 h h' then .ok v (h'.take h.length) else .ok v h'
  | r => r
noncomputable def trimE (k : Nat) (f : SE) : SE := fun σ h => trimR k h (f σ h)
noncomputable def trimT (f : SB) : SB := fun σ h => trimP h (f σ h)
open Classical in
/-- a block's result: the slots js are forgotten, and what is new is dropped, if nothing else names it -/
noncomputable def trimG (js : List Nat) (h : AH) (r : RS) : RS := match r with
  | .ok (.nx σ1) h' => if h.length ≤ h'.length ∧ (∀ v, some v ∈ wipeA σ1 js → clean h.length v = true) ∧ TrimOk 0 h h' then .ok (.nx (wipeA σ1 js)) (h'.take h.length) else .ok (.nx σ1) h'
  | .ok (.rt v) h' => if h.length ≤ h'.length ∧ clean h.length v = true ∧ TrimOk 0 h h' then .ok (.rt v) (h'.take h.length) else .ok (.rt v) h'
  | r => r
noncomputable def trimS (js : List Nat) (b : SS) : SS := fun σ h => trimG js h (b σ h)
theorem RelS.drop {K : PySem.W.Frag} {m : List Addr} {H : Hp} {σ' : Sl} {σ : L2.St} (r : RelS K m H σ' σ) (i : Nat) : RelS K m H (σ'.set i none) σ := by
  refine ⟨by simp [r.1], fun j w e => ?_⟩
  by_cases hj : j = i
  · subst hj
    have hl : j < σ'.length := by simpa using (List.getElem?_eq_some_iff.mp e).1
    rw [List.getElem?_set_self hl] at e
    cases e
  · rw [List.getElem?_set_ne (Ne.symm hj)] at e
    exact r.2 j w e
theorem RelS.drops {K : PySem.W.Frag} {m : List Addr} {H : Hp} {σ' : Sl} {σ : L2.St} (r : RelS K m H σ' σ) : ∀ vs : List Nat, RelS K m H (wipeA σ' vs) σ
  | [] => r
  | v :: vs => by unfold wipeA; exact (RelS.drops r vs).drop v
theorem RelS.cut {K : PySem.W.Frag} {m : List Addr} {H : Hp} {σ' : Sl} {σ : L2.St} {N : Nat} (r : RelS K m H σ' σ) (c : ∀ v, some v ∈ σ' → clean N v = true) : RelS K (m.take N) H σ' σ :=
  ⟨r.1, fun i v e => let ⟨u, e1, h⟩ := r.2 i v e; ⟨u, e1, VR.cut (c v (List.mem_of_getElem? e)) h⟩⟩
theorem Rel.cut0 {D : Dm} {m m' : List Addr} {h h' : AH} {H H' : Hp} (r : Rel D m h H) (r' : Rel D m' h' H') (hk : h.length ≤ h'.length) (t : TrimOk 0 h h') : Rel D (m'.take h.length) (h'.take h.length) H' := by
  have z := r.cut (k := 0) r' (by omega) t
  exact z
theorem trim_postP {D : Dm} {m : List Addr} {h : AH} {H : Hp} {r : R Bool} {Q : Bool → Hp → Prop} {E : XK} (rl : Rel D m h H) (q : Post D m H relB (trimP h r) Q E) : Post D m H relB r Q E := by
  cases r with
  | bad => exact q
  | ok v h' =>
    unfold trimP at q
    dsimp only at q
    split at q
    · rename_i hh
      obtain ⟨h1, h3⟩ := hh
      intro m' H' u p kk r' hv
      exact q (m'.take h.length) H' u (pre_take p (by rw [rl.len]; omega)) kk (rl.cut0 r' h1 h3) hv
    · exact q
  | ex c fs h' => exact q
theorem trim_postG {D : Dm} {m : List Addr} {h : AH} {H : Hp} {js : List Nat} {r : RS} {Dn : Ends} {W : WX} (rl : Rel D m h H) (q : PostS D m H (trimG js h r) Dn W) : PostS D m H r Dn W := by
  cases r with
  | bad => exact q
  | ex c fs σ h' => exact q
  | ok f h' =>
    cases f with
    | bk σ => exact q
    | ct σ => exact q
    | nx σ1 =>
      unfold trimG at q
      dsimp only at q
      split at q
      · rename_i hh
        obtain ⟨h1, h2, h3⟩ := hh
        intro m' H' p kk r' σ2 rs
        exact q (m'.take h.length) H' (pre_take p (by rw [rl.len]; omega)) kk (rl.cut0 r' h1 h3) σ2 (RelS.cut (rs.drops js) h2)
      · exact q
    | rt v =>
      unfold trimG at q
      dsimp only at q
      split at q
      · rename_i hh
        obtain ⟨h1, h2, h3⟩ := hh
        intro m' H' p kk r' u hv
        exact q (m'.take h.length) H' (pre_take p (by rw [rl.len]; omega)) kk (rl.cut0 r' h1 h3) u (VR.cut h2 hv)
      · exact q
section
variable {cl : Nat → Addr} {X : Cx} {W : WX} {e : Expr} {st : Stmt} {sts : List Stmt}
theorem m_trim (k : Nat) {f : SE} (h : PEm cl X W e f) : PEm cl X W e (trimE k f) := fun tk => by
  obtain ⟨t, h1, s1⟩ := h tk
  exact ⟨t, h1, fun hid m h H σ' σ Q r rs q => s1 hid m h H σ' σ Q r rs (trim_post r q)⟩
theorem mt_trim {f : SB} (h : PTm cl X W e f) : PTm cl X W e (trimT f) := fun tk => by
  obtain ⟨t, h1, s1⟩ := h tk
  exact ⟨t, h1, fun hid m h H σ' σ Q r rs q => s1 hid m h H σ' σ Q r rs (trim_postP r q)⟩
theorem ms_trim (js : List Nat) {f : SS} (h : PSm cl X W st f) : PSm cl X W st (trimS js f) := fun tk => by
  obtain ⟨t, h1, s1⟩ := h tk
  exact ⟨t, h1, fun hid m h H σ' σ Dn r rs q => s1 hid m h H σ' σ Dn r rs (trim_postG r q)⟩
theorem mss_trim (js : List Nat) {f : SS} (h : PSsm cl X W sts f) : PSsm cl X W sts (trimS js f) := fun tk => by
  obtain ⟨t, h1, s1⟩ := h tk
  exact ⟨t, h1, fun hid m h H σ' σ Dn r rs q => s1 hid m h H σ' σ Dn r rs (trim_postG r q)⟩
end
theorem trimOk_app {h X : AH} : TrimOk 0 h (h ++ X) := fun i o hi e => .inl ⟨by simpa using hi, by
  rw [List.getElem?_append_left (by simpa using hi)] at e; exact e⟩
theorem trimE_app {k : Nat} {f : SE} {σ : Sl} {h X : AH} {v : AV} (q : f σ h = .ok v (h ++ X)) (c : clean h.length v = true) : trimE 0 f σ h = .ok v h := by
  unfold trimE
  rw [q]
  unfold trimR
  dsimp only
  rw [if_pos ⟨by simp, by simpa using c, trimOk_app⟩]
  simp
theorem trimE_same {f : SE} {σ : Sl} {h : AH} {v : AV} (q : f σ h = .ok v h) (c : clean h.length v = true) : trimE 0 f σ h = .ok v h := trimE_app (k := 0) (X := []) (by rw [q, List.append_nil]) c
theorem trimT_app {f : SB} {σ : Sl} {h X : AH} {b : Bool} (q : f σ h = .ok b (h ++ X)) : trimT f σ h = .ok b h := by
  unfold trimT
  rw [q]
  unfold trimP
  dsimp only
  rw [if_pos ⟨by simp, trimOk_app⟩]
  simp
theorem trimS_app {js : List Nat} {b : SS} {σ σ1 : Sl} {h X : AH} (q : b σ h = .ok (.nx σ1) (h ++ X)) (c : ∀ v, some v ∈ wipeA σ1 js → clean h.length v = true) : trimS js b σ h = .ok (.nx (wipeA σ1 js)) h := by
  unfold trimS
  rw [q]
  unfold trimG
  dsimp only
  rw [if_pos ⟨by simp, c, trimOk_app⟩]
  simp
theorem trimS_rt {js : List Nat} {b : SS} {σ : Sl} {h X : AH} {v : AV} (q : b σ h = .ok (.rt v) (h ++ X)) (c : clean h.length v = true) : trimS js b σ h = .ok (.rt v) h := by
  unfold trimS
  rw [q]
  unfold trimG
  dsimp only
  rw [if_pos ⟨by simp, c, trimOk_app⟩]
  simp
end Mi

namespace Mi
open PySem PySem.Spec PyProof.Rows L2
/-- P, behind one thing unlocked -/
def UN (X : Cx) (P : Hp → Prop) (H : Hp) : Prop := ∃ d od u, H d = some (.frz od u) ∧ (∀ o' u', X.H_0 d ≠ some (.frz o' u')) ∧ P (upd H d u)
def tUn (X : Cx) (t : TS) : TS := fun D σ H => t ⟨fun σ' H' => UN X (D.nx σ') H', fun v H' => UN X (D.rt v) H', fun σ' H' => UN X (D.bk σ') H', fun σ' H' => UN X (D.ct σ') H'⟩ σ H
section
variable {X : Cx} {st : Stmt} {t t1 t2 : TS} {tg e : Expr} {te : TE}
theorem ps_un (h : PS X st t) : PS X st (tUn X t) := ⟨fun pins s σ H D I hw => thn (h.run pins s σ H _ I hw) fun f s1 q => by
  cases f with
  | next => obtain ⟨σ', H', I2, d, od, u, e, n, q⟩ := q; exact ⟨σ', _, I2.unlock e n, q⟩
  | brk => obtain ⟨σ', H', I2, d, od, u, e, n, q⟩ := q; exact ⟨σ', _, I2.unlock e n, q⟩
  | cont => obtain ⟨σ', H', I2, d, od, u, e, n, q⟩ := q; exact ⟨σ', _, I2.unlock e n, q⟩
  | ret v => obtain ⟨x, σ', H', I2, r, d, od, u, e, n, q⟩ := q; exact ⟨x, σ', _, I2.unlock e n, r, q⟩⟩
theorem ps_or (h1 : PS X st t1) (h2 : PS X st t2) : PS X st (fun D σ H => t1 D σ H ∨ t2 D σ H) := ⟨fun pins s σ H D I h => h.elim (h1.run pins s σ H D I) (h2.run pins s σ H D I)⟩
theorem pi_lockT (he : PE X e te) : PI X tg e (fun σ H R => te σ H fun x H1 => ∃ d kvs, x = .ref d ∧ H1 d = some (.dT kvs) ∧ ∀ od, (∀ o' u', X.H_0 d ≠ some (.frz o' u')) → R (Itkt d od kvs) (upd H1 d (.frz od (.dT kvs)))) := by
  refine ⟨fun pins s σ H R I h => ?_⟩
  refine thn (he.run pins s σ H _ I h) fun u s1 ⟨x, H1, I1, rx, d, kvs, ex, hd, q⟩ => ?_
  subst ex
  obtain rfl : u = Value.ref d := rx
  have nf := I1.nofrz hd trivial
  obtain ⟨od, I2⟩ := I1.lock hd trivial
  have hd2 : upd H1 d (.frz od (.dT kvs)) d = some (.frz od (.dT kvs)) := upd_same
  obtain ⟨hs, hgd, hx, es, ep, hdt, hsz, ent⟩ := I2.frzT hd2
  refine iter_keys hs hgd hx hdt (pi_one (tk := s1.toks) I2 _ (turn_keysT _ hdt) ⟨_, Heap.get?_push_size _ rfl, rfl, ?_⟩ (q od nf))
  rw [hsz] <;> rfl
end
section
variable {cl : Nat → Addr} {X : Cx} {W : WX} {iter tg : Expr} {body : List Stmt} {pos : Pos}
/-- for x in d: .., d an empty dict of tuple keys: nothing; else as over a value -/
def sForD (fe : SE) (g : SG) (fb : SS) : SS := fun σ h => match fe σ h with
  | .ok (.ref a) h1 => match h1[a]? with
    | some (.dt []) => .ok (.nx σ) h1
    | _ => sFor (iSeq fe) g fb σ h
  | _ => sFor (iSeq fe) g fb σ h
theorem ms_forD {fe : SE} {g : SG} {js : List Nat} {fb : SS} (hp : PassesOwn (model X.prog X.w) X.A X.env X.xe) (hc : X.calm = true) (he : PEm cl X W iter fe) (hg : PGm cl X tg g js) (hb : PSsm cl X W body fb)
    (hs : ∀ x, foldedSetIterable iter X.env x = pure x := by intro _; rfl) : PSm cl X W (.For tg iter body [] pos) (sForD fe g fb) := fun tk => by
  obtain ⟨t1, a1, b1⟩ := ms_for (pos := pos) hp hc (mi_seq (tg := tg) he) hg hb hs tk
  obtain ⟨te, h1, s1⟩ := he tk
  obtain ⟨tg', h2, s2⟩ := hg
  obtain ⟨tb, h3, s3⟩ := hb tk
  refine ⟨_, ps_or a1 (ps_un (ps_for hp hc (pi_lockT (tg := tg) h1) h2 h3 hs)), fun hid m h H σ' σ Dn r rs q => ?_⟩
  unfold sForD at q
  split at q
  · rename_i a h' ef
    split at q
    · rename_i ea
      refine .inr (s1 hid m h H σ' σ _ r rs ?_)
      rw [ef]
      intro m1 H1 u p1 k1 r1 v1
      obtain ⟨p, ep, eu⟩ := v1
      obtain ⟨ps, e1, e2⟩ := r1.ob a _ p ea ep
      have z : ps = [] := e2
      subst z
      refine ⟨p, [], eu, e1, fun od nf => ⟨fun i0 n0 σ2 H2 => i0 = 0 ∧ σ2 = σ ∧ H2 = upd H1 p (.frz od (.dT [])), ⟨0, rfl, rfl, rfl⟩, ?_⟩⟩
      rintro i0 n0 σ2 H2 ⟨rfl, rfl, rfl⟩
      refine .inl ⟨⟨upd_same, Nat.le_refl _⟩, p, od, .dT [], upd_same, nf, ?_⟩
      rw [upd_upd, show upd H1 p (.dT []) = H1 from by
        funext b
        by_cases hb : b = p
        · rw [hb, upd_same, e1]
        · rw [upd_ne hb]]
      exact q m1 H1 p1 k1 r1 σ2 (rs.mono p1 k1)
    · exact .inl (b1 hid m h H σ' σ Dn r rs q)
  · exact .inl (b1 hid m h H σ' σ Dn r rs q)
end
end Mi

namespace Mi
open PySem PySem.Spec PyProof.Rows L2
section
variable {cl : Nat → Addr} {X : Cx} {W : WX} {C : CE} {k : Nat} {o i value : Expr} {pos pos' : Pos} {to ti tv : TE}
def tOwnSet (cl : Nat → Addr) (X : Cx) (W : WX) (C : CE) (to ti tv : TE) : TS := fun D σ H => tv σ H fun v H1 => to σ H1 fun x H2 => ti σ H2 fun y H3 =>
  ∃ (c j : Nat) (a dx : Addr) (gs : List (Str × V)), C.dn c .set = some j ∧ x = .ref a ∧ H3 a = some (.ins (cl c) dx gs) ∧ spF cl X.K (C.call j) [x, y, v] H3 (fun _ H' => D.nx σ H') (atW W σ)
theorem ps_ownset (T : DunT cl X k C .set "__setitem__") (hr : Room k X.A) (tk : Takes X W) (ho : PE X o to) (hi : PE X i ti) (hv : PE X value tv) (hs : swapsWith value (some (.Subscript o i pos')) pos.line X.env = pure false) :
    PS X (.Assign [.Subscript o i pos'] value pos) (tOwnSet cl X W C to ti tv) := by
  refine ⟨fun pins s σ H D I h => ?_⟩
  refine wpAny_Assign_Subscript (thn (hv.run pins s σ H _ I h) fun r s1 ⟨v, H1, I1, rv, q1⟩ => thn (ho.run pins s1 σ H1 _ I1 q1) fun u s2 ⟨x, H2, I2, rx, q2⟩ => thn (hi.run pins s2 σ H2 _ I2 q2) fun iv s3 ⟨y, H3, I3, ry, q3⟩ => ?_) hs
  obtain ⟨c, j, a, dx, gs, e, rfl, ha, q⟩ := q3
  cases (show u = Value.ref a from rx)
  obtain ⟨⟨f, F⟩, _, hn⟩ := T c j e
  obtain ⟨ox, od, J⟩ := inst_at I3 ha
  obtain ⟨m, hF⟩ := I3.fr
  refine PySem.W.ksp_setItem hF I3.ok.mod.kin J hn F.at_ F.fn ?_
  refine wpAny_mono (run_call (us := [.ref a, iv, r]) (vs := [.ref a, y, v]) F.run hr tk I3 (.cons rfl (.cons ry (.cons rv .nil))) q) (fun w s' z => ?_) fun _ _ x => x
  obtain ⟨z', H', I', rz, qz⟩ := z
  exact ⟨σ, H', I', qz⟩
/-- o[i] = e by the class's own operator -/
def ssOwn (C : CE) (o i e : SE) : SS := fun σ h => (e σ h).to σ fun v h1 => (o σ h1).to σ fun x h2 => (i σ h2).to σ fun y h3 => match cls? x h3 with
  | some (c, _) => match C.dn c .set with
    | some j => (C.call j [x, y, v] h3).to σ fun _ h4 => .ok (.nx σ) h4
    | none => .bad
  | none => .bad
theorem ms_own (T : DunT cl X k C .set "__setitem__") (hr : Room k X.A) {fo fi fe : SE} (ho : PEm cl X W o fo) (hi : PEm cl X W i fi) (hv : PEm cl X W value fe) (hs : swapsWith value (some (.Subscript o i pos')) pos.line X.env = pure false := by rfl) :
    PSm cl X W (.Assign [.Subscript o i pos'] value pos) (ssOwn C fo fi fe) := fun tk => by
  obtain ⟨to, h2, s2⟩ := ho tk
  obtain ⟨ti, h3, s3⟩ := hi tk
  obtain ⟨te, h4, s4⟩ := hv tk
  refine ⟨_, ps_ownset T hr tk h2 h3 h4 hs, fun hid m h H σ' σ Dn r rs q => s4 hid m h H σ' σ _ r rs (PostS.to rs q fun v h1 m1 H1 u _ p1 k1 r1 v1 q1 => ?_)⟩
  refine s2 hid m1 h1 H1 σ' σ _ r1 (rs.mono p1 k1) (PostS.to (rs.mono p1 k1) q1 fun l h2 m2 H2 ul _ p2 k2 r2 v2 q2 => ?_)
  refine s3 hid m2 h2 H2 σ' σ _ r2 ((rs.mono p1 k1).mono p2 k2) (PostS.to ((rs.mono p1 k1).mono p2 k2) q2 fun j h3 m3 H3 uj _ p3 k3 r3 v3 q3 => ?_)
  have rs3 := ((rs.mono p1 k1).mono p2 k2).mono p3 k3
  have v2' := VR.mono p3 k3 _ _ v2
  have v1' := VR.mono p3 k3 _ _ (VR.mono p2 k2 _ _ v1)
  split at q3
  · rename_i c fs e
    split at q3
    · rename_i jj ej
      obtain ⟨a, dx, gs, rfl, h5, h6, _⟩ := cls_get r3 v2' e
      refine ⟨c, jj, a, dx, gs, ej, rfl, h5, hid, m3, h3, [l, j, v], r3, ⟨_, _, rfl, v2', _, _, rfl, v3, _, _, rfl, v1', rfl⟩, ?_⟩
      exact PostS.to (rel := relV X.K) rs3 q3 fun w h4 m4 H4 uw _ p4 k4 r4 v4 q4 => PostS.now (W := W) q4 r4 (rs3.mono p4 k4)
    · exact q3.elim
  · exact q3.elim
end
end Mi

namespace Mi
open PySem PySem.Spec PyProof.Rows L2
def kCons1 (as : SA) (σ : Sl) : AV → AH → R (List AV) := fun v h => (as σ h).bind fun vs h2 => .ok (v :: vs) h2
def kCons2 (v : AV) : List AV → AH → R (List AV) := fun vs h2 => .ok (v :: vs) h2
def kOp2 (g : AV → AV → AH → R AV) (e2 : SE) (σ : Sl) : AV → AH → R AV := fun x h1 => (e2 σ h1).bind fun y h2 => g x y h2
def kOp2b (g : AV → AV → AH → R AV) (x : AV) : AV → AH → R AV := fun y h2 => g x y h2
def kTup : List AV → AH → R AV := fun xs h => if xs.length ≤ sizeLine then .ok (.tup xs) h else .bad
def kLst (b : Bool) : List AV → AH → R AV := fun xs h => if xs.length ≤ sizeLine then newL b xs h else .bad
def kSeq (b : SS) : Fl → AH → RS := fun f h1 => match f with | .nx σ1 => b σ1 h1 | f => .ok f h1
def kSet (i : Nat) (σ : Sl) : AV → AH → RS := fun v h1 => .ok (.nx (σ.set i (some v))) h1
def kExpr (σ : Sl) : AV → AH → RS := fun _ h1 => .ok (.nx σ) h1
def kRet : AV → AH → RS := fun v h1 => .ok (.rt v) h1
def kIf (a b : SS) (σ : Sl) : Bool → AH → RS := fun x h1 => if x then a σ h1 else b σ h1
def kIfE (a b : SE) (σ : Sl) : Bool → AH → R AV := fun x h1 => if x then a σ h1 else b σ h1
def kBl : AV → AH → R Bool := fun v h1 => match v with | .bl b => .ok b h1 | _ => .bad
def kTru : AV → AH → R Bool := fun v h1 => match tru v h1 with | some b => .ok b h1 | none => .bad
def kAnd (u : SB) (σ : Sl) : Bool → AH → R Bool := fun x h1 => if x then u σ h1 else .ok false h1
def kOr (u : SB) (σ : Sl) : Bool → AH → R Bool := fun x h1 => if x then .ok true h1 else u σ h1
def kNot : Bool → AH → R Bool := fun x h1 => .ok (!x) h1
def kSAnd (f : SE) (σ : Sl) : AV → AH → R AV := fun x h1 => match x with | .bl true => f σ h1 | .bl false => .ok (.bl false) h1 | _ => .bad
def kSOr (f : SE) (σ : Sl) : AV → AH → R AV := fun x h1 => match x with | .bl true => .ok (.bl true) h1 | .bl false => f σ h1 | _ => .bad
def kSNot : AV → AH → R AV := fun x h1 => match x with | .bl b => .ok (.bl (!b)) h1 | _ => .bad
def kUnp (g : SG) (σ : Sl) : AV → AH → RS := fun v h1 => match g v σ with | some σ1 => .ok (.nx σ1) h1 | none => .bad
def kSix1 (o x : SE) (σ : Sl) : AV → AH → RS := fun v h1 => (o σ h1).to σ fun l h2 => (x σ h2).to σ fun j h3 => match oSetIx l j v h3 with | some h4 => .ok (.nx σ) h4 | none => .bad
def kSix2 (x : SE) (σ : Sl) (v : AV) : AV → AH → RS := fun l h2 => (x σ h2).to σ fun j h3 => match oSetIx l j v h3 with | some h4 => .ok (.nx σ) h4 | none => .bad
def kSix3 (σ : Sl) (v l : AV) : AV → AH → RS := fun j h3 => match oSetIx l j v h3 with | some h4 => .ok (.nx σ) h4 | none => .bad
def kPut1 (o x : SE) (σ : Sl) : AV → AH → RS := fun v h1 => (o σ h1).to σ fun l h2 => (x σ h2).to σ fun j h3 => match dPutA l j v h3 with | some h4 => .ok (.nx σ) h4 | none => .bad
def kPut2 (x : SE) (σ : Sl) (v : AV) : AV → AH → RS := fun l h2 => (x σ h2).to σ fun j h3 => match dPutA l j v h3 with | some h4 => .ok (.nx σ) h4 | none => .bad
def kPut3 (σ : Sl) (v l : AV) : AV → AH → RS := fun j h3 => match dPutA l j v h3 with | some h4 => .ok (.nx σ) h4 | none => .bad
def kBm1 (ty : AV → AH → Bool) (m : AV → List AV → AH → R AV) (as : SA) (σ : Sl) : AV → AH → R AV := fun v h1 => if ty v h1 then (as σ h1).bind fun vs h2 => m v vs h2 else .bad
def kBm2 (m : AV → List AV → AH → R AV) (v : AV) : List AV → AH → R AV := fun vs h2 => m v vs h2
def kCh1 (f g : AV → AV → AH → R AV) (e2 e3 : SE) (σ : Sl) : AV → AH → R AV := fun x h1 => (e2 σ h1).bind fun y h2 => (f x y h2).bind fun z h3 => match z with | .bl true => (e3 σ h3).bind fun u h4 => g y u h4 | .bl false => .ok (.bl false) h3 | _ => .bad
def kCh2 (f g : AV → AV → AH → R AV) (e3 : SE) (σ : Sl) (x : AV) : AV → AH → R AV := fun y h2 => (f x y h2).bind fun z h3 => match z with | .bl true => (e3 σ h3).bind fun u h4 => g y u h4 | .bl false => .ok (.bl false) h3 | _ => .bad
def kCh3 (g : AV → AV → AH → R AV) (e3 : SE) (σ : Sl) (y : AV) : AV → AH → R AV := fun z h3 => match z with | .bl true => (e3 σ h3).bind fun u h4 => g y u h4 | .bl false => .ok (.bl false) h3 | _ => .bad
def kDeep (n : Nat) : AV → AH → R AV := fun v h1 => .ok (deepV n v h1).1 (deepV n v h1).2
def kDeepO (n : Nat) : AV → AH → R AV := fun v h1 => match v with | .ref a => (match deepO n a h1 with | some h2 => .ok v h2 | none => .bad) | _ => .bad
def kCut1 (b : Bool) (lo hi : SO) (σ : Sl) : AV → AH → R AV := fun v h1 => (lo σ h1).bind fun l h2 => (hi σ h2).bind fun u h3 => bCut b v l u h3
def kCut2 (b : Bool) (hi : SO) (σ : Sl) (v : AV) : Option Int → AH → R AV := fun l h2 => (hi σ h2).bind fun u h3 => bCut b v l u h3
def kCut3 (b : Bool) (v : AV) (l : Option Int) : Option Int → AH → R AV := fun u h3 => bCut b v l u h3
def kSome : AV → AH → R (Option Int) := fun v h1 => match v with | .int i => .ok (some i) h1 | _ => .bad
def kFld (c : Nat) (f : Str) : AV → AH → R AV := fun v h => match cls? v h with
  | some (c', fs) => if c' = c then match fs.lookup f with
      | some w => .ok w h
      | none => .bad
    else .bad
  | none => .bad
section
variable {σ σ1 : Sl} {h h1 : AH} {a b : SS} {e e1 e2 e3 : SE} {as : SA} {t u : SB} {i n c : Nat} {v w x y z l j : AV} {vs : List AV} {f : AV → AH → R AV} {f2 g : AV → AV → AH → R AV} {gN : List AV → AH → R AV} {C : CE}
@[simp] theorem e_var : sVar i σ h = (match σ[i]? with | some (some v) => .ok v h | _ => .bad) := (rfl)
@[simp] theorem e_K : sK v σ h = .ok v h := (rfl)
@[simp] theorem e_nil : aNil σ h = .ok [] h := (rfl)
@[simp] theorem e_cons : aCons e as σ h = (e σ h).bind (kCons1 as σ) := (rfl)
@[simp] theorem k_cons1 : kCons1 as σ v h = (as σ h).bind (kCons2 v) := (rfl)
@[simp] theorem k_cons2 : kCons2 v vs h = .ok (v :: vs) h := (rfl)
@[simp] theorem e_op1 : op1 f e σ h = (e σ h).bind f := (rfl)
@[simp] theorem e_op2 : op2 g e1 e2 σ h = (e1 σ h).bind (kOp2 g e2 σ) := (rfl)
@[simp] theorem k_op2 : kOp2 g e2 σ x h = (e2 σ h).bind (kOp2b g x) := (rfl)
@[simp] theorem k_op2b : kOp2b g x y h = g x y h := (rfl)
@[simp] theorem e_opN : opN gN as σ h = (as σ h).bind gN := (rfl)
@[simp] theorem e_tup : sTup as σ h = (as σ h).bind kTup := (rfl)
@[simp] theorem k_tup : kTup vs h = if vs.length ≤ sizeLine then .ok (.tup vs) h else .bad := (rfl)
@[simp] theorem e_lst {b : Bool} : sLst b as σ h = (as σ h).bind (kLst b) := (rfl)
@[simp] theorem k_lst {b : Bool} : kLst b vs h = if vs.length ≤ sizeLine then newL b vs h else .bad := (rfl)
@[simp] theorem newL_t {xs : List AV} : newL true xs h = .ok (.ref h.length) (h ++ [.lst xs]) := (rfl)
@[simp] theorem newL_f {xs : List AV} : newL false xs h = .ok (.fl xs) h := (rfl)
@[simp] theorem e_seq : ssSeq a b σ h = (a σ h).bind (kSeq b) := (rfl)
@[simp] theorem k_seqn : kSeq b (.nx σ) h = b σ h := (rfl)
@[simp] theorem k_seqr : kSeq b (.rt v) h = .ok (.rt v) h := (rfl)
@[simp] theorem e_set : ssSet i e σ h = (e σ h).to σ (kSet i σ) := (rfl)
@[simp] theorem k_set : kSet i σ v h = .ok (.nx (σ.set i (some v))) h := (rfl)
@[simp] theorem e_expr : ssExpr e σ h = (e σ h).to σ (kExpr σ) := (rfl)
@[simp] theorem k_expr : kExpr σ v h = .ok (.nx σ) h := (rfl)
@[simp] theorem e_ret : ssRet e σ h = (e σ h).to σ kRet := (rfl)
@[simp] theorem k_ret : kRet v h = .ok (.rt v) h := (rfl)
@[simp] theorem e_retN : ssRetN σ h = .ok (.rt .non) h := (rfl)
@[simp] theorem e_nils : ssNil σ h = .ok (.nx σ) h := (rfl)
@[simp] theorem e_if : ssIf t a b σ h = (t σ h).to σ (kIf a b σ) := (rfl)
@[simp] theorem k_ift : kIf a b σ true h = a σ h := (rfl)
@[simp] theorem k_iff : kIf a b σ false h = b σ h := (rfl)
@[simp] theorem e_ifE {f : SE} : sIfE t e f σ h = (t σ h).bind (kIfE e f σ) := (rfl)
@[simp] theorem k_ifEt {f : SE} : kIfE e f σ true h = e σ h := (rfl)
@[simp] theorem k_ifEf {f : SE} : kIfE e f σ false h = f σ h := (rfl)
@[simp] theorem e_bl : tBl e σ h = (e σ h).bind kBl := (rfl)
@[simp] theorem k_bl {b : Bool} : kBl (.bl b) h = .ok b h := (rfl)
@[simp] theorem e_tru : tTru e σ h = (e σ h).bind kTru := (rfl)
@[simp] theorem k_trub {b : Bool} : kTru (.bl b) h = .ok b h := (rfl)
@[simp] theorem k_trun : kTru .non h = .ok false h := (rfl)
@[simp] theorem e_and : tAnd t u σ h = (t σ h).bind (kAnd u σ) := (rfl)
@[simp] theorem k_andt : kAnd u σ true h = u σ h := (rfl)
@[simp] theorem k_andf : kAnd u σ false h = .ok false h := (rfl)
@[simp] theorem e_or : tOr t u σ h = (t σ h).bind (kOr u σ) := (rfl)
@[simp] theorem k_ort : kOr u σ true h = .ok true h := (rfl)
@[simp] theorem k_orf : kOr u σ false h = u σ h := (rfl)
@[simp] theorem e_not : tNot t σ h = (t σ h).bind kNot := (rfl)
@[simp] theorem k_not {x : Bool} : kNot x h = .ok (!x) h := (rfl)
@[simp] theorem e_yes : Mi.tYes σ h = .ok true h := (rfl)
@[simp] theorem e_sand {f : SE} : sAnd e f σ h = (e σ h).bind (kSAnd f σ) := (rfl)
@[simp] theorem k_sandt {f : SE} : kSAnd f σ (.bl true) h = f σ h := (rfl)
@[simp] theorem k_sandf {f : SE} : kSAnd f σ (.bl false) h = .ok (.bl false) h := (rfl)
@[simp] theorem e_sor {f : SE} : sOr e f σ h = (e σ h).bind (kSOr f σ) := (rfl)
@[simp] theorem k_sort {f : SE} : kSOr f σ (.bl true) h = .ok (.bl true) h := (rfl)
@[simp] theorem k_sorf {f : SE} : kSOr f σ (.bl false) h = f σ h := (rfl)
@[simp] theorem e_snot : sNot e σ h = (e σ h).bind kSNot := (rfl)
@[simp] theorem k_snot {b : Bool} : kSNot (.bl b) h = .ok (.bl (!b)) h := (rfl)
@[simp] theorem e_unp {gt : SG} : ssUnp gt e σ h = (e σ h).to σ (kUnp gt σ) := (rfl)
@[simp] theorem k_unp {gt : SG} : kUnp gt σ v h = (match gt v σ with | some σ1 => .ok (.nx σ1) h | none => .bad) := (rfl)
@[simp] theorem e_gtp {is : List Nat} {xs : List AV} : gTp is (.tup xs) σ = gsN is xs σ := (rfl)
@[simp] theorem e_gsn : gsN [] [] σ = some σ := (rfl)
@[simp] theorem e_gsc {is : List Nat} : gsN (i :: is) (v :: vs) σ = gsN is vs (σ.set i (some v)) := (rfl)
@[simp] theorem e_gnm : gNm i v σ = some (σ.set i (some v)) := (rfl)
@[simp] theorem e_six {o x : SE} : ssIx o x e σ h = (e σ h).to σ (kSix1 o x σ) := (rfl)
@[simp] theorem k_six1 {o x : SE} : kSix1 o x σ v h = (o σ h).to σ (kSix2 x σ v) := (rfl)
@[simp] theorem k_six2 {x : SE} : kSix2 x σ v l h = (x σ h).to σ (kSix3 σ v l) := (rfl)
@[simp] theorem k_six3 : kSix3 σ v l j h = (match oSetIx l j v h with | some h4 => .ok (.nx σ) h4 | none => .bad) := (rfl)
@[simp] theorem e_dput {o x : SE} : ssDPut o x e σ h = (e σ h).to σ (kPut1 o x σ) := (rfl)
@[simp] theorem k_put1 {o x : SE} : kPut1 o x σ v h = (o σ h).to σ (kPut2 x σ v) := (rfl)
@[simp] theorem k_put2 {x : SE} : kPut2 x σ v l h = (x σ h).to σ (kPut3 σ v l) := (rfl)
@[simp] theorem k_put3 : kPut3 σ v l j h = (match dPutA l j v h with | some h4 => .ok (.nx σ) h4 | none => .bad) := (rfl)
@[simp] theorem e_call : sCall C n as σ h = (as σ h).bind (C.call n) := (rfl)
@[simp] theorem e_bm {ty : AV → AH → Bool} {m : AV → List AV → AH → R AV} : sBm ty m e as σ h = (e σ h).bind (kBm1 ty m as σ) := (rfl)
@[simp] theorem k_bm1 {ty : AV → AH → Bool} {m : AV → List AV → AH → R AV} : kBm1 ty m as σ v h = if ty v h = true then (as σ h).bind (kBm2 m v) else .bad := (rfl)
@[simp] theorem k_bm2 {m : AV → List AV → AH → R AV} : kBm2 m v vs h = m v vs h := (rfl)
@[simp] theorem e_chain : sChain f2 g e1 e2 e3 σ h = (e1 σ h).bind (kCh1 f2 g e2 e3 σ) := (rfl)
@[simp] theorem k_ch1 : kCh1 f2 g e2 e3 σ x h = (e2 σ h).bind (kCh2 f2 g e3 σ x) := (rfl)
@[simp] theorem k_ch2 : kCh2 f2 g e3 σ x y h = (f2 x y h).bind (kCh3 g e3 σ y) := (rfl)
@[simp] theorem k_ch3t : kCh3 g e3 σ y (.bl true) h = (e3 σ h).bind (kOp2b g y) := (rfl)
@[simp] theorem k_ch3f : kCh3 g e3 σ y (.bl false) h = .ok (.bl false) h := (rfl)
@[simp] theorem e_arg1 : arg1 f [v] h = f v h := (rfl)
@[simp] theorem e_deep : deepE n e σ h = (e σ h).bind (kDeep n) := (rfl)
@[simp] theorem k_deep : kDeep n v h = .ok (deepV n v h).1 (deepV n v h).2 := (rfl)
@[simp] theorem e_deepS {g : SS} : ssDeep n i g σ h = (match σ[i]? with | some (some v) => g (σ.set i (some (deepV n v h).1)) (deepV n v h).2 | _ => .bad) := (rfl)
@[simp] theorem e_deepO : deepOE n e σ h = (e σ h).bind (kDeepO n) := (rfl)
@[simp] theorem k_deepO {a : Nat} : kDeepO n (.ref a) h = (match deepO n a h with | some h2 => .ok (.ref a) h2 | none => .bad) := (rfl)
@[simp] theorem e_oNone : oNone σ h = .ok none h := (rfl)
@[simp] theorem e_oSome : oSome e σ h = (e σ h).bind kSome := (rfl)
@[simp] theorem k_some {i : Int} : kSome (.int i) h = .ok (some i) h := (rfl)
@[simp] theorem e_cut {b : Bool} {lo hi : SO} : sCut b e lo hi σ h = (e σ h).bind (kCut1 b lo hi σ) := (rfl)
@[simp] theorem k_cut1 {b : Bool} {lo hi : SO} : kCut1 b lo hi σ v h = (lo σ h).bind (kCut2 b hi σ v) := (rfl)
@[simp] theorem k_cut2 {b : Bool} {hi : SO} {l : Option Int} : kCut2 b hi σ v l h = (hi σ h).bind (kCut3 b v l) := (rfl)
@[simp] theorem k_cut3 {b : Bool} {l u : Option Int} : kCut3 b v l u h = bCut b v l u h := (rfl)
@[simp] theorem e_fld {f : Str} : sFld c f e σ h = (e σ h).bind (kFld c f) := (rfl)
theorem k_fld {f : Str} {a : Nat} {fs : Fs} (q : h[a]? = some (.ins c fs)) : kFld c f (.ref a) h = (match fs.lookup f with | some w => .ok w h | none => .bad) := by simp [kFld, cls?, q]
@[simp] theorem e_endnx : endF (.ok (.nx σ) h) = .ok .non h := (rfl)
@[simp] theorem e_endrt : endF (.ok (.rt v) h) = .ok v h := (rfl)
@[simp] theorem e_endex {c : Nat} {fs : Fs} : endF (.ex c fs σ h) = .ex c fs h := (rfl)
@[simp] theorem v_lt {i j : Int} : oLt (.int i) (.int j) h = .ok (.bl (decide (i < j))) h := (rfl)
@[simp] theorem v_gt {i j : Int} : oGt (.int i) (.int j) h = .ok (.bl (decide (j < i))) h := (rfl)
@[simp] theorem v_ge {i j : Int} : oGe (.int i) (.int j) h = .ok (.bl (decide (j ≤ i))) h := (rfl)
@[simp] theorem v_le {i j : Int} : oLe C (.int i) (.int j) h = .ok (.bl (decide (i ≤ j))) h := (rfl)
@[simp] theorem v_leI {i j : Int} : oLeI (.int i) (.int j) h = .ok (.bl (decide (i ≤ j))) h := (rfl)
@[simp] theorem v_add {b : Bool} {i j : Int} : oAdd b (.int i) (.int j) h = .ok (.int (i + j)) h := (rfl)
@[simp] theorem v_sub {i j : Int} : oSub C (.int i) (.int j) h = .ok (.int (i - j)) h := (rfl)
@[simp] theorem v_int {i : Int} : bInt (.int i) h = .ok (.int i) h := (rfl)
@[simp] theorem v_ixfl {xs : List AV} {i : Int} : oIxA C (.fl xs) (.int i) h = (match L2.atI xs i with | some w => .ok w h | none => .bad) := (rfl)
@[simp] theorem v_ixtup {xs : List AV} {i : Int} : oIxA C (.tup xs) (.int i) h = (match L2.atI xs i with | some w => .ok w h | none => .bad) := (rfl)
@[simp] theorem v_lenfl {xs : List AV} : bLenA C (.fl xs) h = .ok (.int xs.length) h := (rfl)
@[simp] theorem v_lentup {xs : List AV} : bLenA C (.tup xs) h = .ok (.int xs.length) h := (rfl)
@[simp] theorem v_lenctp {xs : List Str} : bLenA C (.ctp xs) h = .ok (.int xs.length) h := by simp [bLenA, dLen, bLen, seqOf]
theorem v_ixlst {xs : List AV} {a : Nat} {i : Int} (q : h[a]? = some (.lst xs)) : oIxA C (.ref a) (.int i) h = (match L2.atI xs i with | some w => .ok w h | none => .bad) := by
  simp [oIxA, dGetA, cls?, oIx, seqOf, q] <;> rfl
theorem v_setlst {xs : List AV} {a : Nat} {i : Int} (q : h[a]? = some (.lst xs)) : oSetIx (.ref a) (.int i) v h = (match L2.ixN xs.length i with | some k => some (h.set a (.lst (xs.set k v))) | none => none) := by
  simp [oSetIx, q] <;> rfl
theorem v_mul {i j : Int} (q : -(2 ^ 64) < j ∧ j < 2 ^ 64) : oMul (.int i) (.int j) h = .ok (.int (i * j)) h := by
  unfold oMul; simp only; rw [if_pos (.inr q)]
theorem v_mod {i j : Int} (q : 0 < j) : oMod (.int i) (.int j) h = .ok (.int (i % j)) h := by
  unfold oMod; simp only; rw [if_pos q]
theorem v_div {i j : Int} (q : 0 < j ∧ j < 1073741824) : oDiv (.int i) (.int j) h = .ok (.int (i / j)) h := by
  unfold oDiv; simp only; rw [if_pos q]
@[simp] theorem v_pow10 : oPow (.int 10) (.int 18) h = .ok (.int 1000000000000000000) h := by
  simp [oPow]
end
@[simp] theorem trim_len {h h' : AH} {v : AV} (q : h'.length = h.length) : trimR 0 h (.ok v h') = .ok v h' := by
  unfold trimR
  dsimp only
  split
  · rw [Nat.add_zero, ← q, List.take_length]
  · rfl
theorem trim_app {h X : AH} {v : AV} (c : clean h.length v = true) : trimR 0 h (.ok v (h ++ X)) = .ok v h := by
  unfold trimR
  dsimp only
  rw [if_pos ⟨by simp, by simpa using c, fun i o hi e => .inl ⟨by simpa using hi, by
    rw [List.getElem?_append_left (by simpa using hi)] at e; exact e⟩⟩]
  simp
abbrev tp (a b c : Int) (ns : List Int) : AO := .lst [.int a, .int b, .int c, .fl (ns.map .int)]
@[simp] theorem atI0 {x : AV} {r : List AV} : L2.atI (x :: r) 0 = some x := by simp [L2.atI, L2.ixN]
@[simp] theorem at4_1 {x0 x1 x2 x3 : AV} : L2.atI [x0, x1, x2, x3] 1 = some x1 := by simp [L2.atI, L2.ixN]
@[simp] theorem at4_2 {x0 x1 x2 x3 : AV} : L2.atI [x0, x1, x2, x3] 2 = some x2 := by simp [L2.atI, L2.ixN]
@[simp] theorem at4_3 {x0 x1 x2 x3 : AV} : L2.atI [x0, x1, x2, x3] 3 = some x3 := by simp [L2.atI, L2.ixN]
end Mi

namespace Mi
open PySem PySem.Spec PyProof.Rows L2
theorem ce_call {bod : Bod} {pd : PD} {n f : Nat} : (ceN bod pd n).call f = callN bod pd n f := rfl
theorem ce_mak {bod : Bod} {pd : PD} {n f : Nat} : (ceN bod pd n).mak f = callN bod pd n f := rfl
theorem ce_dn {bod : Bod} {pd : PD} {n : Nat} : (ceN bod pd n).dn = pd.dn := rfl
theorem ce_it {bod : Bod} {pd : PD} {n : Nat} : (ceN bod pd n).it = pd.it := rfl
def kIs : AV → AH → R Src := fun v h1 => match v with
  | .tup xs => .ok (.tup xs) h1
  | .ctp ss => .ok (.tup (ss.map .str)) h1
  | .fl xs => .ok (.tup xs) h1
  | .scr ns => .ok (.tup (ns.map .int)) h1
  | .str x => .ok (.tup (x.cps.toList.map fun c => .str ⟨#[c]⟩)) h1
  | .fk ks _ => .ok (.tup (ks.map kyA)) h1
  | .ft ks _ => .ok (.tup (ks.map fun k => .tup (k.map kyA))) h1
  | .ref a => match h1[a]? with
    | some (.lst _) => .ok (.lst a) h1
    | _ => .bad
  | _ => .bad
def kRng : AV → AH → R Src := fun v h1 => match v with
  | .int j => if -(2 ^ 62) ≤ j ∧ j < 2 ^ 62 then .ok (.rng 0 j.toNat) h1 else .bad
  | _ => .bad
section
variable {σ : Sl} {h h1 : AH} {e : SE} {xs : List AV} {ss : List Str} {v : AV}
@[simp] theorem e_iSeq : iSeq e σ h = (e σ h).bind kIs := (rfl)
@[simp] theorem k_isTup : kIs (.tup xs) h = .ok (.tup xs) h := (rfl)
@[simp] theorem k_isCtp : kIs (.ctp ss) h = .ok (.tup (ss.map .str)) h := (rfl)
@[simp] theorem k_isFl : kIs (.fl xs) h = .ok (.tup xs) h := (rfl)
@[simp] theorem k_isStr {x : Str} : kIs (.str x) h = .ok (.tup (x.cps.toList.map fun c => .str ⟨#[c]⟩)) h := (rfl)
@[simp] theorem k_isFk {ks : List Ky} {vs : List AV} : kIs (.fk ks vs) h = .ok (.tup (ks.map kyA)) h := (rfl)
@[simp] theorem k_isFt {ks : List (List Ky)} {vs : List AV} : kIs (.ft ks vs) h = .ok (.tup (ks.map fun k => .tup (k.map kyA))) h := (rfl)
theorem k_isRef {a : Nat} (q : h[a]? = some (.lst xs)) : kIs (.ref a) h = .ok (.lst a) h := by simp [kIs, q]
@[simp] theorem e_iRng1 : Mi.iRng1 e σ h = (e σ h).bind kRng := (rfl)
theorem k_rng {j : Int} (q0 : 0 ≤ j) (q : j < 1000) : kRng (.int j) h = .ok (.rng 0 j.toNat) h := by
  show (if _ then _ else _) = _
  rw [if_pos ⟨by omega, by omega⟩]
theorem k_rngN {n : Nat} (q : n < 1000) : kRng (.int n) h = .ok (.rng 0 n) h := by
  rw [k_rng (by omega) (by omega)]; rfl
@[simp] theorem len_tup : (Src.tup xs).len h = xs.length := (rfl)
@[simp] theorem len_rng {lo : Int} {n : Nat} : (Src.rng lo n).len h = n := (rfl)
theorem len_lst {a : Nat} (q : h[a]? = some (.lst xs)) : (Src.lst a).len h = xs.length := by simp [Src.len, q]
@[simp] theorem at_tup {i : Nat} : (Src.tup xs).at i h = some xs[i]? := (rfl)
theorem at_lst {a i : Nat} (q : h[a]? = some (.lst xs)) : (Src.lst a).at i h = some xs[i]? := by simp [Src.at, q]
abbrev rngL (n : Nat) : List AV := (List.range n).map fun i => .int (i : Nat)
theorem at_rng {n i : Nat} : (Src.rng 0 n).at i h = some (rngL n)[i]? := by
  unfold Src.at
  dsimp only
  rw [List.getElem?_map]
  by_cases hi : i < n
  · rw [if_pos hi, List.getElem?_range hi]; simp
  · rw [if_neg hi, List.getElem?_eq_none (by simpa using hi)]; rfl
/-- what a loop walks, told by its items -/
def SrcIs (s : Src) (h : AH) (xs : List AV) : Prop := s.len h = xs.length ∧ ∀ i, s.at i h = some xs[i]?
theorem src_tupI : SrcIs (.tup xs) h xs := ⟨rfl, fun _ => rfl⟩
theorem src_lstI {a : Nat} (q : h[a]? = some (.lst xs)) : SrcIs (.lst a) h xs := ⟨len_lst q, fun _ => at_lst q⟩
theorem src_rngI {n : Nat} : SrcIs (.rng 0 n) h (rngL n) := ⟨by simp [Src.len], fun _ => at_rng⟩
/-- a list or tuple that is walked -/
theorem isrc_of (q : seqOf v h = some xs) : ∃ s, kIs v h = .ok s h ∧ SrcIs s h xs := by
  cases v with
  | tup ys => cases q; exact ⟨_, rfl, src_tupI⟩
  | ctp ys => cases q; exact ⟨_, rfl, src_tupI⟩
  | fl ys => cases q; exact ⟨_, rfl, src_tupI⟩
  | scr ys => cases q; exact ⟨_, rfl, src_tupI⟩
  | ref a =>
    simp only [seqOf] at q
    split at q
    · rename_i ys e
      cases q
      exact ⟨_, k_isRef e, src_lstI e⟩
    · cases q
  | _ => cases q
theorem seq_of_lst (q : lstOf v h = some xs) : seqOf v h = some xs := by
  cases v with
  | fl ys => exact q
  | ref a => exact q
  | _ => cases q
end
theorem lcF_ok {s : Src} {xs : List AV} {g : SG} {t : SB} {e : SE} {σ : Sl} {h : AH} (hat : ∀ i, s.at i h = some xs[i]?) (p : AV → Bool) (f : AV → AV)
    (st : ∀ x ∈ xs, ∃ σ1, g x σ = some σ1 ∧ t σ1 h = .ok (p x) h ∧ (p x = true → e σ1 h = .ok (f x) h)) : ∀ (k i : Nat) (acc : List AV), xs.length = i + k → acc.length + k < sizeLine → lcF s g t e σ k i acc h = .ok (.fl (acc ++ ((xs.drop i).filter p).map f)) h := by
  intro k
  induction k with
  | zero =>
    intro i acc hl hz
    unfold lcF
    rw [hat i, List.getElem?_eq_none (by omega), List.drop_eq_nil_of_le (by omega)]
    simp
  | succ k ih =>
    intro i acc hl hz
    have hi : i < xs.length := by omega
    have hd : xs.drop i = xs[i] :: xs.drop (i + 1) := List.drop_eq_getElem_cons hi
    obtain ⟨σ1, h1, h2, h3⟩ := st xs[i] (List.getElem_mem hi)
    unfold lcF
    rw [hat i, List.getElem?_eq_getElem hi]
    dsimp only
    rw [h1]
    dsimp only
    rw [h2]
    cases hp : p xs[i] with
    | true =>
      dsimp only
      rw [h3 hp]
      dsimp only
      rw [if_pos (by omega), ih (i + 1) _ (by omega) (by simp; omega), hd, List.filter_cons, hp]
      simp
    | false =>
      dsimp only
      rw [ih (i + 1) acc (by omega) (by omega), hd, List.filter_cons, hp]
      simp
theorem sLcF_ok {it : SI} {s : Src} {xs : List AV} {g : SG} {t : SB} {e : SE} {vs : List Nat} {σ : Sl} {h h1 : AH} (hi : it σ h = .ok s h1) (hs : SrcIs s h1 xs) (hz : xs.length < sizeLine) (p : AV → Bool) (f : AV → AV)
    (st : ∀ x ∈ xs, ∃ σ1, g x (wipeA σ vs) = some σ1 ∧ t σ1 h1 = .ok (p x) h1 ∧ (p x = true → e σ1 h1 = .ok (f x) h1)) : sLcF it g t e vs σ h = .ok (.fl ((xs.filter p).map f)) h1 := by
  unfold sLcF
  rw [hi]
  simp only [bind_ok]
  rw [hs.1, lcF_ok hs.2 p f st xs.length 0 [] (by simp) (by simpa using hz)]
  simp
/-- no tests -/
theorem sLcF_map {it : SI} {s : Src} {xs : List AV} {j : Nat} {e : SE} {vs : List Nat} {σ : Sl} {h h1 : AH} (f : AV → AV) (hi : it σ h = .ok s h1) (hs : SrcIs s h1 xs) (hz : xs.length < sizeLine)
    (st : ∀ x ∈ xs, e ((wipeA σ vs).set j (some x)) h1 = .ok (f x) h1) : sLcF it (gNm j) Mi.tYes e vs σ h = .ok (.fl (xs.map f)) h1 := by
  rw [sLcF_ok (g := gNm j) (t := Mi.tYes) hi hs hz (fun _ => true) f fun x hx => ⟨_, rfl, rfl, fun _ => st x hx⟩, List.filter_eq_self.mpr (fun _ _ => rfl)]
/-- elements that change the arena -/
theorem lcF_inv {s : Src} {xs : List AV} {g : SG} {t : SB} {e : SE} {σ : Sl} (I : Nat → List AV → AH → Prop) (hat : ∀ i acc h, I i acc h → s.at i h = some xs[i]?)
    (st : ∀ i x acc h, xs[i]? = some x → I i acc h → acc.length < sizeLine ∧ ∃ σ1, g x σ = some σ1 ∧ ((∃ h2, t σ1 h = .ok false h2 ∧ I (i + 1) acc h2) ∨ ∃ h2 w h3, t σ1 h = .ok true h2 ∧ e σ1 h2 = .ok w h3 ∧ I (i + 1) (acc ++ [w]) h3)) :
    ∀ (k i : Nat) (acc : List AV) (h : AH), xs.length = i + k → I i acc h → ∃ acc2 h2, lcF s g t e σ k i acc h = .ok (.fl acc2) h2 ∧ I xs.length acc2 h2 := by
  intro k
  induction k with
  | zero =>
    intro i acc h hl hi
    unfold lcF
    rw [hat i acc h hi, List.getElem?_eq_none (by omega)]
    exact ⟨acc, h, rfl, by rw [hl]; exact hi⟩
  | succ k ih =>
    intro i acc h hl hi
    have hx : xs[i]? = some xs[i] := List.getElem?_eq_getElem (by omega)
    obtain ⟨hz, σ1, e1, q⟩ := st i _ acc h hx hi
    unfold lcF
    rw [hat i acc h hi, hx]
    dsimp only
    rw [e1]
    dsimp only
    rcases q with ⟨h2, e2, e3⟩ | ⟨h2, w, h3, e2, e3, e4⟩
    · rw [e2]
      exact ih (i + 1) acc h2 (by omega) e3
    · rw [e2]
      dsimp only
      rw [e3]
      dsimp only
      rw [if_pos hz]
      exact ih (i + 1) _ _ (by omega) e4
theorem sLcF_inv {it : SI} {s : Src} {xs : List AV} {g : SG} {t : SB} {e : SE} {vs : List Nat} {σ : Sl} {h h1 : AH} (I : Nat → List AV → AH → Prop) (hi : it σ h = .ok s h1) (hl : s.len h1 = xs.length) (hat : ∀ i acc h, I i acc h → s.at i h = some xs[i]?) (h0 : I 0 [] h1)
    (st : ∀ i x acc h, xs[i]? = some x → I i acc h → acc.length < sizeLine ∧ ∃ σ1, g x (wipeA σ vs) = some σ1 ∧ ((∃ h2, t σ1 h = .ok false h2 ∧ I (i + 1) acc h2) ∨ ∃ h2 w h3, t σ1 h = .ok true h2 ∧ e σ1 h2 = .ok w h3 ∧ I (i + 1) (acc ++ [w]) h3)) :
    ∃ acc2 h2, sLcF it g t e vs σ h = .ok (.fl acc2) h2 ∧ I xs.length acc2 h2 := by
  unfold sLcF
  rw [hi]
  simp only [bind_ok]
  rw [hl]
  exact lcF_inv I hat st xs.length 0 [] h1 (by simp) h0
/-- two clauses, pure -/
theorem lc2F_ok {s : Src} {xs : List AV} {g g1 : SG} {it1 : SI} {e : SE} {vs1 : List Nat} {σ : Sl} {h : AH} (hat : ∀ i, s.at i h = some xs[i]?) (f : AV → List AV)
    (st : ∀ x ∈ xs, ∃ σ1 s1 ys, g x σ = some σ1 ∧ it1 σ1 h = .ok s1 h ∧ SrcIs s1 h ys ∧ ys.length = (f x).length ∧ ∀ (i : Nat) y, ys[i]? = some y → ∃ σ2, g1 y (wipeA σ1 vs1) = some σ2 ∧ ∃ w, (f x)[i]? = some w ∧ e σ2 h = .ok w h) :
    ∀ (k i : Nat) (acc : List AV), xs.length = i + k → acc.length + ((xs.drop i).flatMap f).length < sizeLine → lc2F s g Mi.tYes it1 g1 Mi.tYes e vs1 σ k i acc h = .ok (.fl (acc ++ (xs.drop i).flatMap f)) h := by
  intro k
  induction k with
  | zero =>
    intro i acc hl hz
    unfold lc2F
    rw [hat i, List.getElem?_eq_none (by omega), List.drop_eq_nil_of_le (by omega)]
    simp
  | succ k ih =>
    intro i acc hl hz
    have hi : i < xs.length := by omega
    have hd : xs.drop i = xs[i] :: xs.drop (i + 1) := List.drop_eq_getElem_cons hi
    obtain ⟨σ1, s1, ys, h1, h2, h3, h4, h5⟩ := st xs[i] (List.getElem_mem hi)
    have inner : ∀ (k j : Nat) (acc : List AV), ys.length = j + k → acc.length + k < sizeLine → lcF s1 g1 Mi.tYes e (wipeA σ1 vs1) k j acc h = .ok (.fl (acc ++ (f xs[i]).drop j)) h := by
      intro k
      induction k with
      | zero =>
        intro j acc hl hz
        unfold lcF
        rw [h3.2 j, List.getElem?_eq_none (by omega), List.drop_eq_nil_of_le (by omega)]
        simp
      | succ k ih =>
        intro j acc hl hz
        have hj : j < ys.length := by omega
        obtain ⟨σ2, q1, w, q2, q3⟩ := h5 j ys[j] (List.getElem?_eq_getElem hj)
        unfold lcF
        rw [h3.2 j, List.getElem?_eq_getElem hj]
        dsimp only
        rw [q1]
        dsimp only
        rw [show Mi.tYes σ2 h = .ok true h from rfl]
        dsimp only
        rw [q3]
        dsimp only
        rw [if_pos (by omega), ih (j + 1) _ (by omega) (by simp; omega)]
        have hj2 : j < (f xs[i]).length := by omega
        rw [List.drop_eq_getElem_cons hj2]
        rw [List.getElem?_eq_getElem hj2] at q2
        cases q2
        simp
    rw [hd, List.flatMap_cons] at hz
    rw [List.length_append] at hz
    unfold lc2F
    rw [hat i, List.getElem?_eq_getElem hi]
    dsimp only
    rw [h1]
    dsimp only
    rw [show Mi.tYes σ1 h = .ok true h from rfl]
    dsimp only
    rw [h2]
    dsimp only
    rw [h3.1, inner ys.length 0 acc (by simp) (by omega)]
    dsimp only
    rw [List.drop_zero, ih (i + 1) _ (by omega) (by rw [List.length_append]; omega), hd, List.flatMap_cons, List.append_assoc]
theorem sLc2F_ok {it it1 : SI} {s : Src} {xs : List AV} {g g1 : SG} {e : SE} {vs vs1 : List Nat} {σ : Sl} {h h1 : AH} (f : AV → List AV) (hi : it σ h = .ok s h1) (hs : SrcIs s h1 xs) (hz : (xs.flatMap f).length < sizeLine)
    (st : ∀ x ∈ xs, ∃ σ1 s1 ys, g x (wipeA σ vs) = some σ1 ∧ it1 σ1 h1 = .ok s1 h1 ∧ SrcIs s1 h1 ys ∧ ys.length = (f x).length ∧ ∀ (i : Nat) y, ys[i]? = some y → ∃ σ2, g1 y (wipeA σ1 vs1) = some σ2 ∧ ∃ w, (f x)[i]? = some w ∧ e σ2 h1 = .ok w h1) :
    sLc2F it g Mi.tYes it1 g1 Mi.tYes e vs vs1 σ h = .ok (.fl (xs.flatMap f)) h1 := by
  unfold sLc2F
  rw [hi]
  simp only [bind_ok]
  rw [hs.1, lc2F_ok hs.2 f st xs.length 0 [] (by simp) (by simpa using hz)]
  simp
theorem forL_inv {s : Src} {xs : List AV} {g : SG} {b : SS} (I : Nat → Sl → AH → Prop) (P : AV → AH → Prop) (hat : ∀ i σ h, I i σ h → s.at i h = some xs[i]?)
    (step : ∀ i x σ h, xs[i]? = some x → I i σ h → ∃ σ1, g x σ = some σ1 ∧ ((∃ σ2 h2, b σ1 h = .ok (.nx σ2) h2 ∧ I (i + 1) σ2 h2) ∨ ∃ v h2, b σ1 h = .ok (.rt v) h2 ∧ P v h2)) :
    ∀ (k i : Nat) (σ : Sl) (h : AH), xs.length = i + k → I i σ h → (∃ σ2 h2, forL s g b k i σ h = .ok (.nx σ2) h2 ∧ I xs.length σ2 h2) ∨ ∃ v h2, forL s g b k i σ h = .ok (.rt v) h2 ∧ P v h2 := by
  intro k
  induction k with
  | zero =>
    intro i σ h hl hi
    unfold forL
    rw [hat i σ h hi, List.getElem?_eq_none (by omega)]
    exact .inl ⟨σ, h, rfl, by rw [hl]; exact hi⟩
  | succ k ih =>
    intro i σ h hl hi
    have hx : xs[i]? = some xs[i] := List.getElem?_eq_getElem (by omega)
    obtain ⟨σ1, e1, q⟩ := step i _ σ h hx hi
    unfold forL
    rw [hat i σ h hi, hx]
    dsimp only
    rw [e1]
    dsimp only
    rcases q with ⟨σ2, h2, e2, e3⟩ | ⟨v, h2, e2, e3⟩
    · rw [e2]
      simp only [sbind_ok]
      exact ih (i + 1) σ2 h2 (by omega) e3
    · rw [e2]
      simp only [sbind_ok]
      exact .inr ⟨v, h2, rfl, e3⟩
def kFor (g : SG) (b : SS) (σ : Sl) : Src → AH → RS := fun s h1 => forL s g b (s.len h1) 0 σ h1
@[simp] theorem e_for {it : SI} {g : SG} {b : SS} {σ : Sl} {h : AH} : sFor it g b σ h = (it σ h).to σ (kFor g b σ) := (rfl)
/-- a for that ends -/
theorem kFor_inv {s : Src} {xs : List AV} {g : SG} {b : SS} {σ : Sl} {h : AH} (I : Nat → Sl → AH → Prop) (hl : s.len h = xs.length) (hat : ∀ i σ h, I i σ h → s.at i h = some xs[i]?) (h0 : I 0 σ h)
    (step : ∀ i x σ h, xs[i]? = some x → I i σ h → ∃ σ1 σ2 h2, g x σ = some σ1 ∧ b σ1 h = .ok (.nx σ2) h2 ∧ I (i + 1) σ2 h2) : ∃ σ2 h2, kFor g b σ s h = .ok (.nx σ2) h2 ∧ I xs.length σ2 h2 := by
  unfold kFor
  rw [hl]
  rcases forL_inv I (fun _ _ => False) hat (fun i x σ h q1 q2 => by obtain ⟨σ1, σ2, h2, a, b, c⟩ := step i x σ h q1 q2; exact ⟨σ1, a, .inl ⟨σ2, h2, b, c⟩⟩) xs.length 0 σ h (by simp) h0 with z | ⟨_, _, _, z⟩
  · exact z
  · exact z.elim
theorem kFor_ret {s : Src} {xs : List AV} {g : SG} {b : SS} {σ : Sl} {h : AH} (I : Nat → Sl → AH → Prop) (P : AV → AH → Prop) (hl : s.len h = xs.length) (hat : ∀ i σ h, I i σ h → s.at i h = some xs[i]?) (h0 : I 0 σ h)
    (step : ∀ i x σ h, xs[i]? = some x → I i σ h → ∃ σ1, g x σ = some σ1 ∧ ((∃ σ2 h2, b σ1 h = .ok (.nx σ2) h2 ∧ I (i + 1) σ2 h2) ∨ ∃ v h2, b σ1 h = .ok (.rt v) h2 ∧ P v h2)) : (∃ σ2 h2, kFor g b σ s h = .ok (.nx σ2) h2 ∧ I xs.length σ2 h2) ∨ ∃ v h2, kFor g b σ s h = .ok (.rt v) h2 ∧ P v h2 := by
  unfold kFor
  rw [hl]
  exact forL_inv I P hat step xs.length 0 σ h (by simp) h0
/-- a loop that only looks: the arena stays, of the slots only the target's -/
theorem kFor_look {s : Src} {xs : List AV} {j : Nat} {b : SS} {σ : Sl} {h : AH} (hs : SrcIs s h xs) (step : ∀ x ∈ xs, ∀ τ : Sl, (∃ o, τ = σ.set j o) → b (τ.set j (some x)) h = .ok (.nx (τ.set j (some x))) h) : ∃ o, kFor (gNm j) b σ s h = .ok (.nx (σ.set j o)) h := by
  obtain ⟨σ2, h2, e, ⟨o, eo⟩, eh⟩ := kFor_inv (fun _ τ k => (∃ o, τ = σ.set j o) ∧ k = h) hs.1 (fun i τ k z => by rw [z.2]; exact hs.2 i) (by
    by_cases hj : j < σ.length
    · exact ⟨⟨σ[j], (List.set_getElem_self hj).symm⟩, rfl⟩
    · exact ⟨⟨none, by rw [List.set_eq_of_length_le (by omega)]⟩, rfl⟩) (fun i x τ k hx z => by
    obtain ⟨⟨o, eo⟩, ek⟩ := z
    subst ek
    exact ⟨_, _, _, rfl, step x (List.mem_of_getElem? hx) τ ⟨o, eo⟩, ⟨some x, by rw [eo, List.set_set]⟩, rfl⟩)
  subst eo eh
  exact ⟨o, e⟩
abbrev sts (xs : List Str) : List AV := xs.map .str
abbrev okS (x : Str) : Prop := PyData.strOk x = true
theorem toV_strs (xs : List Str) : omap toV (sts xs) = some (xs.map V.str) := by
  induction xs with
  | nil => rfl
  | cons x r ih => simp only [List.map_cons, omap, toV]; rw [ih]
theorem inV_strs (x : Str) (xs : List Str) : inV (V.str x) (xs.map V.str) = decide (x ∈ xs) := by
  unfold inV
  induction xs with
  | nil => rfl
  | cons y r ih =>
    rw [List.map_cons, List.any_cons, ih]
    show (y == x || decide (x ∈ r)) = _
    by_cases e : y = x
    · subst e; simp
    · simp [e, Ne.symm e]
theorem inS_strs (x : Str) (xs : List Str) : inS (.str x) (sts xs) = some (decide (x ∈ xs)) := by
  unfold inS
  rw [toV_strs]
  simp only [toV]
  rw [inV_strs]
section
variable {h : AH} {C : CE} {v w : AV} {xs ys : List Str} {x y : Str}
theorem notDic_of (q : seqOf v h = some zs) : dGetA v w h = none := by
  cases v with
  | ref a =>
    simp only [seqOf] at q
    split at q
    · rename_i e; simp [dGetA, e]
    · cases q
  | fk _ _ => cases q
  | ft _ _ => cases q
  | _ => rfl
theorem v_in (q : seqOf v h = some (sts xs)) : oInA C (.str x) v h = .ok (.bl (decide (x ∈ xs))) h := by
  unfold oInA
  rw [notDic_of q]
  dsimp only
  split
  · cases q
  · unfold oIn
    rw [q]
    dsimp only
    rw [inS_strs]
theorem v_notin (q : seqOf v h = some (sts xs)) : oNotInA C (.str x) v h = .ok (.bl (!decide (x ∈ xs))) h := by
  unfold oNotInA
  rw [notDic_of q]
  dsimp only
  split
  · cases q
  · unfold oNotIn
    rw [q]
    dsimp only
    rw [inS_strs]
theorem omap_str (f : AV → Option PyData) (q : ∀ x, f (.str x) = some (PyData.str x)) (xs : List Str) : omap f (sts xs) = some (xs.map PyData.str) := by
  induction xs with
  | nil => rfl
  | cons x r ih => simp only [List.map_cons, omap, q]; rw [ih]
theorem dat_lst (n : Nat) (q : lstOf v h = some (sts xs)) : dat (n + 2) h v = some (.list (xs.map .str)) := by
  cases v with
  | fl ys => cases q; show (omap (dat (n + 1) h) (sts xs)).map _ = _; rw [omap_str _ (fun _ => rfl)]; rfl
  | ref a =>
    simp only [lstOf] at q
    split at q
    · rename_i ys e
      cases q
      simp only [dat, e]
      rw [omap_str _ (fun _ => rfl)]; rfl
    · cases q
  | _ => cases q
theorem eqvAll_strs : ∀ (xs ys : List Str), PyData.eqvAll (xs.map PyData.str) (ys.map PyData.str) = decide (xs = ys)
  | [], [] => rfl
  | [], _ :: _ => rfl
  | _ :: _, [] => rfl
  | x :: xs, y :: ys => by
    show (PyData.eqv (.str x) (.str y) && PyData.eqvAll (xs.map PyData.str) (ys.map PyData.str)) = _
    rw [eqvAll_strs xs ys]
    show ((x == y) && _) = _
    by_cases e : x = y <;> by_cases e2 : xs = ys <;> simp [e, e2]
end
end Mi

namespace Mi
open PySem PySem.Spec PyProof.Rows L2
def menuK : List Str := ["page", "line", "a", "word", "gridcell", "z", "textbox", "b", "row", "frame", "aa"]
def menuN : List Str := ["width", "x", "height", "place", "baseline", "y", "parent", "w", "depth", "ab", "own"]
def rels : List Str := ["own", "parent", "children", "before"]
abbrev srcOf (r n : Str) : Str := r ++ "." ++ n
theorem menu_name : ∀ x ∈ menuK ++ menuN, x.length ≤ 8 ∧ 1 ≤ x.length ∧ okS x ∧ x.length ≤ sizeLine ∧ ∀ c ∈ x.cps.toList, (Builtin.Str.occurrences "abcdefghijklmnopqrstuvwxyz" ⟨#[c]⟩ 0 (Str.length "abcdefghijklmnopqrstuvwxyz") 1).isEmpty = false := by decide +kernel
theorem src_facts : ∀ r ∈ rels, ∀ n ∈ menuN, Txt.partition (srcOf r n) "." = ((r, (".", n)) : Str × Str × Str) ∧ okS (srcOf r n) ∧ (srcOf r n).length ≤ 20 ∧ Txt.split (srcOf r n) "." = [r, n] ∧ r.length + 1 ≤ 20 ∧ r.length + 1 + n.length ≤ 20 ∧ (r ++ ("." : Str)).length = r.length + 1 ∧ srcOf r n ≠ "style" := by decide +kernel
theorem style_facts : Txt.partition "style" "." = (("style", ("", "")) : Str × Str × Str) ∧ okS "style" := by decide +kernel
theorem src_inj : ∀ r ∈ rels, ∀ n ∈ menuN, ∀ r2 ∈ rels, ∀ n2 ∈ menuN, srcOf r n = srcOf r2 n2 → r = r2 ∧ n = n2 := fun r hr n hn r2 hr2 n2 hn2 e => by
  have a := (src_facts r hr n hn).1
  rw [e, (src_facts r2 hr2 n2 hn2).1] at a
  simp at a
  exact ⟨a.1.symm, a.2.symm⟩
theorem menuK_nd : menuK.Nodup := by decide +kernel
theorem menuN_nd : menuN.Nodup := by decide +kernel
/-- the choice of some of a menu -/
theorem some_idx : ∀ a < 11, ∀ s < 10, ((List.range 4).map fun j => (a + (1 + s) * j) % 11).Nodup := by decide +kernel
theorem some_nodup {menu : List Str} (h : menu.length = 11) (nd : menu.Nodup) {a s n : Nat} (ha : a < 11) (hs : s < 10) (hn : n ≤ 4) :
    ∃ xs : List Str, xs.length = n ∧ xs.Nodup ∧ (∀ x ∈ xs, x ∈ menu) ∧ ∀ j, j < n → xs[j]? = menu[(a + (1 + s) * j) % 11]? := by
  have g : ∀ j, (a + (1 + s) * j) % 11 < menu.length := fun j => by rw [h]; exact Nat.mod_lt _ (by omega)
  refine ⟨(List.range n).map fun j => menu[(a + (1 + s) * j) % 11]'(g j), by simp, ?_, ?_, fun j hj => ?_⟩
  · have z := some_idx a ha s hs
    rw [List.nodup_iff_pairwise_ne, List.pairwise_map] at z ⊢
    have z2 := z.sublist (List.range_sublist.mpr hn)
    exact z2.imp fun {x y} ne e => ne ((List.getElem_inj nd).mp e)
  · intro x hx
    obtain ⟨j, _, rfl⟩ := List.mem_map.mp hx
    exact List.getElem_mem _
  · rw [List.getElem?_map, List.getElem?_range hj]
    simp [g]
mutual
theorem deepV_clean : ∀ (n : Nat) (v : AV) (h : AH), clean 0 v = true → deepV n v h = (v, h)
  | 0, v, h, c => by unfold deepV; rfl
  | n + 1, v, h, c => by
    cases v with
    | ref a => simp [clean] at c
    | tup xs => unfold deepV; dsimp only; rw [deepL_clean n xs h (by simpa only [clean] using c)]
    | fl xs => unfold deepV; dsimp only; rw [deepL_clean n xs h (by simpa only [clean] using c)]
    | fk ks vs => unfold deepV; dsimp only; rw [deepL_clean n vs h (by simpa only [clean] using c)]
    | _ => unfold deepV; rfl
theorem deepL_clean : ∀ (n : Nat) (vs : List AV) (h : AH), cleans 0 vs = true → deepL n vs h = (vs, h)
  | 0, vs, h, c => by unfold deepL; rfl
  | n + 1, [], h, c => by unfold deepL; rfl
  | n + 1, v :: vs, h, c => by
    simp only [cleans, Bool.and_eq_true] at c
    unfold deepL
    dsimp only
    rw [deepV_clean n v h c.1]
    dsimp only
    rw [deepL_clean n vs h c.2]
end
@[simp] theorem clean_sts {n : Nat} {xs : List Str} : clean n (.fl (sts xs)) = true := by
  simp only [clean]
  exact cleans_iff.mpr fun v hv => by obtain ⟨x, _, rfl⟩ := List.mem_map.mp hv; rfl
@[simp] theorem cleans_sts {n : Nat} {xs : List Str} : cleans n (sts xs) = true := by
  exact cleans_iff.mpr fun v hv => by obtain ⟨x, _, rfl⟩ := List.mem_map.mp hv; rfl
@[simp] theorem clean_str {n : Nat} {x : Str} : clean n (.str x) = true := (rfl)
@[simp] theorem clean_int {n : Nat} {x : Int} : clean n (.int x) = true := (rfl)
@[simp] theorem clean_bl {n : Nat} {x : Bool} : clean n (.bl x) = true := (rfl)
@[simp] theorem clean_non {n : Nat} : clean n .non = true := (rfl)
@[simp] theorem clean_ctp {n : Nat} {x : List Str} : clean n (.ctp x) = true := (rfl)
theorem trim_drop {h h' : AH} {v : AV} (q : h <+: h') (c : clean h.length v = true) : trimR 0 h (.ok v h') = .ok v h := by
  obtain ⟨X, rfl⟩ := q
  exact trim_app c
/-- the object at 0 may have changed -/
theorem trim_tape {o o' : AO} {R X : AH} {v : AV} (co : cleanO (R.length + 1) o' = true) (c : clean (R.length + 1) v = true) : trimR 0 (o :: R) (.ok v (o' :: (R ++ X))) = .ok v (o' :: R) := by
  have k : TrimOk 0 (o :: R) (o' :: (R ++ X)) := fun i ob hi e => by
    cases i with
    | zero => right; simp at e; subst e; simpa using co
    | succ i =>
      left
      simp only [List.length_cons, Nat.add_zero, Nat.add_lt_add_iff_right] at hi
      simp only [List.getElem?_cons_succ, List.length_cons, Nat.add_lt_add_iff_right] at e ⊢
      rw [List.getElem?_append_left hi] at e
      exact ⟨hi, e⟩
  unfold trimR
  dsimp only
  rw [if_pos ⟨by simp, by simpa using c, k⟩]
  simp
@[simp] theorem cleanO_tp {n : Nat} {a b c : Int} {ns : List Int} : cleanO n (tp a b c ns) = true := by
  simp only [cleanO, cleans, clean, Bool.true_and, Bool.and_true]
  exact cleans_iff.mpr fun v hv => by obtain ⟨x, _, rfl⟩ := List.mem_map.mp hv; rfl
section
variable {κ : Type} [DecidableEq κ]
theorem valA_zip {ks : List κ} (nd : ks.Nodup) {vs : List AV} {i : Nat} {k : κ} {v : AV} (hk : ks[i]? = some k) (hv : vs[i]? = some v) : valA (ks.zip vs) k = some v := by
  induction ks generalizing vs i with
  | nil => simp at hk
  | cons x r ih =>
    cases vs with
    | nil => simp at hv
    | cons w ws =>
      rw [List.nodup_cons] at nd
      cases i with
      | zero =>
        simp at hk hv
        subst hk hv
        simp [valA]
      | succ i =>
        simp at hk hv
        have ne : x ≠ k := fun e => nd.1 (e ▸ List.mem_of_getElem? hk)
        have z := ih nd.2 hk hv
        simp only [valA, List.zip_cons_cons, List.find?_cons, ne, decide_false]
        exact z
theorem valA_none {kvs : List (κ × AV)} {k : κ} (q : k ∉ kvs.map (·.1)) : valA kvs k = none := by
  unfold valA
  rw [List.find?_eq_none.mpr]
  · rfl
  · intro x hx
    simp only [decide_eq_true_eq]
    exact fun e => q (e ▸ List.mem_map_of_mem hx)
theorem valA_append {kvs : List (κ × AV)} {k : κ} {v : AV} (q : k ∉ kvs.map (·.1)) : valA (kvs ++ [(k, v)]) k = some v := by
  unfold valA
  rw [List.find?_append, List.find?_eq_none.mpr]
  · simp
  · intro x hx
    simp only [decide_eq_true_eq]
    exact fun e => q (e ▸ List.mem_map_of_mem hx)
theorem putD_new {kvs : List (κ × AV)} {k : κ} {v : AV} (q : k ∉ kvs.map (·.1)) : putD kvs k v = kvs ++ [(k, v)] := by
  unfold putD
  rw [if_neg]
  simp only [Bool.not_eq_true, List.any_eq_false, decide_eq_true_eq]
  exact fun x hx e => q (e ▸ List.mem_map_of_mem hx)
end
section
variable {h : AH} {C : CE} {v w : AV} {xs ys : List AV} {ss : List Str} {x y : Str} {i : Nat}
theorem cls_lst (q : lstOf v h = some xs) : cls? v h = none := by
  cases v with
  | ref a => simp only [lstOf] at q; split at q <;> simp_all [cls?]
  | fl _ => rfl
  | _ => cases q
theorem v_ixL {j : Int} (q : lstOf v h = some xs) : oIxA C v (.int j) h = (match L2.atI xs j with | some w => .ok w h | none => .bad) := by
  cases v with
  | ref a =>
    simp only [lstOf] at q
    split at q
    · rename_i e; cases q; exact v_ixlst e
    · cases q
  | fl _ => cases q; rfl
  | _ => cases q
theorem v_lenL (q : lstOf v h = some xs) : bLenA C v h = .ok (.int xs.length) h := by
  cases v with
  | ref a =>
    simp only [lstOf] at q
    split at q
    · rename_i e; cases q; simp [bLenA, dLen, bLen, seqOf, e]
    · cases q
  | fl _ => cases q; rfl
  | _ => cases q
theorem atI_nat {xs : List AV} {i : Nat} (q : i < xs.length) : L2.atI xs (i : Int) = some xs[i] := by
  unfold L2.atI L2.ixN
  simp [q]
theorem atI_some {xs : List AV} {i : Nat} {w : AV} (q : xs[i]? = some w) : L2.atI xs (i : Int) = some w := by
  obtain ⟨hl, e⟩ := List.getElem?_eq_some_iff.mp q
  rw [atI_nat hl, e]
@[simp] theorem lst_fl : lstOf (.fl xs) h = some xs := (rfl)
theorem lst_ref {a : Nat} (q : h[a]? = some (.lst xs)) : lstOf (.ref a) h = some xs := by simp [lstOf, q]
@[simp] theorem v_lenstr (q : x.length ≤ sizeLine) : bLenA C (.str x) h = .ok (.int x.length) h := by
  simp [bLenA, dLen, bLen, q]
theorem v_all {bs : List Bool} : bAll (.fl (bs.map .bl)) h = .ok (.bl (bs.all id)) h := by
  have z : blsL (bs.map .bl) = some bs := by
    unfold blsL
    induction bs with
    | nil => rfl
    | cons b r ih => simp only [List.map_cons, omap]; rw [ih]
  simp [bAll, lstOf, z]
/-- all of them hold -/
theorem v_allT {α : Type} {xs : List α} {f : α → AV} (q : ∀ x ∈ xs, f x = .bl true) : bAll (.fl (xs.map f)) h = .ok (.bl true) h := by
  have e : xs.map f = (xs.map fun _ => true).map .bl := by
    rw [List.map_map]
    exact List.map_congr_left fun x hx => q x hx
  rw [e, v_all]
  congr 2
  simp
@[simp] theorem v_eqI {i j : Int} : oEq C (.int i) (.int j) h = .ok (.bl (decide (i = j))) h := by
  unfold oEq eqD
  rw [show dat 9 h (.int i) = some (.int i) from rfl, show dat 9 h (.int j) = some (.int j) from rfl]
  dsimp only
  rw [if_pos ⟨rfl, rfl⟩]
  simp [PyData.eqv]
  rfl
@[simp] theorem v_neI {i j : Int} : oNe C (.int i) (.int j) h = .ok (.bl (!decide (i = j))) h := by
  unfold oNe eqD
  rw [show dat 9 h (.int i) = some (.int i) from rfl, show dat 9 h (.int j) = some (.int j) from rfl]
  dsimp only
  rw [if_pos ⟨rfl, rfl⟩]
  simp [PyData.eqv]
  rfl
theorem shaped_str (q : okS x) : SeqAt.shaped (.str x) = true := by
  simp [SeqAt.shaped, PyData.canLay0, PyData.depth, q]
theorem eqD_str (qx : okS x) (qy : okS y) : eqD (.str x) (.str y) h = some (decide (x = y)) := by
  unfold eqD
  rw [show dat 9 h (.str x) = some (.str x) from rfl, show dat 9 h (.str y) = some (.str y) from rfl]
  dsimp only
  rw [if_pos ⟨shaped_str qx, shaped_str qy⟩]
  show some (x == y) = _
  by_cases e : x = y <;> simp [e]
theorem v_eqS (qx : okS x) (qy : okS y) : oEq C (.str x) (.str y) h = .ok (.bl (decide (x = y))) h := by
  unfold oEq; rw [eqD_str qx qy]
theorem v_neS (qx : okS x) (qy : okS y) : oNe C (.str x) (.str y) h = .ok (.bl (!decide (x = y))) h := by
  unfold oNe; rw [eqD_str qx qy]
theorem v_cat {b : Bool} (q : x.length + y.length ≤ sizeLine) : oAdd b (.str x) (.str y) h = .ok (.str (x ++ y)) h := by
  simp [oAdd, q]
theorem shaped_sts (ok : ∀ x ∈ ss, okS x) : SeqAt.shaped (.list (ss.map PyData.str)) = true ∧ SeqAt.shaped (.tuple (ss.map PyData.str)) = true := by
  have h1 : PyData.canLayAll0 (ss.map PyData.str) = true := by
    induction ss with
    | nil => rfl
    | cons x r ih =>
      show (PyData.strOk x && PyData.canLayAll0 (r.map PyData.str)) = true
      rw [ok x List.mem_cons_self, ih fun y hy => ok y (List.mem_cons_of_mem _ hy)]
      rfl
  have h2 : PyData.depthAll (ss.map PyData.str) = 0 := by
    clear ok h1
    induction ss with
    | nil => rfl
    | cons x r ih =>
      show max 0 (PyData.depthAll (r.map PyData.str)) = 0
      rw [ih]
      rfl
  constructor
  · show (PyData.canLayAll0 (ss.map PyData.str) && decide (PyData.depthAll (ss.map PyData.str) + 1 ≤ 64)) = true
    rw [h1, h2]
    rfl
  · show (PyData.canLayAll0 (ss.map PyData.str) && decide (PyData.depthAll (ss.map PyData.str) + 1 ≤ 64)) = true
    rw [h1, h2]
    rfl
theorem eqD_lst {ts : List Str} (ea : lstOf v h = some (sts ss)) (eb : lstOf w h = some (sts ts)) (ox : ∀ x ∈ ss, okS x) (oy : ∀ x ∈ ts, okS x) : eqD v w h = some (decide (ss = ts)) := by
  unfold eqD
  rw [dat_lst 7 ea, dat_lst 7 eb]
  dsimp only
  rw [if_pos ⟨(shaped_sts ox).1, (shaped_sts oy).1⟩]
  show some (PyData.eqvAll _ _) = _
  rw [eqvAll_strs]
theorem v_neL {ts : List Str} (ea : lstOf v h = some (sts ss)) (eb : lstOf w h = some (sts ts)) (ox : ∀ x ∈ ss, okS x) (oy : ∀ x ∈ ts, okS x) : oNe C v w h = .ok (.bl (!decide (ss = ts))) h := by
  unfold oNe; rw [eqD_lst ea eb ox oy]
theorem v_eqL {ts : List Str} (ea : lstOf v h = some (sts ss)) (eb : lstOf w h = some (sts ts)) (ox : ∀ x ∈ ss, okS x) (oy : ∀ x ∈ ts, okS x) : oEq C v w h = .ok (.bl (decide (ss = ts))) h := by
  unfold oEq; rw [eqD_lst ea eb ox oy]
theorem v_neC {ts : List Str} (ox : ∀ x ∈ ss, okS x) (oy : ∀ x ∈ ts, okS x) : oNe C (.ctp ss) (.ctp ts) h = .ok (.bl (!decide (ss = ts))) h := by
  unfold oNe eqD
  rw [show dat 9 h (.ctp ss) = some (.tuple (ss.map .str)) from rfl, show dat 9 h (.ctp ts) = some (.tuple (ts.map .str)) from rfl]
  dsimp only
  rw [if_pos ⟨(shaped_sts ox).2, (shaped_sts oy).2⟩]
  dsimp only
  rw [show PyData.eqv (.tuple (ss.map .str)) (.tuple (ts.map .str)) = PyData.eqvAll (ss.map .str) (ts.map .str) from rfl, eqvAll_strs]
theorem v_count (q : lstOf v h = some (sts ss)) : mCount v [.str x] h = .ok (.int (ss.count x : Nat)) h := by
  unfold mCount
  rw [q]
  dsimp only
  rw [if_pos ⟨rfl, by simp [isFl, toV]⟩]
  congr 2
  have z : (sts ss).countP (fun z => flatE z (.str x)) = ss.count x := by
    rw [List.countP_map, List.count]
    congr 1
  rw [z]
theorem is_lst (q : lstOf v h = some xs) : isLst v h = true := by simp [isLst, q]
theorem strL_sts : strL (sts ss) = some ss := by
  unfold strL
  induction ss with
  | nil => rfl
  | cons x r ih => simp only [List.map_cons, omap]; rw [ih]
theorem v_tup (q : lstOf v h = some (sts ss)) : bTuple v h = .ok (.ctp ss) h := by
  unfold bTuple; rw [q]; dsimp only; rw [strL_sts]
theorem v_listf (q : seqOf v h = some xs) : bList false C v h = .ok (.fl xs) h := by
  unfold bList; rw [q]; rfl
theorem v_listt (q : seqOf v h = some xs) : bList true C v h = .ok (.ref h.length) (h ++ [.lst xs]) := by
  unfold bList; rw [q]; rfl
end
end Mi

namespace Mi
open PySem PySem.Spec PyProof.Rows L2
structure Eng where
  K : List Str
  P : List (Str × List Str)
  R : List (List (List Str))
namespace Eng
def N (e : Eng) : List Str := e.P.flatMap (·.2)
def pv (e : Eng) : List AV := e.P.map fun p => .fl [.str p.1, .fl (sts p.2)]
def sv (e : Eng) : AV := .fk (e.K.map .inr) (e.R.map fun r => .fk (e.N.map .inr) (r.map fun l => .fl (sts l)))
/-- the law's dict -/
def val (e : Eng) : AV := .fk [.inr "kinds", .inr "passes", .inr "sources", .inr "names"] [.fl (sts e.K), .fl e.pv, e.sv, .fl (sts e.N)]
end Eng
def goodSrc (N : List Str) (s : Str) : Prop := s = "style" ∨ ∃ r ∈ rels, ∃ n ∈ N, s = srcOf r n
structure Eng.Ok (e : Eng) : Prop where
  k1 : 1 ≤ e.K.length
  k2 : e.K.length ≤ 3
  knd : e.K.Nodup
  kin : ∀ x ∈ e.K, x ∈ menuK
  p1 : 1 ≤ e.P.length
  p2 : e.P.length ≤ 3
  pdir : ∀ p ∈ e.P, p.1 = "down" ∨ p.1 = "up"
  pne : ∀ p ∈ e.P, p.2 ≠ []
  n2 : e.N.length ≤ 4
  nnd : e.N.Nodup
  nin : ∀ x ∈ e.N, x ∈ menuN
  r1 : e.R.length = e.K.length
  r2 : ∀ r ∈ e.R, r.length = e.N.length
  r3 : ∀ r ∈ e.R, ∀ l ∈ r, 1 ≤ l.length ∧ l.length ≤ 4 ∧ l.Nodup ∧ ∀ s ∈ l, goodSrc e.N s
theorem goodSrc_ok {N : List Str} (nin : ∀ x ∈ N, x ∈ menuN) {s : Str} (h : goodSrc N s) : okS s ∧ s.length ≤ 20 := by
  rcases h with rfl | ⟨r, hr, n, hn, rfl⟩
  · exact ⟨style_facts.2, by decide⟩
  · exact ⟨(src_facts r hr n (nin n hn)).2.1, (src_facts r hr n (nin n hn)).2.2.1⟩
theorem okK {x : Str} (h : x ∈ menuK) : okS x := (menu_name x (List.mem_append_left _ h)).2.2.1
theorem okN {x : Str} (h : x ∈ menuN) : okS x := (menu_name x (List.mem_append_right _ h)).2.2.1
theorem okR : ∀ x ∈ rels, okS x := by decide +kernel
theorem Eng.Ok.n1 {e : Eng} (h : e.Ok) : 1 ≤ e.N.length := by
  unfold Eng.N
  obtain ⟨p, r, ep⟩ : ∃ p r, e.P = p :: r := by
    cases q : e.P with
    | nil => have z := h.p1; rw [q] at z; simp at z
    | cons p r => exact ⟨p, r, rfl⟩
  have z := h.pne p (by rw [ep]; simp)
  rw [ep, List.flatMap_cons, List.length_append]
  have : 1 ≤ p.2.length := List.length_pos_iff.mpr z
  omega
theorem Eng.mem_N {e : Eng} {p : Str × List Str} (hp : p ∈ e.P) {x : Str} (hx : x ∈ p.2) : x ∈ e.N := List.mem_flatMap.mpr ⟨p, hp, hx⟩
def tabRow (N : List Str) (k : Str) (r : List (List Str)) : List (List Ky × AV) := (N.zip r).map fun p => ([.inr k, .inr p.1], .ctp p.2)
def tab (N : List Str) (K : List Str) (R : List (List (List Str))) : List (List Ky × AV) := (K.zip R).flatMap fun p => tabRow N p.1 p.2
theorem tabRow_key {N : List Str} {k : Str} {r : List (List Str)} {x : List Ky} (h : x ∈ (tabRow N k r).map (·.1)) : ∃ n ∈ N, x = [.inr k, .inr n] := by
  obtain ⟨y, hy, rfl⟩ := List.mem_map.mp h
  obtain ⟨p, hp, rfl⟩ := List.mem_map.mp hy
  exact ⟨p.1, (List.of_mem_zip hp).1, rfl⟩
theorem tab_key {N K : List Str} {R : List (List (List Str))} {x : List Ky} (h : x ∈ (tab N K R).map (·.1)) : ∃ k ∈ K, ∃ n ∈ N, x = [.inr k, .inr n] := by
  obtain ⟨y, hy, rfl⟩ := List.mem_map.mp h
  obtain ⟨p, hp, hy⟩ := List.mem_flatMap.mp hy
  obtain ⟨n, hn, e⟩ := tabRow_key (List.mem_map_of_mem hy)
  exact ⟨p.1, (List.of_mem_zip hp).1, n, hn, e⟩
theorem tab_length {N K : List Str} : ∀ {R : List (List (List Str))}, (∀ r ∈ R, r.length = N.length) → (tab N K R).length ≤ K.length * N.length := by
  induction K with
  | nil => intro R _; simp [tab]
  | cons k K ih =>
    intro R h
    cases R with
    | nil => simp [tab]
    | cons r R =>
      have z := ih fun r hr => h r (List.mem_cons_of_mem _ hr)
      simp only [tab] at z
      simp only [tab, List.zip_cons_cons, List.flatMap_cons, List.length_append, tabRow, List.length_map, List.length_zip, h r List.mem_cons_self, Nat.min_self, List.length_cons, Nat.add_mul]
      simp only [tabRow] at z
      omega
theorem valA_appL {κ : Type} [DecidableEq κ] {a b : List (κ × AV)} {k : κ} {v : AV} (h : valA a k = some v) : valA (a ++ b) k = some v := by
  unfold valA at h ⊢
  rw [List.find?_append]
  cases q : a.find? fun kv => decide (kv.1 = k) with
  | none => rw [q] at h; cases h
  | some x => rw [q] at h; simpa using h
theorem valA_appR {κ : Type} [DecidableEq κ] {a b : List (κ × AV)} {k : κ} (h : k ∉ a.map (·.1)) : valA (a ++ b) k = valA b k := by
  unfold valA
  rw [List.find?_append, List.find?_eq_none.mpr]
  · simp
  · intro x hx
    simp only [decide_eq_true_eq]
    exact fun e => h (e ▸ List.mem_map_of_mem hx)
theorem tabRow_get {N : List Str} (nd : N.Nodup) {k : Str} {r : List (List Str)} {j : Nat} {n : Str} {l : List Str} (hn : N[j]? = some n) (hl : r[j]? = some l) : valA (tabRow N k r) [.inr k, .inr n] = some (.ctp l) := by
  induction N generalizing r j with
  | nil => simp at hn
  | cons x N ih =>
    cases r with
    | nil => simp at hl
    | cons y r =>
      rw [List.nodup_cons] at nd
      cases j with
      | zero => simp at hn hl; subst hn hl; simp [tabRow, valA]
      | succ j =>
        simp at hn hl
        have ne : x ≠ n := fun e => nd.1 (e ▸ List.mem_of_getElem? hn)
        have z := ih nd.2 hn hl
        simp only [tabRow, valA] at z ⊢
        simp only [List.zip_cons_cons, List.map_cons, List.find?_cons]
        rw [show decide (([.inr k, .inr x] : List Ky) = [.inr k, .inr n]) = false from by simp [ne]]
        exact z
theorem tab_get {N K : List Str} (nn : N.Nodup) (nk : K.Nodup) {R : List (List (List Str))} {i j : Nat} {k n : Str} {r : List (List Str)} {l : List Str} (hk : K[i]? = some k) (hr : R[i]? = some r) (hn : N[j]? = some n) (hl : r[j]? = some l) : valA (tab N K R) [.inr k, .inr n] = some (.ctp l) := by
  induction K generalizing R i with
  | nil => simp at hk
  | cons x K ih =>
    cases R with
    | nil => simp at hr
    | cons y R =>
      rw [List.nodup_cons] at nk
      rw [show tab N (x :: K) (y :: R) = tabRow N x y ++ tab N K R from rfl]
      cases i with
      | zero =>
        simp at hk hr
        subst hk hr
        exact valA_appL (tabRow_get nn hn hl)
      | succ i =>
        simp at hk hr
        have ne : x ≠ k := fun e => nk.1 (e ▸ List.mem_of_getElem? hk)
        rw [valA_appR, ih nk.2 hk hr]
        intro h
        obtain ⟨m, _, e⟩ := tabRow_key h
        simp at e
        exact ne e.1.symm
theorem tab_snoc {N K : List Str} {R : List (List (List Str))} {k : Str} {r : List (List Str)} (h : K.length = R.length) : tab N (K ++ [k]) (R ++ [r]) = tab N K R ++ tabRow N k r := by
  unfold tab
  rw [List.zip_append h, List.flatMap_append]
  simp
theorem tabRow_snoc {N : List Str} {r : List (List Str)} {k n : Str} {l : List Str} (h : N.length = r.length) : tabRow (N ++ [n]) k (r ++ [l]) = tabRow N k r ++ [([.inr k, .inr n], .ctp l)] := by
  unfold tabRow
  rw [List.zip_append h]
  simp
section
variable {A X : AH} {o p : AO}
@[simp] theorem end_get : (A ++ o :: X)[A.length]? = some o := by simp
@[simp] theorem end_set : (A ++ o :: X).set A.length p = A ++ p :: X := by
  rw [List.set_append_right _ _ (Nat.le_refl _)]; simp
theorem end_get1 {o2 : AO} : (A ++ o :: o2 :: X)[A.length + 1]? = some o2 := by
  rw [List.getElem?_append_right (by omega), Nat.add_sub_cancel_left]; rfl
theorem end_set1 {o2 : AO} : (A ++ o :: o2 :: X).set (A.length + 1) p = A ++ o :: p :: X := by
  rw [List.set_append_right _ _ (by omega), Nat.add_sub_cancel_left]; rfl
theorem trim1_len {h h' : AH} {v : AV} (q : h'.length = h.length + 1) : trimR 1 h (.ok v h') = .ok v h' := by
  unfold trimR
  dsimp only
  split
  · rw [← q, List.take_length]
  · rfl
end
def kFldS (c : Nat) (f : Str) (o : SE) (σ : Sl) : AV → AH → RS := fun w h1 => (o σ h1).to σ fun v h2 => match v with
  | .ref a => match h2[a]? with
    | some (.ins c' fs) => if c' = c ∧ fs.length < 1000 then .ok (.nx σ) (h2.set a (.ins c (putA f w fs))) else .bad
    | _ => .bad
  | _ => .bad
def kFldS2 (c : Nat) (f : Str) (σ : Sl) (w : AV) : AV → AH → RS := fun v h2 => match v with
  | .ref a => match h2[a]? with
    | some (.ins c' fs) => if c' = c ∧ fs.length < 1000 then .ok (.nx σ) (h2.set a (.ins c (putA f w fs))) else .bad
    | _ => .bad
  | _ => .bad
def kMk (C : CE) (c f : Nat) : List AV → AH → R AV := fun vs h => match C.mak f (.ref h.length :: vs) (h ++ [.ins c []]) with
  | .ok .non h1 => .ok (.ref h.length) h1
  | .ex c fs h1 => .ex c fs h1
  | _ => .bad
def kMeth (C : CE) (c : Nat) (nm : Str) (f : Nat) (a : SA) (σ : Sl) : AV → AH → R AV := fun v h1 => match cls? v h1 with
  | some (c', fs) => if c' = c ∧ (fs.lookup nm).isNone = true then (a σ h1).bind fun vs h2 => C.call f (v :: vs) h2 else .bad
  | none => .bad
def kMeth2 (C : CE) (f : Nat) (v : AV) : List AV → AH → R AV := fun vs h2 => C.call f (v :: vs) h2
section
variable {C : CE} {c f : Nat} {nm : Str} {o e : SE} {as : SA} {σ : Sl} {h : AH} {v w : AV} {vs : List AV}
@[simp] theorem e_fldS : ssFld c nm o e σ h = (e σ h).to σ (kFldS c nm o σ) := (rfl)
@[simp] theorem k_fldS : kFldS c nm o σ w h = (o σ h).to σ (kFldS2 c nm σ w) := (rfl)
theorem k_fldS2 {a : Nat} {fs : Fs} (q : h[a]? = some (.ins c fs)) (q2 : fs.length < 1000) : kFldS2 c nm σ w (.ref a) h = .ok (.nx σ) (h.set a (.ins c (putA nm w fs))) := by
  unfold kFldS2
  dsimp only
  rw [q]
  dsimp only
  rw [if_pos ⟨rfl, q2⟩]
@[simp] theorem e_mk : sMk C c f as σ h = (as σ h).bind (kMk C c f) := (rfl)
theorem k_mk {h1 : AH} (q : C.mak f (.ref h.length :: vs) (h ++ [.ins c []]) = .ok .non h1) : kMk C c f vs h = .ok (.ref h.length) h1 := by
  unfold kMk
  rw [q]
@[simp] theorem e_meth : sMeth C c nm f o as σ h = (o σ h).bind (kMeth C c nm f as σ) := (rfl)
theorem k_meth {a : Nat} {fs : Fs} (q : h[a]? = some (.ins c fs)) (q2 : (fs.lookup nm).isNone = true) : kMeth C c nm f as σ (.ref a) h = (as σ h).bind (kMeth2 C f (.ref a)) := by
  unfold kMeth
  rw [show cls? (.ref a) h = some (c, fs) from by simp [cls?, q]]
  dsimp only
  rw [if_pos ⟨rfl, q2⟩]
  rfl
@[simp] theorem k_meth2 : kMeth2 C f v vs h = C.call f (v :: vs) h := (rfl)
@[simp] theorem e_dk : sDk σ h = .ok (.ref h.length) (h ++ [.dk []]) := (rfl)
@[simp] theorem e_dt : sDt σ h = .ok (.ref h.length) (h ++ [.dt []]) := (rfl)
theorem v_ixD {x y w : AV} (q : dGetA x y h = some (some w)) : oIxA C x y h = .ok w h := by
  unfold oIxA; rw [q]
theorem v_inD {x y : AV} {b : Option AV} (q : dGetA x y h = some b) : oInA C y x h = .ok (.bl b.isSome) h := by
  unfold oInA; rw [q]
theorem v_notinD {x y : AV} {b : Option AV} (q : dGetA x y h = some b) : oNotInA C y x h = .ok (.bl (!b.isSome)) h := by
  unfold oNotInA; rw [q]
theorem v_lenD {x : AV} {n : Nat} (q : dLen x h = some n) : bLenA C x h = .ok (.int n) h := by
  unfold bLenA; rw [q]
theorem g_fk {ks : List Ky} {xs : List AV} {x : Str} : dGetA (.fk ks xs) (.str x) h = some (valA (ks.zip xs) (.inr x)) := rfl
theorem g_dk {kvs : List (Ky × AV)} {a : Nat} {x : Str} (q : h[a]? = some (.dk kvs)) : dGetA (.ref a) (.str x) h = some (valA kvs (.inr x)) := by
  simp [dGetA, q, keyOf]
theorem p_dk {kvs : List (Ky × AV)} {a : Nat} {x : Str} (q : h[a]? = some (.dk kvs)) (n : Sum.inr x ∉ kvs.map (·.1)) (z : kvs.length < 1000) : dPutA (.ref a) (.str x) v h = some (h.set a (.dk (kvs ++ [(.inr x, v)]))) := by
  simp only [dPutA, q, keyOf]
  rw [if_pos (by rw [sizeLine_eq]; omega), putD_new n]
theorem p_dt {kvs : List (List Ky × AV)} {a : Nat} {x y : Str} (q : h[a]? = some (.dt kvs)) (n : [Sum.inr x, Sum.inr y] ∉ kvs.map (·.1)) (z : kvs.length < 1000) : dPutA (.ref a) (.tup [.str x, .str y]) v h = some (h.set a (.dt (kvs ++ [([.inr x, .inr y], v)]))) := by
  simp only [dPutA, q, omap, keyOf]
  rw [if_pos (by rw [sizeLine_eq]; omega), putD_new n]
end
def oFld (c : Nat) (f : Str) : Option AO → AH → R AV := fun o h => match o with
  | some (.ins c' fs) => if c' = c then match fs.lookup f with
      | some w => .ok w h
      | none => .bad
    else .bad
  | _ => .bad
def oFldS (c : Nat) (f : Str) (σ : Sl) (w : AV) (a : Nat) : Option AO → AH → RS := fun o h2 => match o with
  | some (.ins c' fs) => if c' = c ∧ fs.length < 1000 then .ok (.nx σ) (h2.set a (.ins c (putA f w fs))) else .bad
  | _ => .bad
def oMeth (C : CE) (c : Nat) (nm : Str) (f : Nat) (as : SA) (σ : Sl) (a : Nat) : Option AO → AH → R AV := fun o h1 => match o with
  | some (.ins c' fs) => if c' = c ∧ (fs.lookup nm).isNone = true then (as σ h1).bind (kMeth2 C f (.ref a)) else .bad
  | _ => .bad
section
variable {C : CE} {c f : Nat} {nm : Str} {as : SA} {σ : Sl} {h : AH} {w : AV} {fs : Fs} {a : Nat}
theorem k_fldE : kFld c nm (.ref a) h = oFld c nm h[a]? h := by
  unfold kFld cls? oFld
  dsimp only
  cases h[a]? with
  | none => rfl
  | some o => cases o <;> rfl
theorem oFld_ins : oFld c nm (some (.ins c fs)) h = (match fs.lookup nm with | some w => .ok w h | none => .bad) := by
  unfold oFld
  dsimp only
  rw [if_pos rfl]
theorem k_fldSE : kFldS2 c nm σ w (.ref a) h = oFldS c nm σ w a h[a]? h := (rfl)
theorem oFldS_ins (q : fs.length < 1000) : oFldS c nm σ w a (some (.ins c fs)) h = .ok (.nx σ) (h.set a (.ins c (putA nm w fs))) := by
  unfold oFldS
  dsimp only
  rw [if_pos ⟨rfl, q⟩]
theorem k_methE : kMeth C c nm f as σ (.ref a) h = oMeth C c nm f as σ a h[a]? h := by
  unfold kMeth cls? oMeth
  dsimp only
  cases h[a]? with
  | none => rfl
  | some o => cases o <;> rfl
theorem oMeth_ins (q : (fs.lookup nm).isNone = true) : oMeth C c nm f as σ a (some (.ins c fs)) h = (as σ h).bind (kMeth2 C f (.ref a)) := by
  unfold oMeth
  dsimp only
  rw [if_pos ⟨rfl, q⟩]
end
/-- a comprehension, told by its answer -/
theorem sLcF_ys {it : SI} {s : Src} {xs ys : List AV} {g : SG} {e : SE} {vs : List Nat} {σ : Sl} {h h1 : AH} (hi : it σ h = .ok s h1) (hs : SrcIs s h1 xs) (hl : ys.length = xs.length) (hz : ys.length < 1000)
    (st : ∀ (i : Nat) x y, xs[i]? = some x → ys[i]? = some y → ∃ σ1, g x (wipeA σ vs) = some σ1 ∧ e σ1 h1 = .ok y h1) : sLcF it g Mi.tYes e vs σ h = .ok (.fl ys) h1 := by
  obtain ⟨acc, h2, e1, e2, e3⟩ := sLcF_inv (g := g) (t := Mi.tYes) (e := e) (vs := vs) (σ := σ) (xs := xs) (fun i acc h => acc = ys.take i ∧ h = h1) hi hs.1 (fun i acc h q => by rw [q.2]; exact hs.2 i) ⟨by simp, rfl⟩ (fun i x acc h hx q => by
    obtain ⟨rfl, rfl⟩ := q
    have hi : i < ys.length := by rw [hl]; exact (List.getElem?_eq_some_iff.mp hx).1
    obtain ⟨σ1, q1, q2⟩ := st i x ys[i] hx (List.getElem?_eq_getElem hi)
    refine ⟨by rw [List.length_take, sizeLine_eq]; omega, σ1, q1, .inr ⟨h, ys[i], h, rfl, q2, ?_, rfl⟩⟩
    rw [List.take_succ, List.getElem?_eq_getElem hi]; rfl)
  rw [e1, e2, e3, ← hl, List.take_length]
/-- the engine's passes -/
def Eng.pt (e : Eng) : List AV := e.P.map fun p => .tup [.str p.1, .ctp p.2]
def RowsOk (A : AH) (rows : List AV) (P : List (Str × List Str)) : Prop := rows.length = P.length ∧ ∀ (i : Nat) p, P[i]? = some p → ∃ w, rows[i]? = some (.tup [.str p.1, w]) ∧ ∀ X, lstOf w (A ++ X) = some (sts p.2)
def SrcsOk (A : AH) (v : AV) (e : Eng) : Prop := (∀ X, dLen v (A ++ X) = some e.K.length) ∧ ∀ (i : Nat) k r, e.K[i]? = some k → e.R[i]? = some r → ∃ d, (∀ X, dGetA v (.str k) (A ++ X) = some (some d) ∧ dLen d (A ++ X) = some e.N.length) ∧ ∀ (j : Nat) n l, e.N[j]? = some n → r[j]? = some l → ∃ w, ∀ X, dGetA d (.str n) (A ++ X) = some (some w) ∧ lstOf w (A ++ X) = some (sts l)
theorem Eng.pt_names (e : Eng) : e.pt.flatMap (fun x => match x with | .tup [_, .ctp ns] => sts ns | _ => []) = sts e.N := by
  unfold Eng.pt Eng.N
  rw [List.flatMap_map]
  show e.P.flatMap (fun p => p.2.map AV.str) = (e.P.flatMap fun p => p.2).map AV.str
  rw [List.map_flatMap]
/-- the engine object's fields -/
def Eng.fs (e : Eng) (t : AV) : Fs := [("kinds", .fl (sts e.K)), ("passes", .fl e.pt), ("attributes", .fl (sts e.N)), ("table", t)]
section
variable {a b c d : AV}
theorem pu0 : putA "kinds" a [] = ([("kinds", a)] : Fs) := rfl
theorem pu1 : putA "passes" b [("kinds", a)] = ([("kinds", a), ("passes", b)] : Fs) := rfl
theorem pu2 : putA "attributes" c [("kinds", a), ("passes", b)] = ([("kinds", a), ("passes", b), ("attributes", c)] : Fs) := rfl
theorem pu3 : putA "table" d [("kinds", a), ("passes", b), ("attributes", c)] = ([("kinds", a), ("passes", b), ("attributes", c), ("table", d)] : Fs) := rfl
theorem lu_k {r : Fs} : List.lookup ("kinds" : Str) ((("kinds", a) :: r) : Fs) = some a := rfl
theorem lu_p {r : Fs} : List.lookup ("passes" : Str) ((("kinds", a) :: ("passes", b) :: r) : Fs) = some b := rfl
theorem lu_a {r : Fs} : List.lookup ("attributes" : Str) ((("kinds", a) :: ("passes", b) :: ("attributes", c) :: r) : Fs) = some c := rfl
theorem lu_t {r : Fs} : List.lookup ("table" : Str) ((("kinds", a) :: ("passes", b) :: ("attributes", c) :: ("table", d) :: r) : Fs) = some d := rfl
theorem lu_ch {e : Eng} {t : AV} : (List.lookup ("checked" : Str) (e.fs t)).isNone = true := rfl
theorem lu_tu {e : Eng} {t : AV} : (List.lookup ("turn" : Str) (e.fs t)).isNone = true := rfl
end
/-- the frozen table -/
def Eng.tv (e : Eng) : AV := .ft ((tab e.N e.K e.R).map (·.1)) ((tab e.N e.K e.R).map (·.2))
theorem zip_fst_snd {α β : Type} : ∀ (l : List (α × β)), (l.map (·.1)).zip (l.map (·.2)) = l
  | [] => rfl
  | x :: r => by simp [zip_fst_snd r]
theorem clean_pt {n : Nat} {e : Eng} : clean n (.fl e.pt) = true := by
  simp only [clean]
  exact cleans_iff.mpr fun v hv => by obtain ⟨x, _, rfl⟩ := List.mem_map.mp hv; rfl
theorem cleans_tab {n : Nat} {N K : List Str} {R : List (List (List Str))} : cleans n ((tab N K R).map (·.2)) = true := by
  refine cleans_iff.mpr fun v hv => ?_
  obtain ⟨y, hy, rfl⟩ := List.mem_map.mp hv
  obtain ⟨p, hp, hy⟩ := List.mem_flatMap.mp hy
  obtain ⟨q, _, rfl⟩ := List.mem_map.mp hy
  rfl
theorem clean_tv {n : Nat} {e : Eng} : clean n e.tv = true := by
  simp only [Eng.tv, clean]; exact cleans_tab
theorem deepL_cons (n : Nat) (v : AV) (vs : List AV) (h : AH) : deepL (n + 1) (v :: vs) h = ((deepV n v h).1 :: (deepL n vs (deepV n v h).2).1, (deepL n vs (deepV n v h).2).2) := by rw [deepL]
theorem deepL_nil (n : Nat) (h : AH) : deepL n [] h = ([], h) := by cases n <;> rw [deepL]
theorem deepV_dt {n a : Nat} {h : AH} {kvs : List (List Ky × AV)} (q : h[a]? = some (.dt kvs)) (c : cleans 0 (kvs.map (·.2)) = true) : deepV (n + 1) (.ref a) h = (.ft (kvs.map (·.1)) (kvs.map (·.2)), h.set a .dead) := by
  rw [deepV]
  simp only [q]
  rw [deepL_clean n _ _ c]
theorem deepV_dk {n a : Nat} {h h2 : AH} {kvs : List (Ky × AV)} {ws : List AV} (q : h[a]? = some (.dk kvs)) (c : deepL n (kvs.map (·.2)) (h.set a .dead) = (ws, h2)) : deepV (n + 1) (.ref a) h = (.fk (kvs.map (·.1)) ws, h2) := by
  rw [deepV]
  simp only [q]
  rw [c]
theorem deepV_lst {n a : Nat} {h : AH} {xs : List AV} (q : h[a]? = some (.lst xs)) (c : cleans 0 xs = true) : deepV (n + 1) (.ref a) h = (.fl xs, h.set a .dead) := by
  rw [deepV]
  simp only [q]
  rw [deepL_clean n _ _ c]
theorem deepL_clean1 {n : Nat} {v : AV} {vs ws : List AV} {h h2 : AH} (c : clean 0 v = true) (d : deepL n vs h = (ws, h2)) : deepL (n + 1) (v :: vs) h = (v :: ws, h2) := by
  rw [deepL_cons, deepV_clean n v h c]
  dsimp only
  rw [d]
theorem deepL_eng {e : Eng} {A : AH} {c n : Nat} : deepL (n + 5) ((e.fs (.ref (A.length + 1))).map (·.2)) (A ++ [.ins c (e.fs (.ref (A.length + 1))), .dt (tab e.N e.K e.R)]) = ((e.fs e.tv).map (·.2), A ++ [.ins c (e.fs (.ref (A.length + 1))), .dead]) := by
  refine deepL_clean1 clean_sts (deepL_clean1 clean_pt (deepL_clean1 clean_sts ?_))
  show deepL (n + 1 + 1) [.ref (A.length + 1)] _ = ([e.tv], _)
  rw [deepL_cons, deepV_dt end_get1 cleans_tab, deepL_nil, end_set1]
  rfl
theorem deepO_eng {e : Eng} {A : AH} {c n : Nat} : deepO (n + 5) A.length (A ++ [.ins c (e.fs (.ref (A.length + 1))), .dt (tab e.N e.K e.R)]) = some (A ++ [.ins c (e.fs e.tv), .dead]) := by
  unfold deepO
  rw [end_get]
  dsimp only
  rw [deepL_eng]
  dsimp only
  rw [end_get]
  dsimp only
  rw [end_set, show ((e.fs (.ref (A.length + 1))).map (·.1)).zip ((e.fs e.tv).map (·.2)) = e.fs e.tv from rfl]
/-- the number of the pass that computes a name -/
def Eng.turn (e : Eng) (n : Str) : Nat := e.P.findIdx fun p => decide (n ∈ p.2)
theorem Eng.turn_lt {e : Eng} {n : Str} (h : n ∈ e.N) : e.turn n < e.P.length := by
  obtain ⟨p, hp, hn⟩ := List.mem_flatMap.mp h
  exact List.findIdx_lt_length_of_exists ⟨p, hp, by simpa using hn⟩
theorem filt_head {α : Type} {q : α → Bool} : ∀ {P : List α}, (∃ p ∈ P, q p = true) → ((List.range P.length).filter fun i => (P[i]?.map q).getD false)[0]? = some (P.findIdx q)
  | [], h => by obtain ⟨p, hp, _⟩ := h; simp at hp
  | p :: P, h => by
    rw [List.length_cons, List.range_succ_eq_map, List.findIdx_cons]
    cases hq : q p with
    | true => simp [hq]
    | false =>
      have z : ∃ x ∈ P, q x = true := by
        obtain ⟨x, hx, hxq⟩ := h
        rcases List.mem_cons.mp hx with rfl | hx
        · rw [hq] at hxq; cases hxq
        · exact ⟨x, hx, hxq⟩
      have ih := filt_head z
      rw [List.filter_cons_of_neg (by simp [hq]), List.filter_map, List.getElem?_map]
      rw [show ((fun i => (((p :: P)[i]?).map q).getD false) ∘ Nat.succ) = fun i => (P[i]?.map q).getD false from by funext i; simp, ih]
      rfl
theorem trim_ref {h X : AH} {i : Nat} (q : h.length ≤ i) : trimR 0 h (.ok (.ref i) X) = .ok (.ref i) X := by
  unfold trimR
  dsimp only
  rw [if_neg]
  rintro ⟨_, z, _⟩
  simp only [clean, decide_eq_true_eq] at z
  omega
theorem v_get_tab {e : Eng} (E : e.Ok) {h : AH} {i j : Nat} {k n : Str} {r : List (List Str)} {l : List Str} (hk : e.K[i]? = some k) (hr : e.R[i]? = some r) (hn : e.N[j]? = some n) (hl : r[j]? = some l) : dGetA e.tv (.tup [.str k, .str n]) h = some (some (.ctp l)) := by
  show some (valA (((tab e.N e.K e.R).map (·.1)).zip ((tab e.N e.K e.R).map (·.2))) [.inr k, .inr n]) = _
  rw [zip_fst_snd, tab_get E.nnd E.knd hk hr hn hl]
theorem v_app {h : AH} {a : Nat} {xs : List AV} {v : AV} (q : h[a]? = some (.lst xs)) (z : xs.length < 1000) : mAppend (.ref a) [v] h = .ok .non (h.set a (.lst (xs ++ [v]))) := by
  simp only [mAppend, q]
  rw [if_pos (by rw [sizeLine_eq]; omega)]
section
variable {o x y z : AO} {R X : AH}
theorem tl_get0 : (o :: (R ++ x :: X))[R.length + 1]? = some x := by simp
theorem tl_set0 : (o :: (R ++ x :: X)).set (R.length + 1) z = o :: (R ++ z :: X) := by
  rw [List.set_cons_succ, end_set]
theorem tl_get1 : (o :: (R ++ x :: y :: X))[R.length + 1 + 1]? = some y := by
  rw [List.getElem?_cons_succ, end_get1]
theorem tl_set1 : (o :: (R ++ x :: y :: X)).set (R.length + 1 + 1) z = o :: (R ++ x :: z :: X) := by
  rw [List.set_cons_succ, end_set1]
end
theorem sty_len : Str.length "." = 1 := by decide
theorem src_cat {b : Bool} {C : CE} {h : AH} {r n : Str} (hr : r ∈ rels) (hn : n ∈ menuN) : oAdd b (.str r) (.str ".") h = .ok (.str (r ++ ".")) h ∧ oAdd b (.str (r ++ ".")) (.str n) h = .ok (.str (srcOf r n)) h := by
  obtain ⟨f1, f2, f3, f4, f5, f6, f7, f8⟩ := src_facts r hr n hn
  exact ⟨v_cat (by rw [sizeLine_eq, sty_len]; omega), v_cat (by rw [sizeLine_eq, f7]; omega)⟩
theorem flen {N : List Str} : ∀ L : List Str, (L.flatMap fun r => N.map (srcOf r)).length = L.length * N.length
  | [] => by simp
  | r :: L => by
    rw [List.flatMap_cons, List.length_append, flen L, List.length_map, List.length_cons, Nat.add_mul]
    omega
end Mi

namespace Mi
open PySem PySem.Spec PyProof.Rows L2
theorem cut_to {xs : List AV} {m : Nat} : cutA xs none (some (m : Int)) = xs.take m := by
  unfold cutA
  rw [HT.sIx_none, HT.sIx_nat, List.drop_zero, Nat.sub_zero]
  by_cases h : m ≤ xs.length
  · rw [Nat.min_eq_left h]
  · rw [Nat.min_eq_right (by omega), List.take_length, List.take_of_length_le (by omega)]
theorem cut_from {xs : List AV} {m : Nat} : cutA xs (some (m : Int)) none = xs.drop m := by
  unfold cutA
  rw [HT.sIx_none, HT.sIx_nat]
  by_cases h : m ≤ xs.length
  · rw [Nat.min_eq_left h, List.take_of_length_le (by rw [List.length_drop]; omega)]
  · rw [Nat.min_eq_right (by omega), List.drop_eq_nil_of_le (Nat.le_refl _), List.drop_eq_nil_of_le (by omega)]; simp
theorem v_cutto {C : AV} {h : AH} {xs : List AV} {i : Int} {m : Nat} (q : i = m) : bCut false (.fl xs) none (some i) h = .ok (.fl (xs.take m)) h := by
  subst q
  simp only [bCut, lstOf, newL_f, cut_to]
theorem v_cutfrom {h : AH} {xs : List AV} {i : Int} {m : Nat} (q : i = m) : bCut false (.fl xs) (some i) none h = .ok (.fl (xs.drop m)) h := by
  subst q
  simp only [bCut, lstOf, newL_f, cut_from]
def kDisp (b : Bool) : List (AV × AV) → AH → R AV := fun ps h1 => match keyPs ps with
  | some kvs => if kvs.length ≤ 15 then newK b (mergeA [] kvs) h1 else .bad
  | none => .bad
def kDp1 (fv : SE) (r : SP2) (σ : Sl) : AV → AH → R (List (AV × AV)) := fun x h1 => (fv σ h1).bind fun y h2 => (r σ h2).bind fun ps h3 => .ok ((x, y) :: ps) h3
def kDp2 (r : SP2) (σ : Sl) (x : AV) : AV → AH → R (List (AV × AV)) := fun y h2 => (r σ h2).bind fun ps h3 => .ok ((x, y) :: ps) h3
def kDp3 (x y : AV) : List (AV × AV) → AH → R (List (AV × AV)) := fun ps h3 => .ok ((x, y) :: ps) h3
section
variable {b : Bool} {ps r : SP2} {fk fv : SE} {σ : Sl} {h : AH} {x y : AV} {l : List (AV × AV)}
@[simp] theorem e_disp : sDisp b ps σ h = (ps σ h).bind (kDisp b) := (rfl)
@[simp] theorem e_dpnil : dpNil σ h = .ok [] h := (rfl)
@[simp] theorem e_dpcons : dpCons fk fv r σ h = (fk σ h).bind (kDp1 fv r σ) := (rfl)
@[simp] theorem k_dp1 : kDp1 fv r σ x h = (fv σ h).bind (kDp2 r σ x) := (rfl)
@[simp] theorem k_dp2 : kDp2 r σ x y h = (r σ h).bind (kDp3 x y) := (rfl)
@[simp] theorem k_dp3 : kDp3 x y l h = .ok ((x, y) :: l) h := (rfl)
end
/-- the law's dict, while it is drawn -/
def engK (a b c d : AV) : List (Ky × AV) := [(.inr "kinds", a), (.inr "passes", b), (.inr "sources", c), (.inr "names", d)]
theorem merge_eng {a b c d : AV} : mergeA [] [(.inr "kinds", a), (.inr "passes", b), (.inr "sources", c), (.inr "names", d)] = engK a b c d := rfl
theorem k_eng {a b c d : AV} {h : AH} : kDisp true [(.str "kinds", a), (.str "passes", b), (.str "sources", c), (.str "names", d)] h = .ok (.ref h.length) (h ++ [.dk (engK a b c d)]) := by
  unfold kDisp
  rw [show keyPs [(.str "kinds", a), (.str "passes", b), (.str "sources", c), (.str "names", d)] = some [(.inr "kinds", a), (.inr "passes", b), (.inr "sources", c), (.inr "names", d)] from rfl]
  dsimp only
  rw [if_pos (by simp), merge_eng]
  rfl
theorem engK_k {a b c d : AV} : valA (engK a b c d) (.inr "kinds") = some a := rfl
theorem engK_p {a b c d : AV} : valA (engK a b c d) (.inr "passes") = some b := rfl
theorem engK_s {a b c d : AV} : valA (engK a b c d) (.inr "sources") = some c := rfl
theorem engK_n {a b c d : AV} : valA (engK a b c d) (.inr "names") = some d := rfl
theorem put_n {a b c d w : AV} {h : AH} {i : Nat} (q : h[i]? = some (.dk (engK a b c d))) : dPutA (.ref i) (.str "names") w h = some (h.set i (.dk (engK a b c w))) := by
  simp only [dPutA, q, keyOf]
  rw [if_pos (by rw [sizeLine_eq]; exact (by decide : (4 : Nat) < 16777216)), show putD (engK a b c d) (.inr "names") w = engK a b c w from rfl]
def rowsV (b : Nat) : List Str → List AV
  | [] => []
  | d :: ds => .fl [.str d, .ref b] :: rowsV (b + 1) ds
theorem rowsV_length : ∀ {ds : List Str} {b : Nat}, (rowsV b ds).length = ds.length
  | [], _ => rfl
  | d :: ds, b => by simp [rowsV, rowsV_length (ds := ds)]
theorem rowsV_snoc : ∀ {ds : List Str} {b : Nat} {d : Str}, rowsV b (ds ++ [d]) = rowsV b ds ++ [.fl [.str d, .ref (b + ds.length)]]
  | [], b, d => by simp [rowsV]
  | x :: ds, b, d => by
    simp only [List.cons_append, rowsV, rowsV_snoc (ds := ds), List.length_cons]
    rw [Nat.add_assoc, Nat.add_comm 1]
theorem rowsV_get : ∀ {ds : List Str} {b i : Nat} {d : Str}, ds[i]? = some d → (rowsV b ds)[i]? = some (.fl [.str d, .ref (b + i)])
  | [], _, _, _, h => by simp at h
  | x :: ds, b, 0, d, h => by simp at h; subst h; rfl
  | x :: ds, b, i + 1, d, h => by
    simp at h
    simp only [rowsV, List.getElem?_cons_succ, rowsV_get h]
    rw [Nat.add_assoc, Nat.add_comm 1]
abbrev lsts (qs : List (List Str)) : AH := qs.map fun q => .lst (sts q)
theorem deep_rows : ∀ (ds : List Str) (qs : List (List Str)) (P : AH) (n : Nat), ds.length = qs.length → ds.length + 4 ≤ n →
    deepL n (rowsV P.length ds) (P ++ lsts qs) = ((ds.zip qs).map (fun p => .fl [.str p.1, .fl (sts p.2)]), P ++ List.replicate ds.length .dead)
  | [], qs, P, n, h1, h2 => by
    have : qs = [] := List.eq_nil_of_length_eq_zero h1.symm
    subst this
    simp [rowsV, deepL_nil]
  | d :: ds, [], P, n, h1, h2 => by simp at h1
  | d :: ds, q :: qs, P, n, h1, h2 => by
    obtain ⟨m, rfl⟩ : ∃ m, n = m + 5 := ⟨n - 5, by simp only [List.length_cons] at h2; omega⟩
    have dv : deepV (m + 4) (.fl [.str d, .ref P.length]) (P ++ .lst (sts q) :: lsts qs) = (.fl [.str d, .fl (sts q)], P ++ .dead :: lsts qs) := by
      rw [deepV]
      rw [show deepL (m + 3) [.str d, .ref P.length] (P ++ .lst (sts q) :: lsts qs) = ([.str d, .fl (sts q)], P ++ .dead :: lsts qs) from deepL_clean1 rfl (by
        rw [deepL_cons, deepV_lst end_get cleans_sts, deepL_nil, end_set])]
    have ih := deep_rows ds qs (P ++ [.dead]) (m + 4) (by simpa using h1) (by simp only [List.length_cons] at h2; omega)
    rw [List.length_append, List.length_singleton] at ih
    simp only [List.append_assoc, List.singleton_append] at ih
    simp only [rowsV, List.map_cons, List.zip_cons_cons, List.length_cons, List.replicate_succ]
    rw [deepL_cons, dv]
    dsimp only
    rw [ih]
def srcD (N : List Str) (r : List (List Str)) : List (Ky × AV) := (N.zip r).map fun p => (.inr p.1, .fl (sts p.2))
def kindD (b : Nat) : List Str → List (Ky × AV)
  | [] => []
  | k :: ks => (.inr k, .ref b) :: kindD (b + 1) ks
theorem kindD_fst : ∀ {ks : List Str} {b : Nat}, (kindD b ks).map (·.1) = ks.map .inr
  | [], _ => rfl
  | k :: ks, b => by simp [kindD, kindD_fst (ks := ks)]
theorem kindD_length {ks : List Str} {b : Nat} : (kindD b ks).length = ks.length := by
  have z := congrArg List.length (kindD_fst (ks := ks) (b := b))
  simpa using z
theorem kindD_snoc : ∀ {ks : List Str} {b : Nat} {k : Str}, kindD b (ks ++ [k]) = kindD b ks ++ [(.inr k, .ref (b + ks.length))]
  | [], b, k => by simp [kindD]
  | x :: ks, b, k => by
    simp only [List.cons_append, kindD, kindD_snoc (ks := ks), List.length_cons]
    rw [Nat.add_assoc, Nat.add_comm 1]
theorem srcD_fst {N : List Str} {r : List (List Str)} (h : N.length = r.length) : (srcD N r).map (·.1) = N.map .inr := by
  unfold srcD
  rw [List.map_map]
  induction N generalizing r with
  | nil => rfl
  | cons n N ih =>
    cases r with
    | nil => simp at h
    | cons l r => simp at h; simp [ih h]
theorem srcD_snd {N : List Str} {r : List (List Str)} (h : N.length = r.length) : (srcD N r).map (·.2) = r.map fun l => .fl (sts l) := by
  unfold srcD
  rw [List.map_map]
  induction N generalizing r with
  | nil => cases r with
    | nil => rfl
    | cons l r => simp at h
  | cons n N ih =>
    cases r with
    | nil => simp at h
    | cons l r => simp at h; simp [ih h]
theorem srcD_snoc {N : List Str} {r : List (List Str)} {n : Str} {l : List Str} (h : N.length = r.length) : srcD (N ++ [n]) (r ++ [l]) = srcD N r ++ [(.inr n, .fl (sts l))] := by
  unfold srcD
  rw [List.zip_append h]
  simp
theorem srcD_key {N : List Str} {r : List (List Str)} {x : Str} (h : Sum.inr x ∈ (srcD N r).map (·.1)) : x ∈ N := by
  unfold srcD at h
  rw [List.map_map] at h
  obtain ⟨p, hp, e⟩ := List.mem_map.mp h
  simp at e
  subst e
  exact (List.of_mem_zip hp).1
abbrev dks (N : List Str) (rs : List (List (List Str))) : AH := rs.map fun r => .dk (srcD N r)
theorem deep_kinds {N : List Str} : ∀ (ks : List Str) (rs : List (List (List Str))) (P : AH) (n : Nat), (∀ r ∈ rs, N.length = r.length) → ks.length = rs.length → ks.length + 4 ≤ n →
    deepL n ((kindD P.length ks).map (·.2)) (P ++ dks N rs) = (rs.map (fun r => .fk (N.map .inr) (r.map fun l => .fl (sts l))), P ++ List.replicate ks.length .dead)
  | [], rs, P, n, h0, h1, h2 => by
    have : rs = [] := List.eq_nil_of_length_eq_zero h1.symm
    subst this
    simp [kindD, deepL_nil]
  | k :: ks, [], P, n, h0, h1, h2 => by simp at h1
  | k :: ks, r :: rs, P, n, h0, h1, h2 => by
    obtain ⟨m, rfl⟩ : ∃ m, n = m + 4 := ⟨n - 4, by omega⟩
    have hr := h0 r List.mem_cons_self
    have cl : cleans 0 ((srcD N r).map (·.2)) = true := by
      rw [srcD_snd hr]
      exact cleans_iff.mpr fun v hv => by obtain ⟨x, _, rfl⟩ := List.mem_map.mp hv; exact clean_sts
    have dv : deepV (m + 3) (.ref P.length) (P ++ .dk (srcD N r) :: dks N rs) = (.fk (N.map .inr) (r.map fun l => .fl (sts l)), P ++ .dead :: dks N rs) := by
      rw [deepV_dk (ws := r.map fun l => .fl (sts l)) (h2 := P ++ .dead :: dks N rs) end_get (by rw [deepL_clean _ _ _ cl, srcD_snd hr, end_set]), srcD_fst hr]
    have ih := deep_kinds ks rs (P ++ [.dead]) (m + 3) (fun r hr => h0 r (List.mem_cons_of_mem _ hr)) (by simpa using h1) (by simp only [List.length_cons] at h2; omega)
    rw [List.length_append, List.length_singleton] at ih
    simp only [List.append_assoc, List.singleton_append] at ih
    simp only [kindD, List.map_cons, List.length_cons, List.replicate_succ]
    rw [deepL_cons, dv]
    dsimp only
    rw [ih]
theorem flat_set : ∀ {qs : List (List Str)} {j : Nat} {q : List Str} {n : Str}, qs[j]? = some q → ((qs.set j (q ++ [n])).flatten).Perm (qs.flatten ++ [n])
  | [], _, _, _, h => by simp at h
  | x :: qs, 0, q, n, h => by
    simp at h
    subst h
    rw [List.set_cons_zero, List.flatten_cons, List.flatten_cons, List.append_assoc, List.append_assoc]
    exact List.Perm.append_left _ List.perm_append_comm
  | x :: qs, j + 1, q, n, h => by
    simp at h
    rw [List.set_cons_succ, List.flatten_cons, List.flatten_cons, List.append_assoc]
    exact List.Perm.append_left _ (flat_set h)
theorem deepV_fl {n : Nat} {xs : List AV} {h : AH} : deepV (n + 1) (.fl xs) h = (.fl (deepL n xs h).1, (deepL n xs h).2) := by rw [deepV]
theorem zip_flat : ∀ {ds : List Str} {qs : List (List Str)}, ds.length = qs.length → (ds.zip qs).flatMap (·.2) = qs.flatten
  | [], [], _ => rfl
  | [], _ :: _, h => by simp at h
  | _ :: _, [], h => by simp at h
  | d :: ds, q :: qs, h => by
    simp at h
    rw [List.zip_cons_cons, List.flatMap_cons, List.flatten_cons, zip_flat h]
section
variable {o x y z : AO} {R X Y Z : AH} {j : Nat}
theorem tl_get : (o :: (R ++ X))[R.length + 1 + j]? = X[j]? := by
  rw [show R.length + 1 + j = (R.length + j) + 1 from by omega, List.getElem?_cons_succ, List.getElem?_append_right (by omega), Nat.add_sub_cancel_left]
theorem tl_set : (o :: (R ++ X)).set (R.length + 1 + j) z = o :: (R ++ X.set j z) := by
  rw [show R.length + 1 + j = (R.length + j) + 1 from by omega, List.set_cons_succ, List.set_append_right _ _ (by omega), Nat.add_sub_cancel_left]
theorem tl_get3 : (o :: (R ++ x :: y :: (Y ++ z :: Z)))[R.length + 1 + 2 + Y.length]? = some z := by
  rw [show R.length + 1 + 2 + Y.length = R.length + 1 + (Y.length + 2) from by omega, tl_get]
  simp
theorem tl_set3 {w : AO} : (o :: (R ++ x :: y :: (Y ++ z :: Z))).set (R.length + 1 + 2 + Y.length) w = o :: (R ++ x :: y :: (Y ++ w :: Z)) := by
  rw [show R.length + 1 + 2 + Y.length = R.length + 1 + (Y.length + 2) from by omega, tl_set]
  simp
end
/-- the law's dict becomes a value -/
theorem deep_eng {e : Eng} {o : AO} {R : AH} {n : Nat} (h1 : e.R.length = e.K.length) (h2 : ∀ r ∈ e.R, r.length = e.N.length) (hn : e.K.length + 10 ≤ n) :
    deepV n (.ref (R.length + 1 + 1)) (o :: (R ++ .dk (kindD (R.length + 1 + 2) e.K) :: .dk (engK (.fl (sts e.K)) (.fl e.pv) (.ref (R.length + 1)) (.fl (sts e.N))) :: dks e.N e.R)) = (e.val, o :: (R ++ .dead :: .dead :: List.replicate e.K.length .dead)) := by
  obtain ⟨m, rfl⟩ : ∃ m, n = m + 6 := ⟨n - 6, by omega⟩
  have cp : clean 0 (.fl e.pv) = true := by
    simp only [clean]
    refine cleans_iff.mpr fun v hv => ?_
    obtain ⟨p, _, rfl⟩ := List.mem_map.mp hv
    simp [clean, cleans]
  have kd := deep_kinds (N := e.N) e.K e.R (o :: (R ++ [.dead, .dead])) (m + 1) (fun r hr => (h2 r hr).symm) h1.symm (by omega)
  rw [show (o :: (R ++ [AO.dead, .dead])).length = R.length + 1 + 2 from by simp] at kd
  simp only [List.cons_append, List.append_assoc, List.nil_append] at kd
  have sd : deepV (m + 2) (.ref (R.length + 1)) (o :: (R ++ .dk (kindD (R.length + 1 + 2) e.K) :: .dead :: dks e.N e.R)) = (e.sv, o :: (R ++ .dead :: .dead :: List.replicate e.K.length .dead)) := by
    rw [deepV_dk (ws := e.R.map fun r => .fk (e.N.map .inr) (r.map fun l => .fl (sts l))) (h2 := o :: (R ++ .dead :: .dead :: List.replicate e.K.length .dead)) tl_get0 (by rw [tl_set0]; exact kd), kindD_fst]
    rfl
  rw [deepV_dk (ws := [.fl (sts e.K), .fl e.pv, e.sv, .fl (sts e.N)]) (h2 := o :: (R ++ .dead :: .dead :: List.replicate e.K.length .dead)) tl_get1]
  · rfl
  · rw [tl_set1]
    show deepL (m + 5) [.fl (sts e.K), .fl e.pv, .ref (R.length + 1), .fl (sts e.N)] _ = _
    refine deepL_clean1 clean_sts (deepL_clean1 cp ?_)
    rw [deepL_cons, sd]
    dsimp only
    rw [deepL_clean _ _ _ (by simp [cleans])]
theorem clean_val {n : Nat} {e : Eng} : clean n e.val = true := by
  have a : cleans n e.pv = true := cleans_iff.mpr fun v hv => by
    obtain ⟨p, _, rfl⟩ := List.mem_map.mp hv
    simp [clean, cleans]
  have b : clean n e.sv = true := by
    simp only [Eng.sv, clean]
    refine cleans_iff.mpr fun v hv => ?_
    obtain ⟨p, _, rfl⟩ := List.mem_map.mp hv
    simp only [clean]
    refine cleans_iff.mpr fun v hv => ?_
    obtain ⟨p, _, rfl⟩ := List.mem_map.mp hv
    exact clean_sts
  have c : clean n (.fl e.pv) = true := by simpa only [clean] using a
  show cleans n [.fl (sts e.K), .fl e.pv, e.sv, .fl (sts e.N)] = true
  exact cleans_iff.mpr fun v hv => by
    simp only [List.mem_cons, List.not_mem_nil, or_false] at hv
    rcases hv with rfl | rfl | rfl | rfl
    · exact clean_sts
    · exact c
    · exact b
    · exact clean_sts
theorem sts_append {xs ys : List Str} : sts (xs ++ ys) = sts xs ++ sts ys := List.map_append
section
variable {C : CE} {h : AH} {a c f : Nat} {fs : Fs} {xs : List AV} {nm : Str} {y : AV}
theorem v_list_own (q : h[a]? = some (.ins c fs)) (q1 : C.it c = some nm) (q2 : fs.lookup nm = some (.fl xs)) (q3 : C.dn c .len = none) (z : xs.length < 1000) : bList false C (.ref a) h = .ok (.fl xs) h := by
  have e1 : seqOf (.ref a) h = none := by simp [seqOf, q]
  have e2 : cls? (.ref a) h = some (c, fs) := by simp [cls?, q]
  unfold bList itSrc
  rw [e1, e2]
  dsimp only
  rw [q1]
  dsimp only
  rw [q2]
  dsimp only
  rw [q3]
  dsimp only
  rw [if_pos (by rw [sizeLine_eq]; omega)]
  rfl
theorem v_ixO (q : h[a]? = some (.ins c fs)) (q1 : C.dn c .get = some f) : oIxA C (.ref a) y h = C.call f [.ref a, y] h := by
  have e1 : dGetA (.ref a) y h = none := by simp [dGetA, q]
  have e2 : cls? (.ref a) h = some (c, fs) := by simp [cls?, q]
  unfold oIxA
  rw [e1, e2]
  dsimp only
  rw [q1]
theorem is_fl : bIsT .list (.fl xs) h = .ok (.bl true) h := rfl
theorem is_lstO (q : h[a]? = some (.lst xs)) : bIsT .list (.ref a) h = .ok (.bl true) h := by
  unfold bIsT
  dsimp only
  rw [q]
  rfl
end
theorem g_val_k {e : Eng} {h : AH} : dGetA e.val (.str "kinds") h = some (some (.fl (sts e.K))) := rfl
theorem g_val_p {e : Eng} {h : AH} : dGetA e.val (.str "passes") h = some (some (.fl e.pv)) := rfl
theorem g_val_s {e : Eng} {h : AH} : dGetA e.val (.str "sources") h = some (some e.sv) := rfl
theorem g_val_n {e : Eng} {h : AH} : dGetA e.val (.str "names") h = some (some (.fl (sts e.N))) := rfl
theorem inr_nodup {K : List Str} (h : K.Nodup) : (K.map (Sum.inr : Str → Ky)).Nodup := by
  rw [List.nodup_iff_pairwise_ne, List.pairwise_map]
  exact h.imp fun ne e => ne (by cases e; rfl)
theorem g_sv {e : Eng} {h : AH} (knd : e.K.Nodup) {i : Nat} {k : Str} {r : List (List Str)} (hk : e.K[i]? = some k) (hr : e.R[i]? = some r) : dGetA e.sv (.str k) h = some (some (.fk (e.N.map .inr) (r.map fun l => .fl (sts l)))) := by
  unfold Eng.sv
  rw [g_fk, valA_zip (inr_nodup knd) (i := i) (by rw [List.getElem?_map, hk]; rfl) (by rw [List.getElem?_map, hr]; rfl)]
theorem g_svn {e : Eng} {h : AH} (nnd : e.N.Nodup) {j : Nat} {n : Str} {r : List (List Str)} {l : List Str} (hn : e.N[j]? = some n) (hl : r[j]? = some l) : dGetA (.fk (e.N.map .inr) (r.map fun l => .fl (sts l))) (.str n) h = some (some (.fl (sts l))) := by
  rw [g_fk, valA_zip (inr_nodup nnd) (i := j) (by rw [List.getElem?_map, hn]; rfl) (by rw [List.getElem?_map, hl]; rfl)]
theorem get_app {A G : AH} {a : Nat} {o : AO} (h : A[a]? = some o) : (A ++ G)[a]? = some o := by
  rw [List.getElem?_append_left (List.getElem?_eq_some_iff.mp h).1, h]
theorem dir_ok : ∀ d : Str, d = "down" ∨ d = "up" → okS d := fun d h => by
  rcases h with rfl | rfl
  · decide +kernel
  · decide +kernel
theorem sLc_inv {it : SI} {s : Src} {xs : List AV} {g : SG} {e : SE} {vs : List Nat} {σ : Sl} {h h1 : AH} (I : Nat → List AV → AH → Prop) (hi : it σ h = .ok s h1) (hl : s.len (h1 ++ [.lst []]) = xs.length) (hat : ∀ i acc h, I i acc h → s.at i h = some xs[i]?) (h0 : I 0 [] (h1 ++ [.lst []]))
    (step : ∀ i x acc h, xs[i]? = some x → I i acc h → ∃ σ1, g x (wipeA σ vs) = some σ1 ∧ ∃ w h3, e σ1 h = .ok w h3 ∧ h3[h1.length]? = some (.lst acc) ∧ acc.length < 1000 ∧ I (i + 1) (acc ++ [w]) (h3.set h1.length (.lst (acc ++ [w])))) :
    ∃ acc2 h2, sLc it g Mi.tYes e vs σ h = .ok (.ref h1.length) h2 ∧ I xs.length acc2 h2 := by
  unfold sLc
  rw [hi]
  simp only [bind_ok]
  rw [hl]
  have main : ∀ (k i : Nat) (acc : List AV) (h : AH), xs.length = i + k → I i acc h → ∃ acc2 h2, lcL s g Mi.tYes e h1.length (wipeA σ vs) k i h = .ok (.ref h1.length) h2 ∧ I xs.length acc2 h2 := by
    intro k
    induction k with
    | zero =>
      intro i acc h hl hi
      unfold lcL
      rw [hat i acc h hi, List.getElem?_eq_none (by omega)]
      exact ⟨acc, h, rfl, by rw [hl]; exact hi⟩
    | succ k ih =>
      intro i acc h hl hi
      have hx : xs[i]? = some xs[i] := List.getElem?_eq_getElem (by omega)
      obtain ⟨σ1, e1, w, h3, e3, e4, e5, e6⟩ := step i _ acc h hx hi
      unfold lcL
      rw [hat i acc h hi, hx]
      dsimp only
      rw [e1]
      dsimp only
      rw [show Mi.tYes σ1 h = .ok true h from rfl]
      dsimp only
      rw [e3]
      dsimp only
      rw [e4]
      dsimp only
      rw [if_pos (by rw [sizeLine_eq]; omega)]
      exact ih (i + 1) _ _ (by omega) e6
  exact main xs.length 0 [] _ (by simp) h0
/-- the passes, their lists objects -/
def rowsT (b : Nat) : List (Str × List Str) → List AV
  | [] => []
  | p :: ps => .tup [.str p.1, .ref b] :: rowsT (b + 1) ps
theorem rowsT_length : ∀ {P : List (Str × List Str)} {b : Nat}, (rowsT b P).length = P.length
  | [], _ => rfl
  | d :: ds, b => by simp [rowsT, rowsT_length (P := ds)]
theorem rowsT_snoc : ∀ {P : List (Str × List Str)} {b : Nat} {p : Str × List Str}, rowsT b (P ++ [p]) = rowsT b P ++ [.tup [.str p.1, .ref (b + P.length)]]
  | [], b, d => by simp [rowsT]
  | x :: ds, b, d => by
    simp only [List.cons_append, rowsT, rowsT_snoc (P := ds), List.length_cons]
    rw [Nat.add_assoc, Nat.add_comm 1]
theorem rowsT_get : ∀ {P : List (Str × List Str)} {b i : Nat} {p : Str × List Str}, P[i]? = some p → (rowsT b P)[i]? = some (.tup [.str p.1, .ref (b + i)])
  | [], _, _, _, h => by simp at h
  | x :: ds, b, 0, d, h => by simp at h; subst h; rfl
  | x :: ds, b, i + 1, d, h => by
    simp at h
    simp only [rowsT, List.getElem?_cons_succ, rowsT_get h]
    rw [Nat.add_assoc, Nat.add_comm 1]
theorem rowsT_ok {A0 Z : AH} {P : List (Str × List Str)} {x : AO} : RowsOk (A0 ++ x :: (lsts (P.map (·.2)) ++ Z)) (rowsT (A0.length + 1) P) P := by
  refine ⟨rowsT_length, fun i p hp => ⟨_, rowsT_get hp, fun X => lst_ref ?_⟩⟩
  have hi : i < P.length := (List.getElem?_eq_some_iff.mp hp).1
  rw [List.append_assoc, show A0.length + 1 + i = A0.length + (i + 1) from by omega, List.getElem?_append_right (by omega), Nat.add_sub_cancel_left, List.cons_append, List.getElem?_cons_succ, List.append_assoc, List.getElem?_append_left (by simpa using hi), List.getElem?_map, List.getElem?_map, hp]
  rfl
theorem kindD_get : ∀ {N : List Str} {b j : Nat} {n : Str}, N[j]? = some n → (kindD b N)[j]? = some (.inr n, .ref (b + j))
  | [], _, _, _, h => by simp at h
  | x :: ds, b, 0, d, h => by simp at h; subst h; rfl
  | x :: ds, b, i + 1, d, h => by
    simp at h
    simp only [kindD, List.getElem?_cons_succ, kindD_get h]
    rw [Nat.add_assoc, Nat.add_comm 1]
theorem valA_get {κ : Type} [DecidableEq κ] : ∀ {l : List (κ × AV)} {i : Nat} {k : κ} {v : AV}, (l.map (·.1)).Nodup → l[i]? = some (k, v) → valA l k = some v
  | [], _, _, _, _, h => by simp at h
  | x :: l, 0, k, v, _, h => by simp at h; subst h; simp [valA]
  | x :: l, i + 1, k, v, nd, h => by
    simp at h
    rw [List.map_cons, List.nodup_cons] at nd
    have ne : x.1 ≠ k := fun e => nd.1 (by rw [e]; exact List.mem_map.mpr ⟨_, List.mem_of_getElem? h, rfl⟩)
    have z := valA_get nd.2 h
    simp only [valA, List.find?_cons, ne, decide_false] at z ⊢
    exact z
/-- a kind's dict and lists, in a stretch of the arena that begins at b -/
def Blk (b : Nat) (B : AH) (off : Nat) (N : List Str) (r : List (List Str)) : Prop := B[off]? = some (.dk (kindD (b + off + 1) N)) ∧ ∀ (j : Nat) l, r[j]? = some l → B[off + 1 + j]? = some (.lst (sts l))
theorem Blk.app {b : Nat} {B X : AH} {off : Nat} {N : List Str} {r : List (List Str)} (h : Blk b B off N r) : Blk b (B ++ X) off N r := ⟨get_app h.1, fun j l hl => get_app (h.2 j l hl)⟩
theorem seg_get {A B X : AH} {x : AO} {i : Nat} {o : AO} (h : B[i]? = some o) : ((A ++ x :: B) ++ X)[A.length + 1 + i]? = some o := by
  rw [List.append_assoc, show A.length + 1 + i = A.length + (i + 1) from by omega, List.getElem?_append_right (by omega), Nat.add_sub_cancel_left, List.cons_append, List.getElem?_cons_succ]
  exact get_app h
theorem blk_srcs {A B : AH} {KD : List (Ky × AV)} {e : Eng} (h1 : KD.map (·.1) = e.K.map .inr) (knd : e.K.Nodup) (nnd : e.N.Nodup) (r2 : ∀ r ∈ e.R, r.length = e.N.length)
    (h2 : ∀ (i : Nat) k r, e.K[i]? = some k → e.R[i]? = some r → ∃ off, KD[i]? = some (.inr k, .ref (A.length + 1 + off)) ∧ Blk (A.length + 1) B off e.N r) : SrcsOk (A ++ .dk KD :: B) (.ref A.length) e := by
  have g : ∀ X, ((A ++ AO.dk KD :: B) ++ X)[A.length]? = some (.dk KD) := fun X => get_app end_get
  have kl : KD.length = e.K.length := by simpa using congrArg List.length h1
  refine ⟨fun X => ?_, fun i k r hk hr => ?_⟩
  · unfold dLen
    simp only [g X, kl]
  · obtain ⟨off, hoff, hb⟩ := h2 i k r hk hr
    have g2 : ∀ X, ((A ++ AO.dk KD :: B) ++ X)[A.length + 1 + off]? = some (.dk (kindD (A.length + 1 + off + 1) e.N)) := fun X => seg_get hb.1
    refine ⟨.ref (A.length + 1 + off), fun X => ⟨?_, ?_⟩, fun j n l hn hl => ⟨.ref (A.length + 1 + off + 1 + j), fun X => ⟨?_, lst_ref ?_⟩⟩⟩
    · rw [g_dk (g X), valA_get (by rw [h1]; exact inr_nodup knd) hoff]
    · unfold dLen
      simp only [g2 X, kindD_length]
    · rw [g_dk (g2 X), valA_get (by rw [kindD_fst]; exact inr_nodup nnd) (kindD_get hn)]
    · rw [show A.length + 1 + off + 1 + j = A.length + 1 + (off + 1 + j) from by omega]
      exact seg_get (hb.2 j l hl)
theorem get_app' {α : Type} {A G : List α} {a : Nat} {o : α} (h : A[a]? = some o) : (A ++ G)[a]? = some o := by
  rw [List.getElem?_append_left (List.getElem?_eq_some_iff.mp h).1, h]
end Mi

namespace Mi
open PySem PySem.Spec PyProof.Rows L2
def ixS (ss : List Str) (x : Str) : Nat := ss.findIdx fun s => decide (s = x)
theorem ixS_some {ss : List Str} {x : Str} (h : x ∈ ss) : ss.findIdx? (fun s => decide (s = x)) = some (ixS ss x) := by
  rw [List.findIdx?_eq_some_iff_findIdx_eq]
  exact ⟨List.findIdx_lt_length_of_exists ⟨x, h, by simp⟩, rfl⟩
theorem v_tix {ss : List Str} {x : Str} {h : AH} (q : x ∈ ss) : mTIndex (.ctp ss) [.str x] h = .ok (.int (ixS ss x : Nat)) h := by
  unfold mTIndex
  dsimp only
  rw [ixS_some q]
theorem v_lix {v : AV} {ss : List Str} {x : Str} {h : AH} (e : lstOf v h = some (sts ss)) (q : x ∈ ss) : mIndex v [.str x] h = .ok (.int (ixS ss x : Nat)) h := by
  unfold mIndex
  rw [e]
  dsimp only
  rw [if_pos ⟨rfl, by simp [isFl, toV]⟩]
  have z : (sts ss).findIdx? (fun z => flatE z (.str x)) = some (ixS ss x) := by
    rw [List.findIdx?_map, ← ixS_some q]
    congr 1
  rw [z]
/-- a source r.m of n is in time -/
def Eng.inR (e : Eng) (r m n : Str) : Bool := if e.turn m = e.turn n then (match e.P[e.turn n]? with
    | some p => if r = "own" then decide (ixS p.2 m < ixS p.2 n) else if r = "before" then true else decide ((r = "parent") ↔ (p.1 = "down"))
    | none => false) else decide (e.turn m < e.turn n)
def Eng.inT (e : Eng) (n s : Str) : Bool := if s = "style" then true else e.inR (Txt.partition s ".").1 (Txt.partition s ".").2.2 n
theorem Eng.inT_style {e : Eng} {n : Str} : e.inT n "style" = true := by simp [Eng.inT]
theorem Eng.inT_src {e : Eng} {r m n : Str} (hr : r ∈ rels) (hm : m ∈ menuN) : e.inT n (srcOf r m) = e.inR r m n := by
  obtain ⟨f1, f2, f3, f4, f5, f6, f7, f8⟩ := src_facts r hr m hm
  unfold Eng.inT
  rw [if_neg f8, f1]
theorem findIdx_get {α : Type} {q : α → Bool} : ∀ {P : List α}, (∃ p ∈ P, q p = true) → ∃ p, P[P.findIdx q]? = some p ∧ p ∈ P ∧ q p = true
  | [], h => by obtain ⟨p, hp, _⟩ := h; simp at hp
  | p :: P, h => by
    rw [List.findIdx_cons]
    cases hq : q p with
    | true => exact ⟨p, rfl, List.mem_cons_self, hq⟩
    | false =>
      have z : ∃ x ∈ P, q x = true := by
        obtain ⟨x, hx, hxq⟩ := h
        rcases List.mem_cons.mp hx with rfl | hx
        · rw [hq] at hxq; cases hxq
        · exact ⟨x, hx, hxq⟩
      obtain ⟨y, h1, h2, h3⟩ := findIdx_get z
      exact ⟨y, h1, List.mem_cons_of_mem _ h2, h3⟩
theorem Eng.turn_mem {e : Eng} {n : Str} (h : n ∈ e.N) : ∃ p, e.P[e.turn n]? = some p ∧ p ∈ e.P ∧ n ∈ p.2 := by
  obtain ⟨p, hp, hn⟩ := List.mem_flatMap.mp h
  obtain ⟨y, h1, h2, h3⟩ := findIdx_get (P := e.P) (q := fun p : Str × List Str => decide (n ∈ p.2)) ⟨p, hp, by simpa using hn⟩
  exact ⟨y, h1, h2, of_decide_eq_true h3⟩
@[simp] theorem v_eqB {C : CE} {x y : Bool} {h : AH} : oEq C (.bl x) (.bl y) h = .ok (.bl (x == y)) h := by
  unfold oEq eqD
  rw [show dat 9 h (.bl x) = some (.bool x) from rfl, show dat 9 h (.bl y) = some (.bool y) from rfl]
  dsimp only
  rw [if_pos ⟨rfl, rfl⟩]
  cases x <;> cases y <;> rfl
/-- the late sources -/
def Eng.lateN (e : Eng) (k n : Str) (l : List Str) : List (Str × Str × Str) := (l.filter fun s => !e.inT n s).map fun s => (k, n, s)
def Eng.lateK (e : Eng) (k : Str) (N : List Str) (r : List (List Str)) : List (Str × Str × Str) := (N.zip r).flatMap fun p => e.lateN k p.1 p.2
def Eng.lateL (e : Eng) (K : List Str) (R : List (List (List Str))) : List (Str × Str × Str) := (K.zip R).flatMap fun p => e.lateK p.1 e.N p.2
abbrev t3 (xs : List (Str × Str × Str)) : List AV := xs.map fun q => .tup [.str q.1, .str q.2.1, .str q.2.2]
theorem lateK_snoc {e : Eng} {k n : Str} {N : List Str} {r : List (List Str)} {l : List Str} (h : N.length = r.length) : e.lateK k (N ++ [n]) (r ++ [l]) = e.lateK k N r ++ e.lateN k n l := by
  unfold Eng.lateK
  rw [List.zip_append h, List.flatMap_append]
  simp
theorem lateL_snoc {e : Eng} {k : Str} {K : List Str} {R : List (List (List Str))} {r : List (List Str)} (h : K.length = R.length) : e.lateL (K ++ [k]) (R ++ [r]) = e.lateL K R ++ e.lateK k e.N r := by
  unfold Eng.lateL
  rw [List.zip_append h, List.flatMap_append]
  simp
theorem lateK_len {e : Eng} {k : Str} {N : List Str} : ∀ {r : List (List Str)}, (∀ l ∈ r, l.length ≤ 4) → (e.lateK k N r).length ≤ N.length * 4 := by
  induction N with
  | nil => intro r _; simp [Eng.lateK]
  | cons n N ih =>
    intro r h
    cases r with
    | nil => simp [Eng.lateK]
    | cons l r =>
      have z := ih fun l hl => h l (List.mem_cons_of_mem _ hl)
      have y : (e.lateN k n l).length ≤ 4 := by
        unfold Eng.lateN
        rw [List.length_map]
        exact Nat.le_trans (List.length_filter_le _ _) (h l List.mem_cons_self)
      simp only [Eng.lateK] at z
      simp only [Eng.lateK, List.zip_cons_cons, List.flatMap_cons, List.length_append, List.length_cons]
      omega
theorem lateL_len {e : Eng} {K : List Str} : ∀ {R : List (List (List Str))}, (∀ r ∈ R, ∀ l ∈ r, l.length ≤ 4) → (e.lateL K R).length ≤ K.length * (e.N.length * 4) := by
  induction K with
  | nil => intro r _; simp [Eng.lateL]
  | cons n K ih =>
    intro R h
    cases R with
    | nil => simp [Eng.lateL]
    | cons l R =>
      have z := ih fun l hl => h l (List.mem_cons_of_mem _ hl)
      have y := lateK_len (e := e) (k := n) (N := e.N) (r := l) (h l List.mem_cons_self)
      simp only [Eng.lateL] at z
      simp only [Eng.lateL, List.zip_cons_cons, List.flatMap_cons, List.length_append, List.length_cons, Nat.add_mul]
      omega
/-- the late sources are texts that stand in a law -/
def ok3 (q : Str × Str × Str) : Prop := okS q.1 ∧ okS q.2.1 ∧ okS q.2.2
theorem Eng.Ok.late3 {e : Eng} (E : e.Ok) : ∀ q ∈ e.lateL e.K e.R, ok3 q := fun q hq => by
  obtain ⟨p, hp, hq⟩ := List.mem_flatMap.mp hq
  obtain ⟨p2, hp2, hq⟩ := List.mem_flatMap.mp hq
  obtain ⟨s, hs, rfl⟩ := List.mem_map.mp hq
  have h1 := List.of_mem_zip hp
  have h2 := List.of_mem_zip hp2
  exact ⟨okK (E.kin _ h1.1), okN (E.nin _ h2.1), (goodSrc_ok E.nin ((E.r3 _ h1.2 _ h2.2).2.2.2 s (List.mem_filter.mp hs).1)).1⟩
theorem omap_t3 {h : AH} (xs : List (Str × Str × Str)) : omap (dat 8 h) (t3 xs) = some (xs.map fun q => PyData.tuple [.str q.1, .str q.2.1, .str q.2.2]) := by
  induction xs with
  | nil => rfl
  | cons x r ih =>
    rw [show t3 (x :: r) = .tup [.str x.1, .str x.2.1, .str x.2.2] :: t3 r from rfl]
    unfold omap
    rw [ih]
    rfl
theorem eqvAll_t3 : ∀ (xs : List (Str × Str × Str)), PyData.eqvAll (xs.map fun q => PyData.tuple [.str q.1, .str q.2.1, .str q.2.2]) (xs.map fun q => PyData.tuple [.str q.1, .str q.2.1, .str q.2.2]) = true
  | [] => rfl
  | x :: xs => by
    show (PyData.eqvAll [.str x.1, .str x.2.1, .str x.2.2] [.str x.1, .str x.2.1, .str x.2.2] && PyData.eqvAll (xs.map _) (xs.map _)) = true
    rw [eqvAll_t3 xs, show ([PyData.str x.1, .str x.2.1, .str x.2.2]) = [x.1, x.2.1, x.2.2].map PyData.str from rfl, eqvAll_strs]
    simp
theorem shaped_t3 (xs : List (Str × Str × Str)) (ok : ∀ q ∈ xs, ok3 q) : SeqAt.shaped (.list (xs.map fun q => PyData.tuple [.str q.1, .str q.2.1, .str q.2.2])) = true := by
  have h1 : PyData.canLayAll0 (xs.map fun q => PyData.tuple [.str q.1, .str q.2.1, .str q.2.2]) = true := by
    induction xs with
    | nil => rfl
    | cons x r ih =>
      obtain ⟨o1, o2, o3⟩ := ok x List.mem_cons_self
      show ((PyData.strOk x.1 && (PyData.strOk x.2.1 && (PyData.strOk x.2.2 && true))) && PyData.canLayAll0 (r.map _)) = true
      rw [o1, o2, o3, ih fun y hy => ok y (List.mem_cons_of_mem _ hy)]
      rfl
  have h2 : PyData.depthAll (xs.map fun q => PyData.tuple [.str q.1, .str q.2.1, .str q.2.2]) ≤ 1 := by
    clear ok h1
    induction xs with
    | nil => exact Nat.zero_le _
    | cons x r ih =>
      show max 1 (PyData.depthAll (r.map _)) ≤ 1
      exact Nat.max_le.mpr ⟨Nat.le_refl _, ih⟩
  show (PyData.canLayAll0 _ && decide (PyData.depthAll _ + 1 ≤ 64)) = true
  rw [h1, decide_eq_true (by omega)]
  rfl
theorem dat_t3 {h : AH} {v : AV} {xs : List (Str × Str × Str)} (q : lstOf v h = some (t3 xs)) : dat 9 h v = some (.list (xs.map fun q => PyData.tuple [.str q.1, .str q.2.1, .str q.2.2])) := by
  cases v with
  | fl ys => cases q; show (omap (dat 8 h) (t3 xs)).map _ = _; rw [omap_t3]; rfl
  | ref a =>
    simp only [lstOf] at q
    split at q
    · rename_i ys e
      cases q
      show (match h[a]? with | some (.lst xs) => (omap (dat 8 h) xs).map PyData.list | _ => none) = _
      rw [e]
      dsimp only
      rw [omap_t3]; rfl
    · cases q
  | _ => cases q
theorem eqD_t3 {h : AH} {v w : AV} {xs : List (Str × Str × Str)} (ok : ∀ q ∈ xs, ok3 q) (e1 : lstOf v h = some (t3 xs)) (e2 : lstOf w h = some (t3 xs)) : eqD v w h = some true := by
  unfold eqD
  rw [dat_t3 e1, dat_t3 e2]
  dsimp only
  rw [if_pos ⟨shaped_t3 xs ok, shaped_t3 xs ok⟩]
  show some (PyData.eqvAll _ _) = _
  rw [eqvAll_t3]
theorem v_ext {h : AH} {a : Nat} {xs zs : List AV} {v : AV} (q : h[a]? = some (.lst xs)) (q2 : lstOf v h = some zs) (z : xs.length + zs.length < 1000) : mExtend (.ref a) [v] h = .ok .non (h.set a (.lst (xs ++ zs))) := by
  unfold mExtend
  dsimp only
  rw [q, q2]
  dsimp only
  rw [if_pos (by rw [sizeLine_eq]; omega)]
theorem t3_append {xs ys : List (Str × Str × Str)} : t3 (xs ++ ys) = t3 xs ++ t3 ys := List.map_append
theorem cleans_t3 {n : Nat} {xs : List (Str × Str × Str)} : cleans n (t3 xs) = true := cleans_iff.mpr fun v hv => by
  obtain ⟨x, _, rfl⟩ := List.mem_map.mp hv; rfl
theorem trim1_keep {A : AH} {c : Nat} {fs : Fs} (q : ∀ n, cleans n (fs.map (·.2)) = true) : trimR 1 A (.ok (.ref A.length) (A ++ [.ins c fs, .dead])) = .ok (.ref A.length) (A ++ [.ins c fs]) := by
  have k : TrimOk 1 A (A ++ [.ins c fs, .dead]) := fun i o hi e => by
    by_cases h : i < A.length
    · left
      rw [List.getElem?_append_left h] at e
      exact ⟨h, e⟩
    · right
      have : i = A.length := by omega
      subst this
      rw [end_get] at e
      cases e
      exact q _
  unfold trimR
  dsimp only
  rw [if_pos ⟨by simp, by simp [clean], k⟩]
  have z : (A ++ [AO.ins c fs, .dead]).take (A.length + 1) = A ++ [.ins c fs] := by
    rw [show A ++ [AO.ins c fs, .dead] = (A ++ [AO.ins c fs]) ++ [.dead] from by simp, List.take_append_of_le_length (by simp), List.take_of_length_le (by simp)]
  rw [z]
theorem clean_fs {e : Eng} {n : Nat} : cleans n ((e.fs e.tv).map (·.2)) = true := by
  show cleans n [.fl (sts e.K), .fl e.pt, .fl (sts e.N), e.tv] = true
  simp only [cleans, clean_sts, clean_pt, clean_tv, Bool.and_true]
theorem sv_srcs {e : Eng} (E : e.Ok) {A : AH} : SrcsOk A e.sv e := by
  refine ⟨fun X => ?_, fun i k r hk hr => ⟨_, fun X => ⟨g_sv E.knd hk hr, ?_⟩, fun j n l hn hl => ⟨_, fun X => ⟨g_svn E.nnd hn hl, rfl⟩⟩⟩⟩
  · unfold Eng.sv dLen
    simp only [List.length_map]
    rw [if_pos E.r1.symm]
  · unfold dLen
    simp only [List.length_map]
    rw [if_pos (E.r2 r (List.mem_of_getElem? hr)).symm]
def Eng.rv (e : Eng) : List AV := e.P.map fun p => .tup [.str p.1, .fl (sts p.2)]
theorem rv_rows {e : Eng} {A : AH} : RowsOk A e.rv e.P := ⟨by simp [Eng.rv], fun i p hp => ⟨.fl (sts p.2), by unfold Eng.rv; rw [List.getElem?_map, hp]; rfl, fun X => rfl⟩⟩
end Mi

namespace Mi
open PySem PySem.Spec PyProof.Rows L2
theorem deepO_dk {n a : Nat} {h h2 : AH} {kvs : List (Ky × AV)} {ws : List AV} (q : h[a]? = some (.dk kvs)) (d : deepL n (kvs.map (·.2)) h = (ws, h2)) (q2 : h2[a]? = some (.dk kvs)) : deepO n a h = some (h2.set a (.dk ((kvs.map (·.1)).zip ws))) := by
  unfold deepO
  rw [q]
  dsimp only
  rw [d]
  dsimp only
  rw [q2]
theorem deep_engO {e : Eng} {o : AO} {R : AH} {n : Nat} (h1 : e.R.length = e.K.length) (h2 : ∀ r ∈ e.R, r.length = e.N.length) (hn : e.K.length + 10 ≤ n) :
    deepO n (R.length + 1 + 1) (o :: (R ++ .dk (kindD (R.length + 1 + 2) e.K) :: .dk (engK (.fl (sts e.K)) (.fl e.pv) (.ref (R.length + 1)) (.fl (sts e.N))) :: dks e.N e.R)) = some (o :: (R ++ .dead :: .dk (engK (.fl (sts e.K)) (.fl e.pv) e.sv (.fl (sts e.N))) :: List.replicate e.K.length .dead)) := by
  obtain ⟨m, rfl⟩ : ∃ m, n = m + 6 := ⟨n - 6, by omega⟩
  have cp : clean 0 (.fl e.pv) = true := by
    simp only [clean]
    refine cleans_iff.mpr fun v hv => ?_
    obtain ⟨p, _, rfl⟩ := List.mem_map.mp hv
    simp [clean, cleans]
  generalize hE : engK (.fl (sts e.K)) (.fl e.pv) (.ref (R.length + 1)) (.fl (sts e.N)) = EK
  have kd := deep_kinds (N := e.N) e.K e.R (o :: (R ++ [.dead, .dk EK])) (m + 2) (fun r hr => (h2 r hr).symm) h1.symm (by omega)
  rw [show (o :: (R ++ [AO.dead, .dk EK])).length = R.length + 1 + 2 from by simp] at kd
  simp only [List.cons_append, List.append_assoc, List.nil_append] at kd
  have sd : deepV (m + 3) (.ref (R.length + 1)) (o :: (R ++ .dk (kindD (R.length + 1 + 2) e.K) :: .dk EK :: dks e.N e.R)) = (e.sv, o :: (R ++ .dead :: .dk EK :: List.replicate e.K.length .dead)) := by
    rw [deepV_dk (ws := e.R.map fun r => .fk (e.N.map .inr) (r.map fun l => .fl (sts l))) (h2 := o :: (R ++ .dead :: .dk EK :: List.replicate e.K.length .dead)) tl_get0 (by rw [tl_set0]; exact kd), kindD_fst]
    rfl
  rw [deepO_dk (ws := [.fl (sts e.K), .fl e.pv, e.sv, .fl (sts e.N)]) (h2 := o :: (R ++ .dead :: .dk EK :: List.replicate e.K.length .dead)) tl_get1 ?_ tl_get1, tl_set1]
  · rw [← hE]; rfl
  · rw [← hE]
    show deepL (m + 6) [.fl (sts e.K), .fl e.pv, .ref (R.length + 1), .fl (sts e.N)] _ = _
    rw [hE]
    refine deepL_clean1 clean_sts (deepL_clean1 cp ?_)
    rw [deepL_cons, sd]
    dsimp only
    rw [deepL_clean _ _ _ (by simp [cleans])]
end Mi

namespace Mi
open PySem PySem.Spec PyProof.Rows L2
theorem kFor_fold {α S : Type} {s : Src} {xs : List α} {enc : α → AV} {g : SG} {b : SS} {σ : Sl} {h : AH} (f : S → α → S) (st : S → Sl → AH → Prop) (s0 : S)
    (hl : s.len h = xs.length) (hat : ∀ t σ h, st t σ h → ∀ i, s.at i h = some (xs.map enc)[i]?) (h0 : st s0 σ h)
    (step : ∀ ys x zs σ h, xs = ys ++ x :: zs → st (ys.foldl f s0) σ h → ∃ σ1 σ2 h2, g (enc x) σ = some σ1 ∧ b σ1 h = .ok (.nx σ2) h2 ∧ st (f (ys.foldl f s0) x) σ2 h2) :
    ∃ σ2 h2, kFor g b σ s h = .ok (.nx σ2) h2 ∧ st (xs.foldl f s0) σ2 h2 := by
  obtain ⟨σ2, h2, e1, e2⟩ := kFor_inv (s := s) (xs := xs.map enc) (g := g) (b := b) (σ := σ) (h := h) (fun i σ h => st ((xs.take i).foldl f s0) σ h) (by simpa using hl) (fun i σ h q => hat _ σ h q i) h0 (fun i x σ h hx q => by
    rw [List.getElem?_map] at hx
    obtain ⟨y, hy, rfl⟩ := Option.map_eq_some_iff.mp hx
    obtain ⟨hi, rfl⟩ := List.getElem?_eq_some_iff.mp hy
    have e : xs = xs.take i ++ xs[i] :: xs.drop (i + 1) := by rw [← List.drop_eq_getElem_cons hi, List.take_append_drop]
    obtain ⟨σ1, σ2, h2, q1, q2, q3⟩ := step (xs.take i) xs[i] (xs.drop (i + 1)) σ h e q
    refine ⟨σ1, σ2, h2, q1, q2, ?_⟩
    rw [List.take_succ, hy, List.foldl_append]
    exact q3)
  rw [List.length_map, List.take_length] at e2
  exact ⟨σ2, h2, e1, e2⟩
/-- a loop that changes nothing -/
theorem kFor_same {α : Type} {s : Src} {xs : List α} {enc : α → AV} {g : SG} {b : SS} {σ : Sl} {h : AH} (hs : SrcIs s h (xs.map enc)) (step : ∀ x ∈ xs, ∃ σ1, g (enc x) σ = some σ1 ∧ b σ1 h = .ok (.nx σ) h) : kFor g b σ s h = .ok (.nx σ) h := by
  obtain ⟨σ2, h2, e1, rfl, rfl⟩ := kFor_fold (s := s) (xs := xs) (enc := enc) (g := g) (b := b) (σ := σ) (h := h) (fun (u : Unit) _ => u) (fun _ τ h' => τ = σ ∧ h' = h) () (by simpa using hs.1) (fun _ _ _ q i => by rw [q.2]; exact hs.2 i) ⟨rfl, rfl⟩ (fun ys x zs τ h' hx q => by
    obtain ⟨rfl, rfl⟩ := q
    obtain ⟨σ1, q1, q2⟩ := step x (by rw [hx]; simp)
    exact ⟨σ1, τ, h', q1, q2, rfl, rfl⟩)
  exact e1
/-- a loop that grows the last list of the arena -/
theorem kFor_acc {α : Type} {s : Src} {xs : List α} {enc : α → AV} {g : SG} {b : SS} {σ : Sl} {A : AH} {a0 : List AV} (F : α → List AV) (hs : ∀ X, SrcIs s (A ++ X) (xs.map enc))
    (step : ∀ ys x zs, xs = ys ++ x :: zs → ∃ σ1, g (enc x) σ = some σ1 ∧ b σ1 (A ++ [.lst (a0 ++ ys.flatMap F)]) = .ok (.nx σ) (A ++ [.lst (a0 ++ ys.flatMap F ++ F x)])) :
    kFor g b σ s (A ++ [.lst a0]) = .ok (.nx σ) (A ++ [.lst (a0 ++ xs.flatMap F)]) := by
  have hf : ∀ (ys : List α) (a : List AV), ys.foldl (fun a x => a ++ F x) a = a ++ ys.flatMap F := by
    intro ys
    induction ys with
    | nil => intro a; simp
    | cons y ys ih => intro a; rw [List.foldl_cons, ih, List.flatMap_cons, List.append_assoc]
  obtain ⟨σ2, h2, e1, rfl, rfl⟩ := kFor_fold (s := s) (xs := xs) (enc := enc) (g := g) (b := b) (σ := σ) (h := A ++ [.lst a0]) (fun a x => a ++ F x) (fun a τ h' => τ = σ ∧ h' = A ++ [.lst a]) a0 (by simpa using (hs [.lst a0]).1) (fun a _ _ q i => by rw [q.2]; exact (hs _).2 i) ⟨rfl, rfl⟩ (fun ys x zs τ h' hx q => by
    obtain ⟨rfl, rfl⟩ := q
    obtain ⟨σ1, q1, q2⟩ := step ys x zs hx
    rw [hf]
    exact ⟨σ1, τ, _, q1, q2, rfl, rfl⟩)
  rw [e1, hf]
section
variable {h h' : AH} {v : AV} {k : Nat} {b : Bool} {σ σ1 : Sl} {js : List Nat}
@[simp] theorem e_trimE {f : SE} : trimE k f σ h = trimR k h (f σ h) := (rfl)
@[simp] theorem e_trimT {f : SB} : trimT f σ h = trimP h (f σ h) := (rfl)
@[simp] theorem e_trimS {f : SS} : trimS js f σ h = trimG js h (f σ h) := (rfl)
theorem trimP_pre (q : h <+: h') : trimP h (.ok b h' : R Bool) = .ok b h := by
  obtain ⟨X, rfl⟩ := q
  unfold trimP
  dsimp only
  rw [if_pos ⟨by simp, trimOk_app⟩]
  simp
@[simp] theorem trimP_same : trimP h (.ok b h : R Bool) = .ok b h := trimP_pre (List.prefix_refl h)
def cleanS (n : Nat) (σ : Sl) : Bool := σ.all fun o => match o with | some v => clean n v | none => true
@[simp] theorem cleanS_nil {n : Nat} : cleanS n [] = true := (rfl)
@[simp] theorem cleanS_none {n : Nat} : cleanS n (none :: σ) = cleanS n σ := (rfl)
@[simp] theorem cleanS_some {n : Nat} : cleanS n (some v :: σ) = (clean n v && cleanS n σ) := (rfl)
theorem cleanS_mem {n : Nat} (c : cleanS n σ = true) : ∀ v, some v ∈ σ → clean n v = true := fun v hv => by
  unfold cleanS at c
  exact List.all_eq_true.mp c (some v) hv
theorem trimG_nx (q : h <+: h') (c : cleanS h.length (wipeA σ1 js) = true) : trimG js h (.ok (.nx σ1) h') = .ok (.nx (wipeA σ1 js)) h := by
  obtain ⟨X, rfl⟩ := q
  unfold trimG
  dsimp only
  rw [if_pos ⟨by simp, cleanS_mem c, trimOk_app⟩]
  simp
theorem trimG_rt (q : h <+: h') (c : clean h.length v = true) : trimG js h (.ok (.rt v) h') = .ok (.rt v) h := by
  obtain ⟨X, rfl⟩ := q
  unfold trimG
  dsimp only
  rw [if_pos ⟨by simp, c, trimOk_app⟩]
  simp
/-- the last list of the arena has grown, and more came behind it -/
theorem trimG_acc {A X : AH} {xs ys : List AV} (c1 : cleans (A.length + 1) ys = true) (c : cleanS (A.length + 1) (wipeA σ1 js) = true) : trimG js (A ++ [.lst xs]) (.ok (.nx σ1) (A ++ .lst ys :: X)) = .ok (.nx (wipeA σ1 js)) (A ++ [.lst ys]) := by
  have k : TrimOk 0 (A ++ [.lst xs]) (A ++ .lst ys :: X) := fun i o hi e => by
    have hi2 : i < A.length + 1 := by simpa using hi
    by_cases hA : i < A.length
    · left
      rw [List.getElem?_append_left hA] at e
      exact ⟨by simp; omega, by rw [List.getElem?_append_left hA]; exact e⟩
    · have hi3 : i = A.length := by omega
      subst hi3
      right
      simp at e
      subst e
      simpa [cleanO] using c1
  have z : (A ++ AO.lst ys :: X).take (A.length + 1) = A ++ [.lst ys] := by
    rw [List.take_append, List.take_of_length_le (by omega), Nat.add_sub_cancel_left]; rfl
  unfold trimG
  dsimp only
  rw [if_pos ⟨by simp, by simpa using cleanS_mem c, k⟩]
  simp only [List.length_append, List.length_cons, List.length_nil, Nat.zero_add]
  rw [z]
theorem trimG_acc0 {A : AH} {xs ys : List AV} (c1 : cleans (A.length + 1) ys = true) (c : cleanS (A.length + 1) (wipeA σ1 js) = true) : trimG js (A ++ [.lst xs]) (.ok (.nx σ1) (A ++ [.lst ys])) = .ok (.nx (wipeA σ1 js)) (A ++ [.lst ys]) := trimG_acc (X := []) c1 c
end
@[simp] theorem wipe_nil {σ : Sl} : wipeA σ [] = σ := (rfl)
@[simp] theorem wipe_cons {σ : Sl} {i : Nat} {is : List Nat} : wipeA σ (i :: is) = (wipeA σ is).set i none := (rfl)
def dd (xs : List Str) : List Str := xs.foldl (fun d x => if x ∈ d then d else d ++ [x]) []
theorem dd_snoc (xs : List Str) (x : Str) : dd (xs ++ [x]) = if x ∈ dd xs then dd xs else dd xs ++ [x] := by
  unfold dd
  rw [List.foldl_append]
  rfl
theorem dd_props (xs : List Str) : (dd xs).Nodup ∧ (∀ y, y ∈ dd xs ↔ y ∈ xs) ∧ (dd xs).length ≤ xs.length := by
  suffices h : ∀ n, (dd (xs.take n)).Nodup ∧ (∀ y, y ∈ dd (xs.take n) ↔ y ∈ xs.take n) ∧ (dd (xs.take n)).length ≤ (xs.take n).length by
    have z := h xs.length
    rw [List.take_length] at z
    exact z
  intro n
  induction n with
  | zero => exact ⟨by simp [dd], fun y => by simp [dd], by simp [dd]⟩
  | succ n ih =>
    obtain ⟨h1, h2, h3⟩ := ih
    by_cases hn : n < xs.length
    · have e : xs.take (n + 1) = xs.take n ++ [xs[n]] := by rw [List.take_succ, List.getElem?_eq_getElem hn]; rfl
      rw [e, dd_snoc]
      by_cases hm : xs[n] ∈ dd (xs.take n)
      · rw [if_pos hm]
        refine ⟨h1, fun y => ?_, by rw [List.length_append]; omega⟩
        rw [h2, List.mem_append, List.mem_singleton]
        exact ⟨.inl, fun z => z.elim id fun z => by rw [z]; exact (h2 _).mp hm⟩
      · rw [if_neg hm]
        refine ⟨List.nodup_append.mpr ⟨h1, by simp, fun a ha b hb => ?_⟩, fun y => ?_, by rw [List.length_append, List.length_append]; simp only [List.length_cons, List.length_nil]; omega⟩
        · rw [List.mem_singleton] at hb
          subst hb
          exact fun z => hm (z ▸ ha)
        · rw [List.mem_append, List.mem_append, h2]
    · have e : xs.take (n + 1) = xs.take n := by rw [List.take_of_length_le (by omega), List.take_of_length_le (by omega)]
      rw [e]
      exact ⟨h1, h2, h3⟩
theorem nodup_dd (xs : List Str) : (dd xs).Nodup := (dd_props xs).1
theorem mem_dd {xs : List Str} {y : Str} : y ∈ dd xs ↔ y ∈ xs := (dd_props xs).2.1 y
theorem length_dd (xs : List Str) : (dd xs).length ≤ xs.length := (dd_props xs).2.2
/-- the names, once each, in order -/
def alp (xs : List Str) : List Str := sortS (dd xs)
theorem mem_alp {xs : List Str} {y : Str} : y ∈ alp xs ↔ y ∈ xs := by rw [← mem_dd (xs := xs)]; exact (sortS_perm _).mem_iff
theorem nodup_alp (xs : List Str) : (alp xs).Nodup := (sortS_perm _).nodup_iff.mpr (nodup_dd xs)
theorem length_alp (xs : List Str) : (alp xs).length ≤ xs.length := by rw [show (alp xs).length = (dd xs).length from (sortS_perm _).length_eq]; exact length_dd xs
theorem alp_congr {xs ys : List Str} (h : ∀ y, y ∈ xs ↔ y ∈ ys) : alp xs = alp ys := sortS_congr ((List.perm_ext_iff_of_nodup (nodup_dd xs) (nodup_dd ys)).mpr fun y => by rw [mem_dd, mem_dd]; exact h y)
theorem sortS_alp {xs ys : List Str} (hx : xs.Nodup) (h : ∀ y, y ∈ xs ↔ y ∈ ys) : sortS xs = alp ys := sortS_congr ((List.perm_ext_iff_of_nodup hx (nodup_dd ys)).mpr fun y => by rw [mem_dd]; exact h y)
theorem dd_self : ∀ {xs : List Str}, xs.Nodup → dd xs = xs := fun {xs} nd => by
  suffices z : ∀ n, dd (xs.take n) = xs.take n by have y := z xs.length; rwa [List.take_length] at y
  intro n
  induction n with
  | zero => rfl
  | succ n ih =>
    by_cases hn : n < xs.length
    · have e : xs.take (n + 1) = xs.take n ++ [xs[n]] := by rw [List.take_succ, List.getElem?_eq_getElem hn]; rfl
      rw [e, dd_snoc, ih, if_neg]
      have z : (xs.take n ++ [xs[n]]).Nodup := e ▸ nd.sublist (List.take_sublist _ _)
      exact fun hm => (List.nodup_append.mp z).2.2 _ hm _ (List.mem_singleton.mpr rfl) rfl
    · rw [List.take_of_length_le (show xs.length ≤ n + 1 by omega), ← List.take_of_length_le (show xs.length ≤ n by omega)]; exact ih
/-- a Marks object -/
abbrev mkO (c : Nat) (l : List Str) : AO := .ins c [("names", .fl (sts l))]
theorem v_sorted {xs : List Str} {h : AH} (z : xs.length < 64) : bSorted (.fl (sts xs)) h = .ok (.fl (sts (sortS xs))) h := by
  unfold bSorted
  simp only [lst_fl, strs_map]
  rw [if_pos z]
theorem v_sortedA {xs : List Str} {h : AH} (z : xs.length < 64) : arg1 bSorted [.fl (sts xs)] h = .ok (.fl (sts (sortS xs))) h := v_sorted z
@[simp] theorem v_str {x : Str} {h : AH} : bStr (.str x) h = .ok (.str x) h := (rfl)
/-- names kept once each: a loop that appends what is not there -/
theorem dd_for {A : AH} {xs : List Str} {g : SG} {b : SS} {σ : Sl} {s : Src} (hs : ∀ X, SrcIs s (A ++ X) (sts xs)) (hz : xs.length < 1000)
    (step : ∀ (x : Str) (d : List Str), d.length < 1000 → ∃ σ1, g (.str x) σ = some σ1 ∧ b σ1 (A ++ [.lst (sts d)]) = .ok (.nx σ) (A ++ [.lst (sts (if x ∈ d then d else d ++ [x]))])) : kFor g b σ s (A ++ [.lst []]) = .ok (.nx σ) (A ++ [.lst (sts (dd xs))]) := by
  obtain ⟨σ2, h2, e1, rfl, rfl⟩ := kFor_fold (s := s) (xs := xs) (enc := AV.str) (g := g) (b := b) (σ := σ) (h := A ++ [.lst []]) (fun d x => if x ∈ d then d else d ++ [x]) (fun d τ h' => τ = σ ∧ h' = A ++ [.lst (sts d)]) [] (by simpa using (hs [.lst []]).1) (fun d _ _ q i => by rw [q.2]; exact (hs _).2 i) ⟨rfl, rfl⟩ (fun ys x zs τ h' hx q => by
    obtain ⟨rfl, rfl⟩ := q
    have hl : (ys.foldl (fun d x => if x ∈ d then d else d ++ [x]) ([] : List Str)).length < 1000 := by
      have z := length_dd ys
      unfold dd at z
      have : ys.length ≤ xs.length := by rw [hx]; simp
      omega
    obtain ⟨σ1, q1, q2⟩ := step x _ hl
    exact ⟨σ1, τ, _, q1, q2, rfl, rfl⟩)
  exact e1

@[simp] theorem clean_tup {n : Nat} {xs : List AV} : clean n (.tup xs) = cleans n xs := (rfl)
theorem clean_ref {n i : Nat} : clean n (.ref i) = decide (i < n) := (rfl)
theorem clean_lt {n i : Nat} (h : i < n) : clean n (.ref i) = true := by rw [clean_ref]; exact decide_eq_true h
theorem clean_at {A : AH} {i m : Nat} {o : AO} (h : A[i]? = some o) : clean (A.length + m) (.ref i) = true := clean_lt (by have := (List.getElem?_eq_some_iff.mp h).1; omega)
theorem clean_at0 {A : AH} {i : Nat} {o : AO} (h : A[i]? = some o) : clean A.length (.ref i) = true := clean_at (m := 0) h
@[simp] theorem clean_self {n : Nat} : clean (n + 1) (.ref n) = true := clean_lt (by omega)
@[simp] theorem clean_self2 {n : Nat} : clean (n + 2) (.ref n) = true := clean_lt (by omega)
@[simp] theorem clean_zero {n : Nat} : clean (n + 1) (.ref 0) = true := clean_lt (by omega)
@[simp] theorem clean_flE {n : Nat} {xs : List AV} : clean n (.fl xs) = cleans n xs := (rfl)
@[simp] theorem cleans_nil {n : Nat} : cleans n [] = true := (rfl)
@[simp] theorem cleans_cons {n : Nat} {x : AV} {xs : List AV} : cleans n (x :: xs) = (clean n x && cleans n xs) := (rfl)
@[simp] theorem cleans_app {n : Nat} : ∀ {xs ys : List AV}, cleans n (xs ++ ys) = (cleans n xs && cleans n ys)
  | [], ys => by simp
  | x :: xs, ys => by rw [List.cons_append, cleans_cons, cleans_cons, cleans_app, Bool.and_assoc]
@[simp] theorem cleans_map_str {n : Nat} {xs : List Str} : cleans n (xs.map AV.str) = true := cleans_sts
/-- an old object changed, and more came -/
theorem trim_put {B X : AH} {j : Nat} {o : AO} {v : AV} (co : cleanO B.length o = true) (c : clean B.length v = true) : trimR 0 B (.ok v (B.set j o ++ X)) = .ok v (B.set j o) := by
  have k : TrimOk 0 B (B.set j o ++ X) := fun i ob hi e => by
    have hi2 : i < B.length := by simpa using hi
    rw [List.getElem?_append_left (by simpa using hi2)] at e
    by_cases hij : i = j
    · subst hij
      rw [List.getElem?_set_self hi2] at e
      cases e
      exact .inr (by simpa using co)
    · rw [List.getElem?_set_ne (Ne.symm hij)] at e
      exact .inl ⟨hi2, e⟩
  unfold trimR
  dsimp only
  rw [if_pos ⟨by simp, by simpa using c, k⟩]
  simp
/-- list(o): the class iterates by a field and tells its length -/
theorem v_list_ownL {C : CE} {h : AH} {a c f : Nat} {fs : Fs} {nm : Str} {xs : List AV} {k : Int} (q : h[a]? = some (.ins c fs)) (q1 : C.it c = some nm) (q2 : fs.lookup nm = some (.fl xs)) (q3 : C.dn c .len = some f) (q4 : C.call f [.ref a] h = .ok (.int k) h) (z : 0 ≤ k ∧ k ≤ 1000000 ∧ xs.length < 1000) : bList false C (.ref a) h = .ok (.fl xs) h := by
  have e1 : seqOf (.ref a) h = none := by simp [seqOf, q]
  have e2 : cls? (.ref a) h = some (c, fs) := by simp [cls?, q]
  have e3 : itSrc C (.ref a) h = some (.tup xs) := by
    unfold itSrc
    rw [e2]
    dsimp only
    rw [q1]
    dsimp only
    rw [q2]
  unfold bList
  rw [e1, e2, e3]
  dsimp only
  rw [q3]
  dsimp only
  rw [q4]
  dsimp only
  rw [if_pos ⟨z.1, z.2.1, by rw [sizeLine_eq]; omega⟩]
  rfl
theorem v_isA {cs : List (Nat × Bool)} {h : AH} {a c : Nat} {fs : Fs} {b : Bool} (q : h[a]? = some (.ins c fs)) (q2 : cs.lookup c = some b) : bIsA cs (.ref a) h = .ok (.bl b) h := by
  unfold bIsA
  dsimp only
  rw [q]
  dsimp only
  rw [q2]
def menuM : List Str := ["dirty", "way", "m", "layout", "childish", "q", "red"]
theorem menuM_name : ∀ x ∈ menuM, x.length ≤ 8 ∧ 1 ≤ x.length ∧ okS x ∧ x.length ≤ sizeLine ∧ ∀ c ∈ x.cps.toList, (Builtin.Str.occurrences "abcdefghijklmnopqrstuvwxyz" ⟨#[c]⟩ 0 (Str.length "abcdefghijklmnopqrstuvwxyz") 1).isEmpty = false := by decide +kernel
theorem menuM_nd : menuM.Nodup := by decide +kernel
theorem some_idx7 : ∀ a < 7, ∀ s < 6, ((List.range 4).map fun j => (a + (1 + s) * j) % 7).Nodup := by decide
theorem some_nodup7 {menu : List Str} (h : menu.length = 7) (nd : menu.Nodup) {a s n : Nat} (ha : a < 7) (hs : s < 6) (hn : n ≤ 4) :
    ∃ xs : List Str, xs.length = n ∧ xs.Nodup ∧ (∀ x ∈ xs, x ∈ menu) ∧ ∀ j, j < n → xs[j]? = menu[(a + (1 + s) * j) % 7]? := by
  have key : ∀ j, (a + (1 + s) * j) % 7 < menu.length := fun j => by rw [h]; exact Nat.mod_lt _ (by omega)
  refine ⟨(List.range n).map fun j => menu[(a + (1 + s) * j) % 7]'(key j), by simp, ?_, fun x hx => ?_, fun j hj => ?_⟩
  · have z := some_idx7 a ha s hs
    have z2 : ((List.range n).map fun j => (a + (1 + s) * j) % 7).Nodup := by
      refine List.Nodup.sublist ?_ z
      refine List.Sublist.map _ ?_
      rw [show (4 : Nat) = n + (4 - n) by omega, List.range_add]
      exact List.sublist_append_left _ _
    rw [List.Nodup, List.pairwise_map] at z2 ⊢
    exact z2.imp fun hne e => hne ((List.getElem_inj nd).mp e)
  · obtain ⟨j, _, rfl⟩ := List.mem_map.mp hx
    exact List.getElem_mem _
  · rw [List.getElem?_map, List.getElem?_range hj, List.getElem?_eq_getElem (key j)]
    rfl
structure Bk where
  e : Eng
  M : List Str
  Rd : List (List Str × List Str)
def Bk.rd (b : Bk) : List AV := b.Rd.map fun p => .tup [.ctp p.1, .ctp p.2]
def Bk.fs (b : Bk) (ea : Nat) (rv : AV) : Fs := [("engine", .ref ea), ("marks", .fl (sts b.M)), ("reads", .fl b.rd), ("rules", rv)]
structure Bk.Ok (b : Bk) : Prop where
  eng : b.e.Ok
  m1 : 1 ≤ b.M.length
  m2 : b.M.length ≤ 4
  mnd : b.M.Nodup
  min : ∀ x ∈ b.M, x ∈ menuM
  rl : b.Rd.length = b.e.P.length
  rm : ∀ p ∈ b.Rd, p.1.Nodup ∧ p.2.Nodup ∧ (∀ x ∈ p.1, x ∈ b.M) ∧ ∀ x ∈ p.2, x ∈ b.M
  rc : ∀ x ∈ b.M, ∃ p ∈ b.Rd, x ∈ p.1 ∨ x ∈ p.2
theorem nd_len {xs ys : List Str} (nd : xs.Nodup) (h : ∀ x ∈ xs, x ∈ ys) : xs.length ≤ ys.length := List.Nodup.length_le_of_subset nd h
section
variable {a b c d : AV}
theorem pub0 : putA "engine" a [] = ([("engine", a)] : Fs) := rfl
theorem pub1 : putA "marks" b [("engine", a)] = ([("engine", a), ("marks", b)] : Fs) := rfl
theorem pub2 : putA "reads" c [("engine", a), ("marks", b)] = ([("engine", a), ("marks", b), ("reads", c)] : Fs) := rfl
theorem pub3 : putA "rules" d [("engine", a), ("marks", b), ("reads", c)] = ([("engine", a), ("marks", b), ("reads", c), ("rules", d)] : Fs) := rfl
theorem lub_e {r : Fs} : List.lookup ("engine" : Str) ((("engine", a) :: r) : Fs) = some a := rfl
theorem lub_m {r : Fs} : List.lookup ("marks" : Str) ((("engine", a) :: ("marks", b) :: r) : Fs) = some b := rfl
theorem lub_r {r : Fs} : List.lookup ("reads" : Str) ((("engine", a) :: ("marks", b) :: ("reads", c) :: r) : Fs) = some c := rfl
theorem lub_u {r : Fs} : List.lookup ("rules" : Str) ((("engine", a) :: ("marks", b) :: ("reads", c) :: ("rules", d) :: r) : Fs) = some d := rfl
end
theorem v_tcount {ss : List Str} {x : Str} {h : AH} : mTCount (.ctp ss) [.str x] h = .ok (.int (ss.count x : Nat)) h := rfl
theorem v_notinE {C : CE} {xs : List Str} {x : Str} {h : AH} : oNotInA C (.str x) (.fl (sts xs)) h = .ok (.bl (!decide (x ∈ xs))) h := v_notin rfl
theorem v_inE {C : CE} {xs : List Str} {x : Str} {h : AH} : oInA C (.str x) (.fl (sts xs)) h = .ok (.bl (decide (x ∈ xs))) h := v_in rfl
theorem v_inC {C : CE} {xs : List Str} {x : Str} {h : AH} : oInA C (.str x) (.ctp xs) h = .ok (.bl (decide (x ∈ xs))) h := v_in rfl
end Mi

namespace Mi
open PySem PySem.Spec PyProof.Rows L2
theorem flatMap_len {α β : Type} {F : α → List β} {c : Nat} : ∀ {ys : List α}, (∀ x ∈ ys, (F x).length ≤ c) → (ys.flatMap F).length ≤ c * ys.length
  | [], _ => by simp
  | y :: ys, h => by
    rw [List.flatMap_cons, List.length_append, List.length_cons, Nat.mul_succ]
    have z := flatMap_len (ys := ys) fun x hx => h x (List.mem_cons_of_mem _ hx)
    have := h y (List.mem_cons_self)
    omega
theorem flatMap_one {α β : Type} {f : α → β} : ∀ {ys : List α}, ys.flatMap (fun x => [f x]) = ys.map f
  | [] => rfl
  | y :: ys => by rw [List.flatMap_cons, flatMap_one]; rfl
theorem flatMap_cons1 {α β : Type} {F : α → List β} {u : α} : [u].flatMap F = F u := by simp
theorem mem_left {α : Type} {xs ys zs : List α} {x : α} (h : xs = ys ++ x :: zs) : x ∈ xs := by rw [h]; simp
theorem mem_pre {α : Type} {xs ys zs : List α} {x y : α} (h : xs = ys ++ x :: zs) (hy : y ∈ ys) : y ∈ xs := by rw [h]; simp [hy]
theorem len_pre {α : Type} {xs ys zs : List α} {x : α} (h : xs = ys ++ x :: zs) : ys.length < xs.length := by rw [h]; simp
@[simp] theorem clean_fk {n : Nat} {ks : List Ky} {vs : List AV} : clean n (.fk ks vs) = cleans n vs := (rfl)
@[simp] theorem clean_ft {n : Nat} {ks : List (List Ky)} {vs : List AV} : clean n (.ft ks vs) = cleans n vs := (rfl)
/-- a new object changed, one more kept, the rest dropped -/
theorem trim1_two {A X : AH} {o0 o d : AO} {v : AV} (c1 : cleanO (A.length + 2) o = true) (c2 : cleanO (A.length + 2) d = true) (cv : clean (A.length + 2) v = true) : trimR 1 (A ++ [o0]) (.ok v (A ++ o :: d :: X)) = .ok v (A ++ [o, d]) := by
  have k : TrimOk 1 (A ++ [o0]) (A ++ o :: d :: X) := fun i ob hi e => by
    have hi2 : i < A.length + 2 := by simpa using hi
    by_cases hA : i < A.length
    · left
      rw [List.getElem?_append_left hA] at e
      exact ⟨by simp; omega, by rw [List.getElem?_append_left hA]; exact e⟩
    · right
      rw [List.getElem?_append_right (by omega)] at e
      have hz : i - A.length = 0 ∨ i - A.length = 1 := by omega
      simp only [List.length_append, List.length_cons, List.length_nil]
      rcases hz with hz | hz
      · rw [hz] at e; cases e; exact c1
      · rw [hz] at e; cases e; exact c2
  have z : (A ++ o :: d :: X).take (A.length + 2) = A ++ [o, d] := by
    rw [List.take_append, List.take_of_length_le (by omega), Nat.add_sub_cancel_left]; rfl
  unfold trimR
  dsimp only
  rw [if_pos ⟨by simp; omega, by simpa using cv, k⟩]
  simp only [List.length_append, List.length_cons, List.length_nil, Nat.zero_add, Nat.add_assoc, Nat.reduceAdd]
  rw [z]
theorem clean_rd {n : Nat} {b : Bk} : cleans n b.rd = true := cleans_iff.mpr fun v hv => by
  obtain ⟨p, _, rfl⟩ := List.mem_map.mp hv
  rfl
def kStar (as : SA) (σ : Sl) : AV → AH → R (List AV) := fun v h1 => match seqOf v h1 with
  | some xs => (as σ h1).bind fun vs h2 => .ok (xs ++ vs) h2
  | none => .bad
@[simp] theorem e_star {e : SE} {as : SA} {σ : Sl} {h : AH} : aStar e as σ h = (e σ h).bind (kStar as σ) := (rfl)
@[simp] theorem k_starC {σ : Sl} {h : AH} {ss : List Str} : kStar aNil σ (.ctp ss) h = .ok (sts ss) h := by simp [kStar, seqOf, aNil]
theorem k_starS {σ : Sl} {h : AH} {v : AV} {xs : List AV} (q : seqOf v h = some xs) : kStar aNil σ v h = .ok xs h := by simp [kStar, q, aNil]
theorem foldl_last {α : Type} {p : α → Bool} : ∀ (xs : List α) (d : α), xs.foldl (fun l i => if p i then i else l) d = ((xs.filter p).getLast?).getD d
  | [], d => rfl
  | x :: xs, d => by
    rw [List.foldl_cons, foldl_last xs]
    cases hp : p x with
    | true =>
      rw [List.filter_cons_of_pos hp, if_pos rfl]
      cases hq : xs.filter p with
      | nil => rfl
      | cons y ys =>
        rw [List.getLast?_cons_cons, List.getLast?_cons]
        rfl
    | false => rw [List.filter_cons_of_neg (by simp [hp]), if_neg (by simp)]
theorem atI_last {xs : List AV} {v : AV} (h : xs.getLast? = some v) : L2.atI xs (-1) = some v := by
  have hl : 0 < xs.length := by
    cases xs with
    | nil => simp at h
    | cons _ _ => simp
  rw [List.getLast?_eq_getElem?] at h
  unfold L2.atI L2.ixN
  rw [if_neg (by decide), if_pos (by omega)]
  show xs[(-1 + (xs.length : Int)).toNat]? = _
  rw [show (-1 + (xs.length : Int)).toNat = xs.length - 1 from by omega]
  exact h
/-- is the mark read by the pass -/
def Bk.readsM (b : Bk) (m : Str) (i : Nat) : Bool := ((b.Rd[i]?).map fun p => decide (m ∈ p.1) || decide (m ∈ p.2)).getD false
def Bk.last (b : Bk) (m : Str) : Nat := (List.range b.Rd.length).foldl (fun l i => if b.readsM m i then i else l) 0
theorem v_addL {x y : AV} {xs ys : List AV} {h : AH} (q1 : lstOf x h = some xs) (q2 : lstOf y h = some ys) (z : xs.length + ys.length ≤ 1000) : oAdd false x y h = .ok (.fl (xs ++ ys)) h := by
  have z2 : xs.length + ys.length ≤ sizeLine := by rw [sizeLine_eq]; omega
  unfold oAdd
  split
  · simp [lstOf] at q1
  · simp [lstOf] at q1
  · simp [lstOf] at q1
  · simp [lstOf] at q1
  · simp [lstOf] at q1
  · rw [q1, q2]
    dsimp only
    rw [if_pos z2]
    rfl
theorem isrc_L {v : AV} {xs : List AV} {A : AH} (q : ∀ X, lstOf v (A ++ X) = some xs) : ∃ s, (∀ X, kIs v (A ++ X) = .ok s (A ++ X)) ∧ ∀ X, SrcIs s (A ++ X) xs := by
  cases v with
  | fl ys =>
    have e : ys = xs := by simpa using q []
    subst e
    exact ⟨.tup ys, fun X => rfl, fun X => src_tupI⟩
  | ref a =>
    have g : ∀ X, (A ++ X)[a]? = some (.lst xs) := fun X => by
      have z := q X
      simp only [lstOf] at z
      split at z
      · rename_i ys e; cases z; exact e
      · cases z
    exact ⟨.lst a, fun X => k_isRef (g X), fun X => src_lstI (g X)⟩
  | _ => have z := q []; simp [lstOf] at z
/-- rows of names -/
def RwL (A : AH) (v : AV) (ls : List (List Str)) : Prop := ∃ rows, lstOf v A = some rows ∧ rows.length = ls.length ∧ ∀ (i : Nat) l, ls[i]? = some l → ∃ w, rows[i]? = some w ∧ (∀ X, lstOf w (A ++ X) = some (sts l)) ∧ clean (A.length + 1) w = true
/-- the law's own book, a dict -/
structure LB (A : AH) (v : AV) (b : Bk) : Prop where
  ps : dGetA v (.str "passes") A = some (some (.fl b.e.pv))
  ms : dGetA v (.str "marks") A = some (some (.fl (sts b.M)))
  en : ∃ w, dGetA v (.str "enters") A = some (some w) ∧ RwL A w (b.Rd.map (·.1))
  th : ∃ w, dGetA v (.str "through") A = some (some w) ∧ RwL A w (b.Rd.map (·.2))
  cl : ∀ m, clean (A.length + m) v = true
theorem RwL.at_ {A : AH} {v : AV} {ls : List (List Str)} (h : RwL A v ls) {C : CE} {i : Nat} {l : List Str} (hl : ls[i]? = some l) : ∃ w, oIxA C v (.int (i : Nat)) A = .ok w A ∧ (∀ X, lstOf w (A ++ X) = some (sts l)) ∧ clean (A.length + 1) w = true := by
  obtain ⟨rows, e1, e2, e3⟩ := h
  obtain ⟨w, q1, q2, q3⟩ := e3 i l hl
  exact ⟨w, by rw [v_ixL e1, atI_some q1], q2, q3⟩
theorem lst_nil {v : AV} {A : AH} {xs : List AV} (q : ∀ X, lstOf v (A ++ X) = some xs) : lstOf v A = some xs := by have z := q []; rwa [List.append_nil] at z
theorem Bk.last_of {b : Bk} {m : Str} (h : ∃ i, i < b.Rd.length ∧ b.readsM m i = true) : ((List.range b.Rd.length).filter (b.readsM m)).getLast? = some (b.last m) := by
  unfold Bk.last
  rw [foldl_last (p := b.readsM m)]
  cases hq : ((List.range b.Rd.length).filter (b.readsM m)).getLast? with
  | some x => rfl
  | none =>
    obtain ⟨i, hi, hr⟩ := h
    rw [List.getLast?_eq_none_iff] at hq
    have : i ∈ (List.range b.Rd.length).filter (b.readsM m) := List.mem_filter.mpr ⟨List.mem_range.mpr hi, hr⟩
    rw [hq] at this
    cases this
theorem Bk.Ok.reads {b : Bk} (B : b.Ok) {m : Str} (h : m ∈ b.M) : ∃ i, i < b.Rd.length ∧ b.readsM m i = true := by
  obtain ⟨p, hp, hm⟩ := B.rc m h
  obtain ⟨i, hi, e⟩ := List.getElem_of_mem hp
  refine ⟨i, hi, ?_⟩
  unfold Bk.readsM
  rw [List.getElem?_eq_getElem hi, e]
  simpa using hm
/-- a comprehension that draws: the list grows behind all -/
theorem lcL_inv {s : Src} {xs : List AV} {g : SG} {t : SB} {e : SE} {D : Nat} {σ : Sl} (Iv : Nat → List AV → AH → Prop) (hat : ∀ i acc h, Iv i acc h → s.at i h = some xs[i]?)
    (step : ∀ i x acc h, xs[i]? = some x → Iv i acc h → ∃ σ1, g x σ = some σ1 ∧ ((∃ h2, t σ1 h = .ok false h2 ∧ Iv (i + 1) acc h2) ∨
      ∃ h2 w h3, t σ1 h = .ok true h2 ∧ e σ1 h2 = .ok w h3 ∧ h3[D]? = some (.lst acc) ∧ acc.length < sizeLine ∧ Iv (i + 1) (acc ++ [w]) (h3.set D (.lst (acc ++ [w]))))) :
    ∀ (k i : Nat) (acc : List AV) (h : AH), xs.length = i + k → Iv i acc h → ∃ acc2 h2, lcL s g t e D σ k i h = .ok (.ref D) h2 ∧ Iv xs.length acc2 h2 := by
  intro k
  induction k with
  | zero =>
    intro i acc h hl hi
    unfold lcL
    rw [hat i acc h hi, List.getElem?_eq_none (by omega)]
    exact ⟨acc, h, rfl, by rw [hl]; exact hi⟩
  | succ k ih =>
    intro i acc h hl hi
    have hx : xs[i]? = some xs[i] := List.getElem?_eq_getElem (by omega)
    obtain ⟨σ1, e1, q⟩ := step i _ acc h hx hi
    unfold lcL
    rw [hat i acc h hi, hx]
    dsimp only
    rw [e1]
    dsimp only
    rcases q with ⟨h2, e2, e3⟩ | ⟨h2, w, h3, e2, e3, e4, e5, e6⟩
    · rw [e2]
      exact ih (i + 1) acc h2 (by omega) e3
    · rw [e2]
      dsimp only
      rw [e3]
      dsimp only
      rw [e4]
      dsimp only
      rw [if_pos e5]
      exact ih (i + 1) _ _ (by omega) e6
theorem sLc_draw {it : SI} {s : Src} {xs : List AV} {g : SG} {t : SB} {e : SE} {vs : List Nat} {σ : Sl} {h h1 : AH} (I : Nat → List AV → AH → Prop) (hi : it σ h = .ok s h1) (hl : s.len (h1 ++ [.lst []]) = xs.length) (hat : ∀ i acc h, I i acc h → s.at i h = some xs[i]?) (h0 : I 0 [] (h1 ++ [.lst []]))
    (step : ∀ i x acc h, xs[i]? = some x → I i acc h → ∃ σ1, g x (wipeA σ vs) = some σ1 ∧ ((∃ h2, t σ1 h = .ok false h2 ∧ I (i + 1) acc h2) ∨
      ∃ h2 w h3, t σ1 h = .ok true h2 ∧ e σ1 h2 = .ok w h3 ∧ h3[h1.length]? = some (.lst acc) ∧ acc.length < sizeLine ∧ I (i + 1) (acc ++ [w]) (h3.set h1.length (.lst (acc ++ [w]))))) :
    ∃ acc h2, sLc it g t e vs σ h = .ok (.ref h1.length) h2 ∧ I xs.length acc h2 := by
  unfold sLc
  rw [hi]
  simp only [bind_ok]
  rw [hl]
  exact lcL_inv I hat step xs.length 0 [] _ (by simp) h0
theorem take_get {α : Type} {xs : List α} {i : Nat} {x : α} (h : xs[i]? = some x) : xs.take (i + 1) = xs.take i ++ [x] := by rw [List.take_succ, h]; rfl
end Mi

namespace Mi
open PySem PySem.Spec PyProof.Rows L2
abbrev K3 := Str × Str × Str
abbrev Rul := List (K3 × List Str)
abbrev enK (k : K3) : List Ky := [.inr k.1, .inr k.2.1, .inr k.2.2]
theorem enK_inj {a b : K3} (h : enK a = enK b) : a = b := by
  obtain ⟨a1, a2, a3⟩ := a
  obtain ⟨b1, b2, b3⟩ := b
  simp [enK] at h
  obtain ⟨h1, h2, h3⟩ := h
  subst h1 h2 h3
  rfl
def encR (f : List Str → AV) (R : Rul) : List (List Ky × AV) := R.map fun q => (enK q.1, f q.2)
def getR (R : Rul) (k : K3) : List Str := ((R.find? fun q => decide (q.1 = k)).map (·.2)).getD []
def putR (R : Rul) (k : K3) (l : List Str) : Rul := if (R.any fun q => decide (q.1 = k)) = true then R.map (fun q => if q.1 = k then (q.1, l) else q) else R ++ [(k, l)]
theorem valA_enc {f : List Str → AV} {k : K3} : ∀ {R : Rul}, valA (encR f R) (enK k) = ((R.find? fun q => decide (q.1 = k)).map (·.2)).map f
  | [] => rfl
  | q :: R => by
    have ih := valA_enc (f := f) (k := k) (R := R)
    unfold valA encR at ih ⊢
    rw [List.map_cons, List.find?_cons, List.find?_cons]
    by_cases h : q.1 = k
    · subst h; simp
    · have h2 : ¬ enK q.1 = enK k := fun z => h (enK_inj z)
      have e1 : decide (enK q.1 = enK k) = false := decide_eq_false h2
      have e2 : decide (q.1 = k) = false := decide_eq_false h
      simp only [e1, e2]
      exact ih
theorem valA_getR {f : List Str → AV} {R : Rul} {k : K3} : (valA (encR f R) (enK k)).getD (f []) = f (getR R k) := by
  rw [valA_enc]
  unfold getR
  cases R.find? fun q => decide (q.1 = k) <;> rfl
theorem putD_enc {f : List Str → AV} {R : Rul} {k : K3} {l : List Str} : putD (encR f R) (enK k) (f l) = encR f (putR R k l) := by
  have ea : ((encR f R).any fun kv => decide (kv.1 = enK k)) = (R.any fun q => decide (q.1 = k)) := by
    unfold encR
    rw [List.any_map]
    congr 1
    funext q
    simp only [Function.comp]
    by_cases h : q.1 = k
    · subst h; simp
    · have h2 : ¬ enK q.1 = enK k := fun z => h (enK_inj z)
      rw [decide_eq_false h, decide_eq_false h2]
  unfold putD putR
  rw [ea]
  split
  · unfold encR
    rw [List.map_map, List.map_map]
    refine List.map_congr_left fun q _ => ?_
    simp only [Function.comp]
    by_cases h : q.1 = k
    · subst h; simp
    · have h2 : ¬ enK q.1 = enK k := fun z => h (enK_inj z)
      rw [if_neg h2, if_neg h]
  · simp [encR]
theorem mem_getR {R : Rul} {k : K3} {x : Str} (h : x ∈ getR R k) : ∃ l, (k, l) ∈ R ∧ x ∈ l := by
  unfold getR at h
  cases e : R.find? fun q => decide (q.1 = k) with
  | none => rw [e] at h; cases h
  | some q =>
    rw [e] at h
    have z := List.find?_some e
    simp only [decide_eq_true_eq] at z
    exact ⟨q.2, z ▸ List.mem_of_find?_eq_some e, h⟩
theorem putR_keys {R : Rul} {k : K3} {l : List Str} (nd : (R.map (·.1)).Nodup) : ((putR R k l).map (·.1)).Nodup := by
  unfold putR
  split
  · rw [List.map_map]
    have e : ((fun q : K3 × List Str => q.1) ∘ fun q => if q.1 = k then (q.1, l) else q) = fun q => q.1 := by
      funext q; simp only [Function.comp]; split <;> rfl
    rw [e]; exact nd
  · rename_i h
    rw [List.map_append]
    refine List.nodup_append.mpr ⟨nd, by simp, fun a ha b hb => ?_⟩
    simp at hb
    subst hb
    intro z
    subst z
    obtain ⟨q, hq, e⟩ := List.mem_map.mp ha
    exact h (List.any_eq_true.mpr ⟨q, hq, by simp [e]⟩)
theorem mem_putR {R : Rul} {k : K3} {l : List Str} {q : K3 × List Str} (h : q ∈ putR R k l) : q ∈ R ∨ q = (k, l) := by
  unfold putR at h
  split at h
  · obtain ⟨p, hp, e⟩ := List.mem_map.mp h
    split at e
    · rename_i hk
      right; rw [← e, hk]
    · left; rw [← e]; exact hp
  · rcases List.mem_append.mp h with h | h
    · exact .inl h
    · exact .inr (List.mem_singleton.mp h)
theorem getR_put {R : Rul} {k j : K3} {l : List Str} : getR (putR R k l) j = if k = j then l else getR R j := by
  unfold getR putR
  split
  · rename_i h
    induction R with
    | nil => simp at h
    | cons q R ih =>
      rw [List.map_cons, List.find?_cons, List.find?_cons]
      by_cases hq : q.1 = k
      · by_cases hj : k = j
        · subst hj; simp [hq]
        · have hqj : ¬ q.1 = j := fun z => hj (hq ▸ z)
          simp only [if_pos hq, decide_eq_false hqj, if_neg hj]
          by_cases ha : (R.any fun q => decide (q.1 = k)) = true
          · have z := ih ha
            simp only [if_neg hj] at z
            exact z
          · have e : R.map (fun q => if q.1 = k then (q.1, l) else q) = R := by
              conv => rhs; rw [← List.map_id R]
              refine List.map_congr_left fun p hp => ?_
              have : ¬ p.1 = k := fun z => ha (List.any_eq_true.mpr ⟨p, hp, by simp [z]⟩)
              rw [if_neg this]; rfl
            rw [e]
      · have ha : (R.any fun q => decide (q.1 = k)) = true := by
          rw [List.any_cons, decide_eq_false hq, Bool.false_or] at h
          exact h
        have z := ih ha
        simp only [if_neg hq]
        by_cases hqj : q.1 = j
        · have hj : ¬ k = j := fun z => hq (hqj.trans z.symm)
          simp [hqj, hj]
        · simp only [decide_eq_false hqj]
          exact z
  · rename_i h
    rw [List.find?_append]
    by_cases hj : k = j
    · subst hj
      have e : (R.find? fun q => decide (q.1 = k)) = none := List.find?_eq_none.mpr fun q hq z => h (List.any_eq_true.mpr ⟨q, hq, z⟩)
      rw [e]; simp
    · simp [hj]
def words : List Str := ["style", "insert", "remove", "move"]
def eplc : List Str := ["own", "parent", "next", "up"]
def cplc : List Str := ["own", "parent", "next", "children"]
def plc (N : List Str) (e : Str) : List Str := if e = "fence" then ["up"] else if e = "remove" then ["parent", "next", "up"] else if e ∈ words then eplc else if e ∈ N then cplc else []
theorem menuN_ev : ∀ x ∈ menuN, x ≠ "fence" ∧ x ≠ "remove" ∧ x ∉ words := by decide +kernel
theorem plc_N {N : List Str} (h : ∀ x ∈ N, x ∈ menuN) {x : Str} (hx : x ∈ N) : plc N x = cplc := by
  obtain ⟨h1, h2, h3⟩ := menuN_ev x (h x hx)
  unfold plc
  rw [if_neg h1, if_neg h2, if_neg h3, if_pos hx]
theorem plc_s {N : List Str} : plc N "style" = eplc := by unfold plc; rw [if_neg (by decide), if_neg (by decide), if_pos (by decide)]
theorem plc_i {N : List Str} : plc N "insert" = eplc := by unfold plc; rw [if_neg (by decide), if_neg (by decide), if_pos (by decide)]
theorem plc_m {N : List Str} : plc N "move" = eplc := by unfold plc; rw [if_neg (by decide), if_neg (by decide), if_pos (by decide)]
theorem plc_r {N : List Str} : plc N "remove" = (["parent", "next", "up"] : List Str) := by unfold plc; rw [if_neg (by decide), if_pos rfl]
theorem plc_f {N : List Str} : plc N "fence" = (["up"] : List Str) := by unfold plc; rw [if_pos rfl]
/-- the marks by which a pass goes through -/
def Bk.ways (b : Bk) : List Str := b.M.filter fun m => (b.Rd.filter fun p => decide (m ∈ p.2)).length > 0
def RulOk1 (b : Bk) (k : K3) (l : List Str) : Prop := k.1 ∈ b.e.K ∧ k.2.2 ∈ plc b.e.N k.2.1 ∧ l.Nodup ∧ (∀ m ∈ l, m ∈ b.M) ∧ (k.2.1 = "fence" → ∀ m ∈ l, ∀ p ∈ b.Rd, m ∉ p.2)
structure RulOk (b : Bk) (R : Rul) : Prop where
  nd : (R.map (·.1)).Nodup
  one : ∀ q ∈ R, RulOk1 b q.1 q.2
theorem RulOk.nil {b : Bk} : RulOk b [] := ⟨by simp, by simp⟩
theorem RulOk.put {b : Bk} {R : Rul} (h : RulOk b R) {k : K3} {l : List Str} (h1 : RulOk1 b k l) : RulOk b (putR R k l) := ⟨putR_keys h.nd, fun q hq => by
  rcases mem_putR hq with z | z
  · exact h.one q z
  · rw [z]; exact h1⟩
theorem RulOk.get {b : Bk} {R : Rul} (h : RulOk b R) (k : K3) : (getR R k).Nodup ∧ (∀ m ∈ getR R k, m ∈ b.M) ∧ (k.2.1 = "fence" → ∀ m ∈ getR R k, ∀ p ∈ b.Rd, m ∉ p.2) := by
  unfold getR
  cases e : R.find? fun q => decide (q.1 = k) with
  | none => simp
  | some q =>
    have z := List.find?_some e
    simp only [decide_eq_true_eq] at z
    obtain ⟨_, _, h3, h4, h5⟩ := h.one q (List.mem_of_find?_eq_some e)
    rw [z] at h5
    exact ⟨h3, h4, h5⟩
/-- marks joined to a rule -/
def addR (R : Rul) (k : K3) (ms : List Str) : Rul := putR R k (getR R k ++ ms.filter fun m => decide (m ∉ getR R k))
theorem RulOk.add {b : Bk} {R : Rul} (h : RulOk b R) {k : K3} {ms : List Str} (h1 : RulOk1 b k ms) : RulOk b (addR R k ms) := by
  obtain ⟨g1, g2, g3⟩ := h.get k
  obtain ⟨a1, a2, a3, a4, a5⟩ := h1
  refine h.put ⟨a1, a2, ?_, fun m hm => ?_, fun e m hm => ?_⟩
  · refine List.nodup_append.mpr ⟨g1, a3.filter _, fun x hx y hy => ?_⟩
    have := (List.mem_filter.mp hy).2
    simp only [decide_eq_true_eq] at this
    exact fun z => this (z ▸ hx)
  · rcases List.mem_append.mp hm with z | z
    · exact g2 m z
    · exact a4 m (List.mem_filter.mp z).1
  · rcases List.mem_append.mp hm with z | z
    · exact g3 e m z
    · exact a5 e m (List.mem_filter.mp z).1
theorem plc_len {N : List Str} {e : Str} : (plc N e).length ≤ 4 := by
  unfold plc eplc cplc
  split
  · simp
  · split
    · simp
    · split
      · simp
      · split <;> simp
theorem plc_ev {N : List Str} {e p : Str} (h : p ∈ plc N e) : e ∈ words ++ N ++ [("fence" : Str)] := by
  unfold plc at h
  split at h
  · rename_i z; rw [z]; simp
  · split at h
    · rename_i z; rw [z]; simp [words]
    · split at h
      · rename_i z; simp [z]
      · split at h
        · rename_i z; simp [z]
        · cases h
/-- the number of rules is bounded -/
theorem RulOk.len {b : Bk} (B : b.Ok) {R : Rul} (h : RulOk b R) : R.length < 200 := by
  have sub : ∀ x ∈ R.map (·.1), x ∈ b.e.K.flatMap fun k => (words ++ b.e.N ++ [("fence" : Str)]).flatMap fun e => (plc b.e.N e).map fun p => (k, e, p) := fun x hx => by
    obtain ⟨q, hq, rfl⟩ := List.mem_map.mp hx
    obtain ⟨h1, h2, _⟩ := h.one q hq
    exact List.mem_flatMap.mpr ⟨_, h1, List.mem_flatMap.mpr ⟨_, plc_ev h2, List.mem_map.mpr ⟨_, h2, rfl⟩⟩⟩
  have z := List.Nodup.length_le_of_subset h.nd sub
  rw [List.length_map] at z
  have l1 : ∀ k ∈ b.e.K, ((words ++ b.e.N ++ [("fence" : Str)]).flatMap fun e => (plc b.e.N e).map fun p => (k, e, p)).length ≤ 36 := fun k _ => by
    have y := flatMap_len (c := 4) (F := fun e => (plc b.e.N e).map fun p => (k, e, p)) (ys := words ++ b.e.N ++ [("fence" : Str)]) fun e _ => by rw [List.length_map]; exact plc_len
    have : (words ++ b.e.N ++ [("fence" : Str)]).length ≤ 9 := by
      have := B.eng.n2
      simp [words]; omega
    omega
  have y := flatMap_len l1
  have := B.eng.k2
  omega
abbrev K4 := Str × Str × Str × Str
abbrev t4 (xs : List K4) : List AV := xs.map fun q => .tup [.str q.1, .str q.2.1, .str q.2.2.1, .str q.2.2.2]
def atP (b : Bk) (f : K3 → List Str) (k e p : Str) : List K4 := (b.M.filter fun m => decide (m ∈ f (k, e, p))).map fun m => (k, e, p, m)
def atE (b : Bk) (f : K3 → List Str) (k e : Str) : List K4 := (plc b.e.N e).flatMap (atP b f k e)
def atK (b : Bk) (f : K3 → List Str) (k : Str) : List K4 := (words ++ b.e.N).flatMap (atE b f k)
def Bk.atoms (b : Bk) (f : K3 → List Str) : List K4 := b.e.K.flatMap (atK b f)
theorem atP_len {b : Bk} (B : b.Ok) {f : K3 → List Str} {k e p : Str} : (atP b f k e p).length ≤ 4 := by
  unfold atP
  rw [List.length_map]
  exact Nat.le_trans (List.length_filter_le _ _) B.m2
theorem atE_len {b : Bk} (B : b.Ok) {f : K3 → List Str} {k e : Str} : (atE b f k e).length ≤ 16 := by
  have z := flatMap_len (F := atP b f k e) (ys := plc b.e.N e) fun p _ => atP_len B
  have := plc_len (N := b.e.N) (e := e)
  unfold atE
  omega
theorem ev_len {b : Bk} (B : b.Ok) : (words ++ b.e.N).length ≤ 8 := by
  have := B.eng.n2
  simp [words]; omega
theorem atK_len {b : Bk} (B : b.Ok) {f : K3 → List Str} {k : Str} : (atK b f k).length ≤ 128 := by
  have z := flatMap_len (F := atE b f k) (ys := words ++ b.e.N) fun e _ => atE_len B
  have := ev_len B
  unfold atK
  omega
theorem atoms_len {b : Bk} (B : b.Ok) {f : K3 → List Str} : (b.atoms f).length ≤ 384 := by
  have z := flatMap_len (F := atK b f) (ys := b.e.K) fun k _ => atK_len B
  have := B.eng.k2
  unfold Bk.atoms
  omega
theorem atoms_congr {b : Bk} {f g : K3 → List Str} (h : ∀ k m, m ∈ f k ↔ m ∈ g k) : b.atoms f = b.atoms g := by
  have e : ∀ k e p, atP b f k e p = atP b g k e p := fun k e p => by
    unfold atP
    congr 1
    refine List.filter_congr fun m _ => ?_
    simp only [h]
  have e0 : atP b f = atP b g := by funext k x p; exact e k x p
  have e1 : atE b f = atE b g := by funext k x; unfold atE; rw [e0]
  have e2 : atK b f = atK b g := by funext k; unfold atK; rw [e1]
  unfold Bk.atoms
  rw [e2]
end Mi

namespace Mi
open PySem PySem.Spec PyProof.Rows L2
def kG1 (fi fx : SE) (σ : Sl) : AV → AH → R AV := fun d h1 => if isDic d h1 then (fi σ h1).bind fun y h2 => (fx σ h2).bind fun z h3 => match dGetA d y h3 with
    | some r => .ok (r.getD z) h3
    | none => .bad
  else .bad
def kG2 (fx : SE) (σ : Sl) (d : AV) : AV → AH → R AV := fun y h2 => (fx σ h2).bind fun z h3 => match dGetA d y h3 with
    | some r => .ok (r.getD z) h3
    | none => .bad
def kG3 (d y : AV) : AV → AH → R AV := fun z h3 => match dGetA d y h3 with
    | some r => .ok (r.getD z) h3
    | none => .bad
section
variable {fo fi fx : SE} {σ : Sl} {h : AH} {d y z : AV}
@[simp] theorem e_get2 : sGet2 fo fi fx σ h = (fo σ h).bind (kG1 fi fx σ) := (rfl)
theorem k_g1 (q : isDic d h = true) : kG1 fi fx σ d h = (fi σ h).bind (kG2 fx σ d) := by unfold kG1; rw [if_pos q]; rfl
@[simp] theorem k_g2 : kG2 fx σ d y h = (fx σ h).bind (kG3 d y) := (rfl)
theorem k_g3 {r : Option AV} (q : dGetA d y h = some r) : kG3 d y z h = .ok (r.getD z) h := by unfold kG3; rw [q]
end
/-- a value that has the rules R -/
def HasR (f : List Str → AV) (d : AV) (R : Rul) (h : AH) : Prop := isDic d h = true ∧ ∀ k : K3, dGetA d (.tup [.str k.1, .str k.2.1, .str k.2.2]) h = some (valA (encR f R) (enK k))
theorem hasR_ref {f : List Str → AV} {R : Rul} {a : Nat} {h : AH} (q : h[a]? = some (.dt (encR f R))) : HasR f (.ref a) R h := ⟨by simp [isDic, q], fun k => by simp [dGetA, q, omap, keyOf]⟩
theorem hasR_ft {f : List Str → AV} {R : Rul} {h : AH} : HasR f (.ft ((encR f R).map (·.1)) ((encR f R).map (·.2))) R h := ⟨rfl, fun k => by
  show some (valA (((encR f R).map (·.1)).zip ((encR f R).map (·.2))) (enK k)) = _
  rw [zip_fst_snd]⟩
theorem hasR_get {f : List Str → AV} {R : Rul} {d : AV} {h : AH} (q : HasR f d R h) {k e p : Str} : kG3 d (.tup [.str k, .str e, .str p]) (f []) h = .ok (f (getR R (k, e, p))) h := by
  rw [k_g3 (q.2 (k, e, p)), valA_getR]
theorem p_dtE {f : List Str → AV} {R : Rul} {a : Nat} {h : AH} {k e p : Str} {l : List Str} (q : h[a]? = some (.dt (encR f R))) (z : R.length < 1000) : dPutA (.ref a) (.tup [.str k, .str e, .str p]) (f l) h = some (h.set a (.dt (encR f (putR R (k, e, p) l)))) := by
  simp only [dPutA, q, omap, keyOf]
  rw [if_pos (by rw [sizeLine_eq]; unfold encR; rw [List.length_map]; omega)]
  exact congrArg (fun x => some (h.set a (.dt x))) (putD_enc (k := (k, e, p)))
/-- the value told, or the empty tuple -/
theorem ctp_in {C : CE} {R : Rul} {k : K3} {h : AH} {m : Str} : oInA C (.str m) ((valA (encR AV.ctp R) (enK k)).getD (.tup [])) h = .ok (.bl (decide (m ∈ getR R k))) h := by
  rw [valA_enc]
  unfold getR
  cases R.find? fun q => decide (q.1 = k) with
  | none => exact v_in (xs := []) rfl
  | some q => exact v_inC
theorem ctp_seq {R : Rul} {k : K3} {h : AH} : seqOf ((valA (encR AV.ctp R) (enK k)).getD (.tup [])) h = some (sts (getR R k)) := by
  rw [valA_enc]
  unfold getR
  cases R.find? fun q => decide (q.1 = k) <;> rfl
theorem ctp_clean {R : Rul} {k : K3} {n : Nat} : clean n ((valA (encR AV.ctp R) (enK k)).getD (.tup [])) = true := by
  rw [valA_enc]
  cases R.find? fun q => decide (q.1 = k) <;> rfl
def mkR1 (B : Rul) (k : K3) (ms : List Str) : Rul := ms.foldl (fun B m => putR B k (alp (getR B k ++ [m]))) B
def mkR (R : Rul) : Rul := R.foldl (fun B q => mkR1 B q.1 q.2) []
theorem mkR1_mem {k j : K3} {x : Str} : ∀ {ms : List Str} {B : Rul}, x ∈ getR (mkR1 B k ms) j ↔ x ∈ getR B j ∨ (k = j ∧ x ∈ ms)
  | [], B => by simp [mkR1]
  | m :: ms, B => by
    show x ∈ getR (mkR1 (putR B k (alp (getR B k ++ [m]))) k ms) j ↔ _
    rw [mkR1_mem, getR_put]
    by_cases h : k = j
    · subst h
      simp [mem_alp, or_assoc]
    · simp [h]
theorem mkR_mem0 {j : K3} {x : Str} : ∀ {R B : Rul}, x ∈ getR (R.foldl (fun B q => mkR1 B q.1 q.2) B) j ↔ x ∈ getR B j ∨ ∃ q ∈ R, q.1 = j ∧ x ∈ q.2
  | [], B => by simp
  | q :: R, B => by
    rw [List.foldl_cons, mkR_mem0, mkR1_mem]
    simp [or_assoc]
theorem getR_mem {R : Rul} (nd : (R.map (·.1)).Nodup) {j : K3} {x : Str} : x ∈ getR R j ↔ ∃ q ∈ R, q.1 = j ∧ x ∈ q.2 := by
  constructor
  · intro h
    obtain ⟨l, hl, hx⟩ := mem_getR h
    exact ⟨_, hl, rfl, hx⟩
  · rintro ⟨q, hq, rfl, hx⟩
    unfold getR
    cases e : R.find? fun p => decide (p.1 = q.1) with
    | none =>
      have z := List.find?_eq_none.mp e q hq
      simp at z
    | some p =>
      have z := List.find?_some e
      simp only [decide_eq_true_eq] at z
      have hp := List.mem_of_find?_eq_some e
      obtain ⟨i, hi, e1⟩ := List.getElem_of_mem hp
      obtain ⟨i2, hi2, e2⟩ := List.getElem_of_mem hq
      have hij : i = i2 := by
        refine (List.getElem_inj (xs := R.map (·.1)) (h₀ := by simpa using hi) (h₁ := by simpa using hi2) nd).mp ?_
        rw [List.getElem_map, List.getElem_map, e1, e2, z]
      subst hij
      rw [e1] at e2
      subst e2
      exact hx
theorem mkR_mem {R : Rul} (nd : (R.map (·.1)).Nodup) {j : K3} {x : Str} : x ∈ getR (mkR R) j ↔ x ∈ getR R j := by
  unfold mkR
  rw [mkR_mem0, getR_mem nd]
  simp [getR]
theorem RulOk.mk1 {b : Bk} {k : K3} : ∀ {ms : List Str} {B : Rul}, RulOk b B → RulOk1 b k ms → RulOk b (mkR1 B k ms)
  | [], B, h, _ => h
  | m :: ms, B, h, ⟨a1, a2, a3, a4, a5⟩ => by
    obtain ⟨g1, g2, g3⟩ := h.get k
    refine RulOk.mk1 (ms := ms) (B := putR B k (alp (getR B k ++ [m]))) (h.put ⟨a1, a2, nodup_alp _, fun x hx => ?_, fun e x hx => ?_⟩) ⟨a1, a2, (List.nodup_cons.mp a3).2, fun x hx => a4 x (List.mem_cons_of_mem _ hx), fun e x hx => a5 e x (List.mem_cons_of_mem _ hx)⟩
    · rcases List.mem_append.mp (mem_alp.mp hx) with z | z
      · exact g2 x z
      · rw [List.mem_singleton.mp z]; exact a4 m List.mem_cons_self
    · rcases List.mem_append.mp (mem_alp.mp hx) with z | z
      · exact g3 e x z
      · rw [List.mem_singleton.mp z]; exact a5 e m List.mem_cons_self
theorem RulOk.mk0 {b : Bk} : ∀ {R B : Rul}, RulOk b B → (∀ q ∈ R, RulOk1 b q.1 q.2) → RulOk b (R.foldl (fun B q => mkR1 B q.1 q.2) B)
  | [], B, h, _ => h
  | q :: R, B, h, h1 => RulOk.mk0 (R := R) (h.mk1 (h1 q List.mem_cons_self)) fun p hp => h1 p (List.mem_cons_of_mem _ hp)
theorem RulOk.made {b : Bk} {R : Rul} (h : RulOk b R) : RulOk b (mkR R) := RulOk.mk0 .nil h.one
theorem alp_alp {xs ys : List Str} : alp (alp xs ++ alp ys) = alp (xs ++ ys) := alp_congr fun y => by simp [mem_alp]
theorem alp_alp1 {xs : List Str} {m : Str} : alp (alp xs ++ alp [m]) = alp (xs ++ [m]) := alp_alp
def Bk.ev (b : Bk) : AV := .fl (b.Rd.map fun p => .fl (sts p.1))
def Bk.tv (b : Bk) : AV := .fl (b.Rd.map fun p => .fl (sts p.2))
def bkv (b : Bk) (rv : AV) : AV := .fk [.inr "kinds", .inr "passes", .inr "sources", .inr "names", .inr "rules", .inr "marks", .inr "enters", .inr "through"] [.fl (sts b.e.K), .fl b.e.pv, b.e.sv, .fl (sts b.e.N), rv, .fl (sts b.M), b.ev, b.tv]
section
variable {b : Bk} {rv : AV} {h : AH}
theorem gb_k : dGetA (bkv b rv) (.str "kinds") h = some (some (.fl (sts b.e.K))) := rfl
theorem gb_p : dGetA (bkv b rv) (.str "passes") h = some (some (.fl b.e.pv)) := rfl
theorem gb_s : dGetA (bkv b rv) (.str "sources") h = some (some b.e.sv) := rfl
theorem gb_n : dGetA (bkv b rv) (.str "names") h = some (some (.fl (sts b.e.N))) := rfl
theorem gb_r : dGetA (bkv b rv) (.str "rules") h = some (some rv) := rfl
theorem gb_m : dGetA (bkv b rv) (.str "marks") h = some (some (.fl (sts b.M))) := rfl
theorem gb_e : dGetA (bkv b rv) (.str "enters") h = some (some b.ev) := rfl
theorem gb_t : dGetA (bkv b rv) (.str "through") h = some (some b.tv) := rfl
end
theorem blsL_map : ∀ (bs : List Bool), blsL (bs.map .bl) = some bs
  | [] => rfl
  | b :: bs => by
    have ih := blsL_map bs
    unfold blsL at ih ⊢
    rw [List.map_cons, omap, ih]
end Mi

namespace Mi
open PySem PySem.Spec PyProof.Rows L2
abbrev fR (l : List Str) : AV := .fl (sts l)
/-- the law's arena: the tape, the rules behind P -/
abbrev BA (o : AO) (P : AH) (R : Rul) (Z : AH) : AH := o :: (P ++ .dt (encR fR R) :: Z)
theorem ba_get {o : AO} {P : AH} {R : Rul} {Z : AH} : (BA o P R Z)[P.length + 1]? = some (.dt (encR fR R)) := tl_get0
theorem ba_set {o : AO} {P : AH} {R R' : Rul} {Z : AH} : (BA o P R Z).set (P.length + 1) (.dt (encR fR R')) = BA o P R' Z := tl_set0
theorem ba_len {o : AO} {P : AH} {R : Rul} {Z : AH} : (BA o P R Z).length = P.length + 1 + Z.length + 1 := by simp [BA]; omega
theorem clean_encR {n : Nat} {R : Rul} : cleanO n (.dt (encR fR R)) = true := by
  unfold cleanO encR
  refine cleans_iff.mpr fun v hv => ?_
  rw [List.map_map] at hv
  obtain ⟨q, _, rfl⟩ := List.mem_map.mp hv
  exact clean_sts
theorem clean_encC {n : Nat} {R : Rul} : cleanO n (.dt (encR AV.ctp R)) = true := by
  unfold cleanO encR
  refine cleans_iff.mpr fun v hv => ?_
  rw [List.map_map] at hv
  obtain ⟨q, _, rfl⟩ := List.mem_map.mp hv
  rfl
section
variable {h h' : AH} {v : AV} {b : Bool} {σ σ1 : Sl} {js : List Nat}
theorem trimG_same (len : h'.length = h.length) (q : ∀ (i : Nat) (o : AO), h'[i]? = some o → h[i]? = some o ∨ cleanO h.length o = true) (c : cleanS h.length (wipeA σ1 js) = true) : trimG js h (.ok (.nx σ1) h') = .ok (.nx (wipeA σ1 js)) h' := by
  have k : TrimOk 0 h h' := fun i o hi e => by
    rcases q i o e with z | z
    · exact .inl ⟨by simpa using hi, z⟩
    · exact .inr (by simpa using z)
  unfold trimG
  dsimp only
  rw [if_pos ⟨by omega, cleanS_mem c, k⟩, ← len, List.take_length]
theorem trimP_chg (len : h'.length = h.length) : trimP h (.ok b h' : R Bool) = .ok b h' := by
  unfold trimP
  dsimp only
  split
  · rw [← len, List.take_length]
  · rfl
/-- the tape and the rules may have changed -/
theorem trimG_ba {o o' : AO} {P : AH} {R R' : Rul} {Z : AH} (co : cleanO (P.length + 1 + Z.length + 1) o' = true) (c : cleanS (P.length + 1 + Z.length + 1) (wipeA σ1 js) = true) : trimG js (BA o P R Z) (.ok (.nx σ1) (BA o' P R' Z)) = .ok (.nx (wipeA σ1 js)) (BA o' P R' Z) := by
  refine trimG_same (by rw [ba_len, ba_len]) (fun i x e => ?_) (by rw [ba_len]; exact c)
  cases i with
  | zero =>
    have : x = o' := by simpa using e.symm
    subst this
    right; rw [ba_len]; exact co
  | succ i =>
    unfold BA at e
    rw [List.getElem?_cons_succ] at e
    by_cases hi : i < P.length
    · left
      rw [List.getElem?_append_left hi] at e
      unfold BA
      rw [List.getElem?_cons_succ, List.getElem?_append_left hi]
      exact e
    · by_cases h2 : i = P.length
      · subst h2
        right
        simp at e
        subst e
        exact clean_encR
      · left
        rw [List.getElem?_append_right (by omega)] at e
        unfold BA
        rw [List.getElem?_cons_succ, List.getElem?_append_right (by omega)]
        obtain ⟨j, hj⟩ : ∃ j, i - P.length = j + 1 := ⟨i - P.length - 1, by omega⟩
        rw [hj] at e ⊢
        rw [List.getElem?_cons_succ] at e ⊢
        exact e
/-- an old object changed, and more came -/
theorem trimG_put {B X : AH} {j : Nat} {o : AO} (co : cleanO B.length o = true) (c : cleanS B.length (wipeA σ1 js) = true) : trimG js B (.ok (.nx σ1) (B.set j o ++ X)) = .ok (.nx (wipeA σ1 js)) (B.set j o) := by
  have k : TrimOk 0 B (B.set j o ++ X) := fun i ob hi e => by
    have hi2 : i < B.length := by simpa using hi
    rw [List.getElem?_append_left (by simpa using hi2)] at e
    by_cases hij : i = j
    · subst hij
      rw [List.getElem?_set_self hi2] at e
      cases e
      exact .inr (by simpa using co)
    · rw [List.getElem?_set_ne (Ne.symm hij)] at e
      exact .inl ⟨hi2, e⟩
  unfold trimG
  dsimp only
  rw [if_pos ⟨by simp, cleanS_mem c, k⟩]
  simp
end
theorem tp_clean {ns : List Int} {o : AO} {n : Nat} (h : ∃ a b c, o = tp a b c ns ∧ (0 : Int) ≤ a ∧ (0 : Int) ≤ b) : cleanO n o = true := by
  obtain ⟨a, b, c, rfl, _, _⟩ := h
  exact cleanO_tp
def kOw1 (C : CE) (o i : SE) (σ : Sl) : AV → AH → RS := fun v h1 => (o σ h1).to σ fun x h2 => (i σ h2).to σ fun y h3 => match cls? x h3 with
  | some (c, _) => match C.dn c .set with
    | some j => (C.call j [x, y, v] h3).to σ fun _ h4 => .ok (.nx σ) h4
    | none => .bad
  | none => .bad
def kOw2 (C : CE) (i : SE) (σ : Sl) (v : AV) : AV → AH → RS := fun x h2 => (i σ h2).to σ fun y h3 => match cls? x h3 with
  | some (c, _) => match C.dn c .set with
    | some j => (C.call j [x, y, v] h3).to σ fun _ h4 => .ok (.nx σ) h4
    | none => .bad
  | none => .bad
def kOw3 (C : CE) (σ : Sl) (v x : AV) : AV → AH → RS := fun y h3 => match cls? x h3 with
  | some (c, _) => match C.dn c .set with
    | some j => (C.call j [x, y, v] h3).to σ fun _ h4 => .ok (.nx σ) h4
    | none => .bad
  | none => .bad
def kOw4 (σ : Sl) : AV → AH → RS := fun _ h4 => .ok (.nx σ) h4
section
variable {C : CE} {σ : Sl} {h : AH} {o i e : SE} {x y v : AV}
@[simp] theorem e_own : ssOwn C o i e σ h = (e σ h).to σ (kOw1 C o i σ) := (rfl)
@[simp] theorem k_ow1 : kOw1 C o i σ v h = (o σ h).to σ (kOw2 C i σ v) := (rfl)
@[simp] theorem k_ow2 : kOw2 C i σ v x h = (i σ h).to σ (kOw3 C σ v x) := (rfl)
@[simp] theorem k_ow4 : kOw4 σ v h = .ok (.nx σ) h := (rfl)
theorem k_ow3 {a c f : Nat} {fs : Fs} (q : h[a]? = some (.ins c fs)) (d : C.dn c .set = some f) : kOw3 C σ v (.ref a) y h = (C.call f [.ref a, y, v] h).to σ (kOw4 σ) := by
  unfold kOw3
  rw [show cls? (.ref a) h = some (c, fs) from by simp [cls?, q]]
  dsimp only
  rw [d]
  rfl
theorem v_orO {a b c f : Nat} {fs gs : Fs} (qa : h[a]? = some (.ins c fs)) (qb : h[b]? = some (.ins c gs)) (d : C.dn c .or = some f) : oOr C (.ref a) (.ref b) h = C.call f [.ref a, .ref b] h := by
  unfold oOr dun
  rw [show cls? (.ref a) h = some (c, fs) from by simp [cls?, qa], show cls? (.ref b) h = some (c, gs) from by simp [cls?, qb]]
  dsimp only
  rw [if_pos rfl, d]
theorem e_forD_ft {g : SG} {b : SS} {fe : SE} {ks : List (List Ky)} {vs : List AV} (q : fe σ h = .ok (.ft ks vs) h) : sForD fe g b σ h = kFor g b σ (.tup (ks.map fun k => .tup (k.map kyA))) h := by
  unfold sForD
  rw [q]
  dsimp only
  rw [e_for, e_iSeq, q]
  rfl
theorem e_forD_nil {g : SG} {b : SS} {fe : SE} {a : Nat} (q : fe σ h = .ok (.ref a) h) (q2 : h[a]? = some (.dt [])) : sForD fe g b σ h = .ok (.nx σ) h := by
  unfold sForD
  rw [q]
  dsimp only
  rw [q2]
end
end Mi

namespace Mi
open PySem PySem.Spec PyProof.Rows L2
theorem cleans_t4 {n : Nat} {xs : List K4} : cleans n (t4 xs) = true := cleans_iff.mpr fun v hv => by
  obtain ⟨x, _, rfl⟩ := List.mem_map.mp hv; rfl
theorem t4_flat {α : Type} {F : α → List K4} : ∀ {ys : List α}, (ys.flatMap fun p => t4 (F p)) = t4 (ys.flatMap F)
  | [] => rfl
  | y :: ys => by rw [List.flatMap_cons, List.flatMap_cons, t4_flat]; exact (List.map_append ..).symm
theorem t4_app {xs ys : List K4} : t4 (xs ++ ys) = t4 xs ++ t4 ys := List.map_append
theorem atP_comp {it : SI} {e : SE} {b : Bk} {f : K3 → List Str} {kd ev p : Str} {B : AH} {σ : Sl} {t : SB} {vs : List Nat} {j : Nat} (hb : b.M.length ≤ 4) (hi : it σ B = .ok (.tup (sts b.M)) B)
    (st : ∀ m : Str, t ((wipeA σ vs).set j (some (.str m))) B = .ok (decide (m ∈ f (kd, ev, p))) B ∧ e ((wipeA σ vs).set j (some (.str m))) B = .ok (.tup [.str kd, .str ev, .str p, .str m]) B) :
    sLcF it (gNm j) t e vs σ B = .ok (.fl (t4 (atP b f kd ev p))) B := by
  rw [sLcF_ok hi src_tupI (by rw [List.length_map, sizeLine_eq]; omega) (fun x => match x with | .str m => decide (m ∈ f (kd, ev, p)) | _ => false) (fun x => .tup [.str kd, .str ev, .str p, x]) fun x hx => ?_]
  · unfold atP
    rw [List.filter_map, List.map_map]
    show _ = R.ok (AV.fl (((b.M.filter fun m => decide (m ∈ f (kd, ev, p))).map fun m => (kd, ev, p, m)).map _)) B
    rw [List.map_map]
    rfl
  · obtain ⟨m, _, rfl⟩ := List.mem_map.mp hx
    exact ⟨_, rfl, (st m).1, fun _ => (st m).2⟩
def ok4 (q : K4) : Prop := okS q.1 ∧ okS q.2.1 ∧ okS q.2.2.1 ∧ okS q.2.2.2
abbrev pd4 (q : K4) : PyData := PyData.tuple [.str q.1, .str q.2.1, .str q.2.2.1, .str q.2.2.2]
theorem omap_t4 {h : AH} : ∀ (xs : List K4), omap (dat 8 h) (t4 xs) = some (xs.map pd4)
  | [] => rfl
  | x :: xs => by
    rw [show t4 (x :: xs) = AV.tup [.str x.1, .str x.2.1, .str x.2.2.1, .str x.2.2.2] :: t4 xs from rfl]
    unfold omap
    rw [omap_t4 xs]
    rfl
theorem eqvAll_t4 : ∀ (xs : List K4), PyData.eqvAll (xs.map pd4) (xs.map pd4) = true
  | [] => rfl
  | x :: xs => by
    show (PyData.eqvAll [.str x.1, .str x.2.1, .str x.2.2.1, .str x.2.2.2] [.str x.1, .str x.2.1, .str x.2.2.1, .str x.2.2.2] && PyData.eqvAll (xs.map _) (xs.map _)) = true
    rw [eqvAll_t4 xs, show ([PyData.str x.1, .str x.2.1, .str x.2.2.1, .str x.2.2.2]) = [x.1, x.2.1, x.2.2.1, x.2.2.2].map PyData.str from rfl, eqvAll_strs]
    simp
theorem shaped_t4 (xs : List K4) (ok : ∀ q ∈ xs, ok4 q) : SeqAt.shaped (.list (xs.map pd4)) = true := by
  have h1 : PyData.canLayAll0 (xs.map pd4) = true := by
    induction xs with
    | nil => rfl
    | cons x r ih =>
      obtain ⟨o1, o2, o3, o4⟩ := ok x List.mem_cons_self
      show ((PyData.strOk x.1 && (PyData.strOk x.2.1 && (PyData.strOk x.2.2.1 && (PyData.strOk x.2.2.2 && true)))) && PyData.canLayAll0 (r.map _)) = true
      rw [o1, o2, o3, o4, ih fun y hy => ok y (List.mem_cons_of_mem _ hy)]
      rfl
  have h2 : PyData.depthAll (xs.map pd4) ≤ 1 := by
    clear ok h1
    induction xs with
    | nil => exact Nat.zero_le _
    | cons x r ih =>
      show max 1 (PyData.depthAll (r.map _)) ≤ 1
      exact Nat.max_le.mpr ⟨Nat.le_refl _, ih⟩
  show (PyData.canLayAll0 _ && decide (PyData.depthAll _ + 1 ≤ 64)) = true
  rw [h1, decide_eq_true (by omega)]
  rfl
theorem dat_t4 {h : AH} {v : AV} {xs : List K4} (q : lstOf v h = some (t4 xs)) : dat 9 h v = some (.list (xs.map pd4)) := by
  cases v with
  | fl ys => cases q; show (omap (dat 8 h) (t4 xs)).map _ = _; rw [omap_t4]; rfl
  | ref a =>
    simp only [lstOf] at q
    split at q
    · rename_i ys e
      cases q
      show (match h[a]? with | some (.lst xs) => (omap (dat 8 h) xs).map PyData.list | _ => none) = _
      rw [e]
      dsimp only
      rw [omap_t4]; rfl
    · cases q
  | _ => cases q
theorem eqD_t4 {h : AH} {v w : AV} {xs : List K4} (ok : ∀ q ∈ xs, ok4 q) (e1 : lstOf v h = some (t4 xs)) (e2 : lstOf w h = some (t4 xs)) : eqD v w h = some true := by
  unfold eqD
  rw [dat_t4 e1, dat_t4 e2]
  dsimp only
  rw [if_pos ⟨shaped_t4 xs ok, shaped_t4 xs ok⟩]
  show some (PyData.eqvAll _ _) = _
  rw [eqvAll_t4]
theorem words_ok4 : ∀ x ∈ words, okS x := by decide +kernel
theorem plcs_ok : ∀ x ∈ eplc ++ cplc ++ [("up" : Str)], okS x := by decide +kernel
theorem plc_sub {N : List Str} {e p : Str} (h : p ∈ plc N e) : okS p := by
  refine plcs_ok p ?_
  unfold plc at h
  split at h
  · simp at h; simp [h]
  · split at h
    · simp at h; rcases h with rfl | rfl | rfl <;> simp [eplc]
    · split at h
      · simp [h]
      · split at h
        · simp [h]
        · cases h
theorem Bk.Ok.atoms4 {b : Bk} (B : b.Ok) {f : K3 → List Str} : ∀ q ∈ b.atoms f, ok4 q := fun q hq => by
  obtain ⟨k, hk, hq⟩ := List.mem_flatMap.mp hq
  obtain ⟨e, he, hq⟩ := List.mem_flatMap.mp hq
  obtain ⟨p, hp, hq⟩ := List.mem_flatMap.mp hq
  obtain ⟨m, hm, rfl⟩ := List.mem_map.mp hq
  refine ⟨(menu_name k (List.mem_append_left _ (B.eng.kin k hk))).2.2.1, ?_, plc_sub hp, (menuM_name m (B.min m (List.mem_filter.mp hm).1)).2.2.1⟩
  rcases List.mem_append.mp he with z | z
  · exact words_ok4 e z
  · exact (menu_name e (List.mem_append_right _ (B.eng.nin e z))).2.2.1
theorem atoms_nil {b : Bk} : b.atoms (getR []) = [] := by
  have e : ∀ k e p, atP b (getR []) k e p = [] := fun k e p => by simp [atP, getR]
  unfold Bk.atoms
  refine List.flatMap_eq_nil_iff.mpr fun k _ => List.flatMap_eq_nil_iff.mpr fun x _ => List.flatMap_eq_nil_iff.mpr fun p _ => e k x p
theorem atoms_mk {b : Bk} {R : Rul} (h : RulOk b R) : b.atoms (getR (mkR R)) = b.atoms (getR R) := atoms_congr fun k m => mkR_mem h.nd
/-- behind A: the engine, the book, its rules -/
abbrev BB (c1 c2 : Nat) (A : AH) (b : Bk) (R : Rul) : AH := A ++ [.ins c1 (b.e.fs b.e.tv), .ins c2 (b.fs A.length (.ref (A.length + 2))), .dt (encR AV.ctp R)]
section
variable {c1 c2 : Nat} {A : AH} {b : Bk} {R R' : Rul}
theorem bb_len : (BB c1 c2 A b R).length = A.length + 3 := by simp [BB]
theorem bb_e : (BB c1 c2 A b R)[A.length]? = some (.ins c1 (b.e.fs b.e.tv)) := end_get
theorem bb_b : (BB c1 c2 A b R)[A.length + 1]? = some (.ins c2 (b.fs A.length (.ref (A.length + 2)))) := end_get1
theorem bb_r : (BB c1 c2 A b R)[A.length + 2]? = some (.dt (encR AV.ctp R)) := by
  unfold BB
  rw [List.getElem?_append_right (by omega), Nat.add_sub_cancel_left]; rfl
theorem bb_set : (BB c1 c2 A b R).set (A.length + 2) (.dt (encR AV.ctp R')) = BB c1 c2 A b R' := by
  unfold BB
  rw [List.set_append_right _ _ (by omega), Nat.add_sub_cancel_left]; rfl
end
theorem valA_mem {f : List Str → AV} {R : Rul} (nd : (R.map (·.1)).Nodup) {q : K3 × List Str} (hq : q ∈ R) : valA (encR f R) (enK q.1) = some (f q.2) := by
  rw [valA_enc]
  cases e : R.find? fun p => decide (p.1 = q.1) with
  | none =>
    have z := List.find?_eq_none.mp e q hq
    simp at z
  | some p =>
    have z := List.find?_some e
    simp only [decide_eq_true_eq] at z
    have hp := List.mem_of_find?_eq_some e
    obtain ⟨i, hi, e1⟩ := List.getElem_of_mem hp
    obtain ⟨i2, hi2, e2⟩ := List.getElem_of_mem hq
    have hij : i = i2 := by
      refine (List.getElem_inj (xs := R.map (·.1)) (h₀ := by simpa using hi) (h₁ := by simpa using hi2) nd).mp ?_
      rw [List.getElem_map, List.getElem_map, e1, e2, z]
    subst hij
    rw [e1] at e2
    subst e2
    rfl
theorem keys_tup {R : Rul} : ((encR fR R).map (·.1)).map (fun k => AV.tup (k.map kyA)) = R.map fun q => AV.tup [.str q.1.1, .str q.1.2.1, .str q.1.2.2] := by
  unfold encR
  rw [List.map_map, List.map_map]
  rfl
end Mi


namespace K09
open PySem PySem.Spec PyProof.Rows L2 Mi
def top (i : Nat) : Stmt := PySem.Challenge.pw_redomarks_k09_book_atoms.main.body.getD i (.Pass ⟨0, 0, 0, 0⟩)
abbrev s_0 : Stmt := top 0
def d_0 : He.DefD := ⟨("_wall", none), "_wall", "_wall", defArgs s_0, defBody s_0, defScope s_0, [], []⟩
abbrev s_1 : Stmt := top 9
def d_1 : He.DefD := ⟨("is_name", none), "is_name", "is_name", defArgs s_1, defBody s_1, defScope s_1, [], []⟩
abbrev s_2 : Stmt := top 10
def d_2 : He.DefD := ⟨("are_distinct", none), "are_distinct", "are_distinct", defArgs s_2, defBody s_2, defScope s_2, [], []⟩
abbrev s_3 : Stmt := top 11
def d_3 : He.DefD := ⟨("are_names", none), "are_names", "are_names", defArgs s_3, defBody s_3, defScope s_3, [], []⟩
abbrev s_4 : Stmt := top 12
def d_4 : He.DefD := ⟨("split_source", none), "split_source", "split_source", defArgs s_4, defBody s_4, defScope s_4, [], []⟩
abbrev s_5 : Stmt := inClass (top 13) 0
def d_5 : He.DefD := ⟨("Engine", some "__init__"), "__init__", "Engine.__init__", defArgs s_5, defBody s_5, defScope s_5, [], []⟩
abbrev s_6 : Stmt := inClass (top 13) 1
def d_6 : He.DefD := ⟨("Engine", some "checked"), "checked", "Engine.checked", defArgs s_6, defBody s_6, defScope s_6, [], []⟩
abbrev s_7 : Stmt := inClass (top 13) 2
def d_7 : He.DefD := ⟨("Engine", some "__iter__"), "__iter__", "Engine.__iter__", defArgs s_7, defBody s_7, defScope s_7, [], []⟩
abbrev s_8 : Stmt := inClass (top 13) 3
def d_8 : He.DefD := ⟨("Engine", some "__getitem__"), "__getitem__", "Engine.__getitem__", defArgs s_8, defBody s_8, defScope s_8, [], []⟩
abbrev s_9 : Stmt := inClass (top 13) 4
def d_9 : He.DefD := ⟨("Engine", some "turn"), "turn", "Engine.turn", defArgs s_9, defBody s_9, defScope s_9, [], []⟩
abbrev s_10 : Stmt := inClass (top 13) 5
def d_10 : He.DefD := ⟨("Engine", some "in_time"), "in_time", "Engine.in_time", defArgs s_10, defBody s_10, defScope s_10, [], []⟩
abbrev s_11 : Stmt := inClass (top 13) 6
def d_11 : He.DefD := ⟨("Engine", some "late"), "late", "Engine.late", defArgs s_11, defBody s_11, defScope s_11, [], []⟩
abbrev s_12 : Stmt := inClass (top 13) 7
def d_12 : He.DefD := ⟨("Engine", some "all_sources"), "all_sources", "Engine.all_sources", defArgs s_12, defBody s_12, defScope s_12, [], []⟩
abbrev s_13 : Stmt := inClass (top 13) 8
def d_13 : He.DefD := ⟨("Engine", some "reordered"), "reordered", "Engine.reordered", defArgs s_13, defBody s_13, defScope s_13, [], []⟩
abbrev s_14 : Stmt := inClass (top 13) 9
def d_14 : He.DefD := ⟨("Engine", some "orders"), "orders", "Engine.orders", defArgs s_14, defBody s_14, defScope s_14, [], []⟩
abbrev s_15 : Stmt := inClass (top 17) 0
def d_15 : He.DefD := ⟨("Marks", some "__init__"), "__init__", "Marks.__init__", defArgs s_15, defBody s_15, defScope s_15, [], []⟩
abbrev s_16 : Stmt := inClass (top 17) 1
def d_16 : He.DefD := ⟨("Marks", some "__eq__"), "__eq__", "Marks.__eq__", defArgs s_16, defBody s_16, defScope s_16, [], []⟩
abbrev s_17 : Stmt := inClass (top 17) 2
def d_17 : He.DefD := ⟨("Marks", some "__len__"), "__len__", "Marks.__len__", defArgs s_17, defBody s_17, defScope s_17, [], []⟩
abbrev s_18 : Stmt := inClass (top 17) 3
def d_18 : He.DefD := ⟨("Marks", some "__iter__"), "__iter__", "Marks.__iter__", defArgs s_18, defBody s_18, defScope s_18, [], []⟩
abbrev s_19 : Stmt := inClass (top 17) 4
def d_19 : He.DefD := ⟨("Marks", some "__contains__"), "__contains__", "Marks.__contains__", defArgs s_19, defBody s_19, defScope s_19, [], []⟩
abbrev s_20 : Stmt := inClass (top 17) 5
def d_20 : He.DefD := ⟨("Marks", some "__or__"), "__or__", "Marks.__or__", defArgs s_20, defBody s_20, defScope s_20, [], []⟩
abbrev s_21 : Stmt := inClass (top 17) 6
def d_21 : He.DefD := ⟨("Marks", some "__and__"), "__and__", "Marks.__and__", defArgs s_21, defBody s_21, defScope s_21, [], []⟩
abbrev s_22 : Stmt := inClass (top 17) 7
def d_22 : He.DefD := ⟨("Marks", some "__sub__"), "__sub__", "Marks.__sub__", defArgs s_22, defBody s_22, defScope s_22, [], []⟩
abbrev s_23 : Stmt := inClass (top 17) 8
def d_23 : He.DefD := ⟨("Marks", some "__le__"), "__le__", "Marks.__le__", defArgs s_23, defBody s_23, defScope s_23, [], []⟩
abbrev s_24 : Stmt := inClass (top 17) 9
def d_24 : He.DefD := ⟨("Marks", some "__ior__"), "__ior__", "Marks.__ior__", defArgs s_24, defBody s_24, defScope s_24, [], []⟩
abbrev s_25 : Stmt := inClass (top 18) 0
def d_25 : He.DefD := ⟨("Book", some "__init__"), "__init__", "Book.__init__", defArgs s_25, defBody s_25, defScope s_25, [], []⟩
abbrev s_26 : Stmt := inClass (top 18) 1
def d_26 : He.DefD := ⟨("Book", some "__iter__"), "__iter__", "Book.__iter__", defArgs s_26, defBody s_26, defScope s_26, [], []⟩
abbrev s_27 : Stmt := inClass (top 18) 2
def d_27 : He.DefD := ⟨("Book", some "places"), "places", "Book.places", defArgs s_27, defBody s_27, defScope s_27, [], []⟩
abbrev s_28 : Stmt := inClass (top 18) 3
def d_28 : He.DefD := ⟨("Book", some "has_rule"), "has_rule", "Book.has_rule", defArgs s_28, defBody s_28, defScope s_28, [], []⟩
abbrev s_29 : Stmt := inClass (top 18) 4
def d_29 : He.DefD := ⟨("Book", some "__getitem__"), "__getitem__", "Book.__getitem__", defArgs s_29, defBody s_29, defScope s_29, [], []⟩
abbrev s_30 : Stmt := inClass (top 18) 5
def d_30 : He.DefD := ⟨("Book", some "__setitem__"), "__setitem__", "Book.__setitem__", defArgs s_30, defBody s_30, defScope s_30, [], []⟩
abbrev s_31 : Stmt := inClass (top 18) 6
def d_31 : He.DefD := ⟨("Book", some "is_way"), "is_way", "Book.is_way", defArgs s_31, defBody s_31, defScope s_31, [], []⟩
abbrev s_32 : Stmt := inClass (top 18) 7
def d_32 : He.DefD := ⟨("Book", some "enters"), "enters", "Book.enters", defArgs s_32, defBody s_32, defScope s_32, [], []⟩
abbrev s_33 : Stmt := inClass (top 18) 8
def d_33 : He.DefD := ⟨("Book", some "through"), "through", "Book.through", defArgs s_33, defBody s_33, defScope s_33, [], []⟩
abbrev s_34 : Stmt := inClass (top 18) 9
def d_34 : He.DefD := ⟨("Book", some "last_pass"), "last_pass", "Book.last_pass", defArgs s_34, defBody s_34, defScope s_34, [], []⟩
abbrev s_35 : Stmt := inClass (top 18) 10
def d_35 : He.DefD := ⟨("Book", some "atoms"), "atoms", "Book.atoms", defArgs s_35, defBody s_35, defScope s_35, [], []⟩
abbrev s_36 : Stmt := inClass (top 18) 11
def d_36 : He.DefD := ⟨("Book", some "copy"), "copy", "Book.copy", defArgs s_36, defBody s_36, defScope s_36, [], []⟩
abbrev s_37 : Stmt := inClass (top 18) 12
def d_37 : He.DefD := ⟨("Book", some "changed_copy"), "changed_copy", "Book.changed_copy", defArgs s_37, defBody s_37, defScope s_37, [], []⟩
abbrev s_38 : Stmt := inClass (top 18) 13
def d_38 : He.DefD := ⟨("Book", some "plus"), "plus", "Book.plus", defArgs s_38, defBody s_38, defScope s_38, [], []⟩
abbrev s_39 : Stmt := inClass (top 18) 14
def d_39 : He.DefD := ⟨("Book", some "minus"), "minus", "Book.minus", defArgs s_39, defBody s_39, defScope s_39, [], []⟩
abbrev s_40 : Stmt := inClass (top 18) 15
def d_40 : He.DefD := ⟨("Book", some "outline"), "outline", "Book.outline", defArgs s_40, defBody s_40, defScope s_40, [], []⟩
abbrev s_41 : Stmt := inClass (top 18) 16
def d_41 : He.DefD := ⟨("Book", some "__le__"), "__le__", "Book.__le__", defArgs s_41, defBody s_41, defScope s_41, [], []⟩
abbrev s_42 : Stmt := top 20
def d_42 : He.DefD := ⟨("_law_tape", none), "_law_tape", "_law_tape", defArgs s_42, defBody s_42, defScope s_42, [], []⟩
abbrev s_43 : Stmt := top 21
def d_43 : He.DefD := ⟨("_law_pick", none), "_law_pick", "_law_pick", defArgs s_43, defBody s_43, defScope s_43, [], []⟩
abbrev s_44 : Stmt := top 22
def d_44 : He.DefD := ⟨("_law_some", none), "_law_some", "_law_some", defArgs s_44, defBody s_44, defScope s_44, [], []⟩
abbrev s_45 : Stmt := top 23
def d_45 : He.DefD := ⟨("_law_kind_names", none), "_law_kind_names", "_law_kind_names", defArgs s_45, defBody s_45, defScope s_45, [], []⟩
abbrev s_46 : Stmt := top 24
def d_46 : He.DefD := ⟨("_law_one", none), "_law_one", "_law_one", defArgs s_46, defBody s_46, defScope s_46, [], []⟩
abbrev s_47 : Stmt := top 25
def d_47 : He.DefD := ⟨("_law_turn", none), "_law_turn", "_law_turn", defArgs s_47, defBody s_47, defScope s_47, [], []⟩
abbrev s_48 : Stmt := top 26
def d_48 : He.DefD := ⟨("_law_in_time", none), "_law_in_time", "_law_in_time", defArgs s_48, defBody s_48, defScope s_48, [], []⟩
abbrev s_49 : Stmt := top 27
def d_49 : He.DefD := ⟨("_law_sources", none), "_law_sources", "_law_sources", defArgs s_49, defBody s_49, defScope s_49, [], []⟩
abbrev s_50 : Stmt := top 28
def d_50 : He.DefD := ⟨("_law_engine", none), "_law_engine", "_law_engine", defArgs s_50, defBody s_50, defScope s_50, [], []⟩
abbrev s_51 : Stmt := top 29
def d_51 : He.DefD := ⟨("_law_mark_names", none), "_law_mark_names", "_law_mark_names", defArgs s_51, defBody s_51, defScope s_51, [], []⟩
abbrev s_52 : Stmt := top 30
def d_52 : He.DefD := ⟨("_law_reads", none), "_law_reads", "_law_reads", defArgs s_52, defBody s_52, defScope s_52, [], []⟩
abbrev s_53 : Stmt := top 31
def d_53 : He.DefD := ⟨("_law_made_engine", none), "_law_made_engine", "_law_made_engine", defArgs s_53, defBody s_53, defScope s_53, [], []⟩
abbrev s_54 : Stmt := top 32
def d_54 : He.DefD := ⟨("_law_made", none), "_law_made", "_law_made", defArgs s_54, defBody s_54, defScope s_54, [], []⟩
abbrev s_55 : Stmt := top 33
def d_55 : He.DefD := ⟨("_law_add", none), "_law_add", "_law_add", defArgs s_55, defBody s_55, defScope s_55, [], []⟩
abbrev s_56 : Stmt := top 34
def d_56 : He.DefD := ⟨("_law_ways", none), "_law_ways", "_law_ways", defArgs s_56, defBody s_56, defScope s_56, [], []⟩
abbrev s_57 : Stmt := top 35
def d_57 : He.DefD := ⟨("_law_natural_source", none), "_law_natural_source", "_law_natural_source", defArgs s_57, defBody s_57, defScope s_57, [], []⟩
abbrev s_58 : Stmt := top 36
def d_58 : He.DefD := ⟨("_law_natural", none), "_law_natural", "_law_natural", defArgs s_58, defBody s_58, defScope s_58, [], []⟩
abbrev s_59 : Stmt := top 37
def d_59 : He.DefD := ⟨("_law_places", none), "_law_places", "_law_places", defArgs s_59, defBody s_59, defScope s_59, [], []⟩
abbrev s_60 : Stmt := top 38
def d_60 : He.DefD := ⟨("_law_any_atom", none), "_law_any_atom", "_law_any_atom", defArgs s_60, defBody s_60, defScope s_60, [], []⟩
abbrev s_61 : Stmt := top 39
def d_61 : He.DefD := ⟨("_law_more", none), "_law_more", "_law_more", defArgs s_61, defBody s_61, defScope s_61, [], []⟩
abbrev s_62 : Stmt := top 40
def d_62 : He.DefD := ⟨("_law_fence", none), "_law_fence", "_law_fence", defArgs s_62, defBody s_62, defScope s_62, [], []⟩
abbrev s_63 : Stmt := top 41
def d_63 : He.DefD := ⟨("_law_atoms", none), "_law_atoms", "_law_atoms", defArgs s_63, defBody s_63, defScope s_63, [], []⟩
abbrev s_64 : Stmt := top 42
def d_64 : He.DefD := ⟨("law", none), "law", "law", defArgs s_64, defBody s_64, defScope s_64, [], []⟩
def isa_0 : List (Nat × Bool) := [(0, true), (1, false), (2, false)]
def isa_1 : List (Nat × Bool) := [(0, false), (1, true), (2, false)]
def isa_2 : List (Nat × Bool) := [(0, false), (1, false), (2, true)]
abbrev nm__wall : Nat := 0
abbrev nm_is_name : Nat := 1
abbrev nm_are_distinct : Nat := 2
abbrev nm_are_names : Nat := 3
abbrev nm_split_source : Nat := 4
abbrev nm_Engine___init__ : Nat := 5
abbrev nm_Engine_checked : Nat := 6
abbrev nm_Engine___iter__ : Nat := 7
abbrev nm_Engine___getitem__ : Nat := 8
abbrev nm_Engine_turn : Nat := 9
abbrev nm_Engine_in_time : Nat := 10
abbrev nm_Engine_late : Nat := 11
abbrev nm_Engine_all_sources : Nat := 12
abbrev nm_Engine_reordered : Nat := 13
abbrev nm_Engine_orders : Nat := 14
abbrev nm_Marks___init__ : Nat := 15
abbrev nm_Marks___eq__ : Nat := 16
abbrev nm_Marks___len__ : Nat := 17
abbrev nm_Marks___iter__ : Nat := 18
abbrev nm_Marks___contains__ : Nat := 19
abbrev nm_Marks___or__ : Nat := 20
abbrev nm_Marks___and__ : Nat := 21
abbrev nm_Marks___sub__ : Nat := 22
abbrev nm_Marks___le__ : Nat := 23
abbrev nm_Marks___ior__ : Nat := 24
abbrev nm_Book___init__ : Nat := 25
abbrev nm_Book___iter__ : Nat := 26
abbrev nm_Book_places : Nat := 27
abbrev nm_Book_has_rule : Nat := 28
abbrev nm_Book___getitem__ : Nat := 29
abbrev nm_Book___setitem__ : Nat := 30
abbrev nm_Book_is_way : Nat := 31
abbrev nm_Book_enters : Nat := 32
abbrev nm_Book_through : Nat := 33
abbrev nm_Book_last_pass : Nat := 34
abbrev nm_Book_atoms : Nat := 35
abbrev nm_Book_copy : Nat := 36
abbrev nm_Book_changed_copy : Nat := 37
abbrev nm_Book_plus : Nat := 38
abbrev nm_Book_minus : Nat := 39
abbrev nm_Book_outline : Nat := 40
abbrev nm_Book___le__ : Nat := 41
abbrev nm__law_tape : Nat := 42
abbrev nm__law_pick : Nat := 43
abbrev nm__law_some : Nat := 44
abbrev nm__law_kind_names : Nat := 45
abbrev nm__law_one : Nat := 46
abbrev nm__law_turn : Nat := 47
abbrev nm__law_in_time : Nat := 48
abbrev nm__law_sources : Nat := 49
abbrev nm__law_engine : Nat := 50
abbrev nm__law_mark_names : Nat := 51
abbrev nm__law_reads : Nat := 52
abbrev nm__law_made_engine : Nat := 53
abbrev nm__law_made : Nat := 54
abbrev nm__law_add : Nat := 55
abbrev nm__law_ways : Nat := 56
abbrev nm__law_natural_source : Nat := 57
abbrev nm__law_natural : Nat := 58
abbrev nm__law_places : Nat := 59
abbrev nm__law_any_atom : Nat := 60
abbrev nm__law_more : Nat := 61
abbrev nm__law_fence : Nat := 62
abbrev nm__law_atoms : Nat := 63
abbrev nm_law : Nat := 64
abbrev cl_Engine : Nat := 0
abbrev cl_Marks : Nat := 1
abbrev cl_Book : Nat := 2
def fn : List He.DefD := [d_0, d_1, d_2, d_3, d_4, d_5, d_6, d_7, d_8, d_9, d_10, d_11, d_12, d_13, d_14, d_15, d_16, d_17, d_18, d_19, d_20, d_21, d_22, d_23, d_24, d_25, d_26, d_27, d_28, d_29, d_30, d_31, d_32, d_33, d_34, d_35, d_36, d_37, d_38, d_39, d_40, d_41, d_42, d_43, d_44, d_45, d_46, d_47, d_48, d_49, d_50, d_51, d_52, d_53, d_54, d_55, d_56, d_57, d_58, d_59, d_60, d_61, d_62, d_63, d_64]
def cd_0 : ClsD := { name := "Engine", flds := ["attributes", "kinds", "passes", "table"], duns := [(.get, 8)], itf := some ("kinds", 7), meths := [("checked", 6)], init := some 5, isa := isa_0 }
def cd_1 : ClsD := { name := "Marks", flds := ["names"], duns := [(.eq, 16), (.len, 17), (.has, 19), (.or, 20), (.and, 21), (.sub, 22), (.le, 23), (.ior, 24)], itf := some ("names", 18), meths := [], init := some 15, isa := isa_1 }
def cd_2 : ClsD := { name := "Book", flds := ["engine", "marks", "reads", "rules"], duns := [(.get, 29), (.set, 30), (.le, 41)], itf := some ("marks", 26), meths := [("atoms", 35), ("enters", 32), ("has_rule", 28), ("is_way", 31), ("outline", 40), ("places", 27), ("through", 33)], init := some 25, isa := isa_2 }
def pd : PD := { fn := fn, frees := ["all", "any", "int", "isinstance", "iter", "len", "list", "min", "range", "sorted", "str", "tuple"], cds := [cd_0, cd_1, cd_2], cstrs := [("LETTERS", "abcdefghijklmnopqrstuvwxyz")], ctups := [("WORDS", ["style", "insert", "remove", "move"]), ("RELATIONS", ["own", "parent", "children", "before"]), ("EDIT_PLACES", ["own", "parent", "next", "up"]), ("CHANGE_PLACES", ["own", "parent", "next", "children"])] }
theorem hfn_0 : pd.fn[0]? = some d_0 := rfl
theorem hfn_1 : pd.fn[1]? = some d_1 := rfl
theorem hfn_2 : pd.fn[2]? = some d_2 := rfl
theorem hfn_3 : pd.fn[3]? = some d_3 := rfl
theorem hfn_4 : pd.fn[4]? = some d_4 := rfl
theorem hfn_5 : pd.fn[5]? = some d_5 := rfl
theorem hfn_6 : pd.fn[6]? = some d_6 := rfl
theorem hfn_7 : pd.fn[7]? = some d_7 := rfl
theorem hfn_8 : pd.fn[8]? = some d_8 := rfl
theorem hfn_9 : pd.fn[9]? = some d_9 := rfl
theorem hfn_10 : pd.fn[10]? = some d_10 := rfl
theorem hfn_11 : pd.fn[11]? = some d_11 := rfl
theorem hfn_12 : pd.fn[12]? = some d_12 := rfl
theorem hfn_13 : pd.fn[13]? = some d_13 := rfl
theorem hfn_14 : pd.fn[14]? = some d_14 := rfl
theorem hfn_15 : pd.fn[15]? = some d_15 := rfl
theorem hfn_16 : pd.fn[16]? = some d_16 := rfl
theorem hfn_17 : pd.fn[17]? = some d_17 := rfl
theorem hfn_18 : pd.fn[18]? = some d_18 := rfl
theorem hfn_19 : pd.fn[19]? = some d_19 := rfl
theorem hfn_20 : pd.fn[20]? = some d_20 := rfl
theorem hfn_21 : pd.fn[21]? = some d_21 := rfl
theorem hfn_22 : pd.fn[22]? = some d_22 := rfl
theorem hfn_23 : pd.fn[23]? = some d_23 := rfl
theorem hfn_24 : pd.fn[24]? = some d_24 := rfl
theorem hfn_25 : pd.fn[25]? = some d_25 := rfl
theorem hfn_26 : pd.fn[26]? = some d_26 := rfl
theorem hfn_27 : pd.fn[27]? = some d_27 := rfl
theorem hfn_28 : pd.fn[28]? = some d_28 := rfl
theorem hfn_29 : pd.fn[29]? = some d_29 := rfl
theorem hfn_30 : pd.fn[30]? = some d_30 := rfl
theorem hfn_31 : pd.fn[31]? = some d_31 := rfl
theorem hfn_32 : pd.fn[32]? = some d_32 := rfl
theorem hfn_33 : pd.fn[33]? = some d_33 := rfl
theorem hfn_34 : pd.fn[34]? = some d_34 := rfl
theorem hfn_35 : pd.fn[35]? = some d_35 := rfl
theorem hfn_36 : pd.fn[36]? = some d_36 := rfl
theorem hfn_37 : pd.fn[37]? = some d_37 := rfl
theorem hfn_38 : pd.fn[38]? = some d_38 := rfl
theorem hfn_39 : pd.fn[39]? = some d_39 := rfl
theorem hfn_40 : pd.fn[40]? = some d_40 := rfl
theorem hfn_41 : pd.fn[41]? = some d_41 := rfl
theorem hfn_42 : pd.fn[42]? = some d_42 := rfl
theorem hfn_43 : pd.fn[43]? = some d_43 := rfl
theorem hfn_44 : pd.fn[44]? = some d_44 := rfl
theorem hfn_45 : pd.fn[45]? = some d_45 := rfl
theorem hfn_46 : pd.fn[46]? = some d_46 := rfl
theorem hfn_47 : pd.fn[47]? = some d_47 := rfl
theorem hfn_48 : pd.fn[48]? = some d_48 := rfl
theorem hfn_49 : pd.fn[49]? = some d_49 := rfl
theorem hfn_50 : pd.fn[50]? = some d_50 := rfl
theorem hfn_51 : pd.fn[51]? = some d_51 := rfl
theorem hfn_52 : pd.fn[52]? = some d_52 := rfl
theorem hfn_53 : pd.fn[53]? = some d_53 := rfl
theorem hfn_54 : pd.fn[54]? = some d_54 := rfl
theorem hfn_55 : pd.fn[55]? = some d_55 := rfl
theorem hfn_56 : pd.fn[56]? = some d_56 := rfl
theorem hfn_57 : pd.fn[57]? = some d_57 := rfl
theorem hfn_58 : pd.fn[58]? = some d_58 := rfl
theorem hfn_59 : pd.fn[59]? = some d_59 := rfl
theorem hfn_60 : pd.fn[60]? = some d_60 := rfl
theorem hfn_61 : pd.fn[61]? = some d_61 := rfl
theorem hfn_62 : pd.fn[62]? = some d_62 := rfl
theorem hfn_63 : pd.fn[63]? = some d_63 := rfl
theorem hfn_64 : pd.fn[64]? = some d_64 := rfl
theorem hcd_0 : pd.cds[0]? = some cd_0 := rfl
theorem hcd_1 : pd.cds[1]? = some cd_1 := rfl
theorem hcd_2 : pd.cds[2]? = some cd_2 := rfl
theorem fr_all : ("all" : Str) ∈ pd.frees := by decide
theorem fr_any : ("any" : Str) ∈ pd.frees := by decide
theorem fr_int : ("int" : Str) ∈ pd.frees := by decide
theorem fr_isinstance : ("isinstance" : Str) ∈ pd.frees := by decide
theorem fr_iter : ("iter" : Str) ∈ pd.frees := by decide
theorem fr_len : ("len" : Str) ∈ pd.frees := by decide
theorem fr_list : ("list" : Str) ∈ pd.frees := by decide
theorem fr_min : ("min" : Str) ∈ pd.frees := by decide
theorem fr_range : ("range" : Str) ∈ pd.frees := by decide
theorem fr_sorted : ("sorted" : Str) ∈ pd.frees := by decide
theorem fr_str : ("str" : Str) ∈ pd.frees := by decide
theorem fr_tuple : ("tuple" : Str) ∈ pd.frees := by decide
abbrev N_0 : List Str := ["k"]
abbrev N_1 : List Str := ["word", "letter"]
theorem sc_1 : FnScope N_1 ["word"] (defScope s_1) := ⟨rfl, rfl, rfl, by decide +kernel, rfl, by decide +kernel, by decide +kernel⟩
theorem nd_1 : N_1.Nodup := sc_1.nd
abbrev N_2 : List Str := ["words", "word"]
theorem sc_2 : FnScope N_2 ["words"] (defScope s_2) := ⟨rfl, rfl, rfl, by decide +kernel, rfl, by decide +kernel, by decide +kernel⟩
theorem nd_2 : N_2.Nodup := sc_2.nd
abbrev N_3 : List Str := ["words", "most", "word"]
theorem sc_3 : FnScope N_3 ["words", "most"] (defScope s_3) := ⟨rfl, rfl, rfl, by decide +kernel, rfl, by decide +kernel, by decide +kernel⟩
theorem nd_3 : N_3.Nodup := sc_3.nd
abbrev N_4 : List Str := ["source", "parts"]
theorem sc_4 : FnScope N_4 ["source"] (defScope s_4) := ⟨rfl, rfl, rfl, by decide +kernel, rfl, by decide +kernel, by decide +kernel⟩
theorem nd_4 : N_4.Nodup := sc_4.nd
abbrev N_5 : List Str := ["self", "kinds", "passes", "sources", "direction", "names", "name", "word", "kind"]
theorem sc_5 : FnScope N_5 ["self", "kinds", "passes", "sources"] (defScope s_5) := ⟨rfl, rfl, rfl, by decide +kernel, rfl, by decide +kernel, by decide +kernel⟩
theorem nd_5 : N_5.Nodup := sc_5.nd
abbrev N_6 : List Str := ["self", "sources", "source", "relation", "name", "known"]
theorem sc_6 : FnScope N_6 ["self", "sources"] (defScope s_6) := ⟨rfl, rfl, rfl, by decide +kernel, rfl, by decide +kernel, by decide +kernel⟩
theorem nd_6 : N_6.Nodup := sc_6.nd
abbrev N_7 : List Str := ["self"]
theorem sc_7 : FnScope N_7 ["self"] (defScope s_7) := ⟨rfl, rfl, rfl, by decide +kernel, rfl, by decide +kernel, by decide +kernel⟩
theorem nd_7 : N_7.Nodup := sc_7.nd
abbrev N_8 : List Str := ["self", "at"]
theorem sc_8 : FnScope N_8 ["self", "at"] (defScope s_8) := ⟨rfl, rfl, rfl, by decide +kernel, rfl, by decide +kernel, by decide +kernel⟩
theorem nd_8 : N_8.Nodup := sc_8.nd
abbrev N_9 : List Str := ["self", "attribute"]
abbrev N_10 : List Str := ["self", "attribute", "source"]
abbrev N_11 : List Str := ["self"]
abbrev N_12 : List Str := ["self"]
abbrev N_13 : List Str := ["self", "order"]
abbrev N_14 : List Str := ["self"]
abbrev N_15 : List Str := ["self", "names", "kept", "name"]
theorem sc_15 : FnScope N_15 ["self", "names"] (defScope s_15) := ⟨rfl, rfl, rfl, by decide +kernel, rfl, by decide +kernel, by decide +kernel⟩
theorem nd_15 : N_15.Nodup := sc_15.nd
abbrev N_16 : List Str := ["self", "other"]
theorem sc_16 : FnScope N_16 ["self", "other"] (defScope s_16) := ⟨rfl, rfl, rfl, by decide +kernel, rfl, by decide +kernel, by decide +kernel⟩
theorem nd_16 : N_16.Nodup := sc_16.nd
abbrev N_17 : List Str := ["self"]
theorem sc_17 : FnScope N_17 ["self"] (defScope s_17) := ⟨rfl, rfl, rfl, by decide +kernel, rfl, by decide +kernel, by decide +kernel⟩
theorem nd_17 : N_17.Nodup := sc_17.nd
abbrev N_18 : List Str := ["self"]
theorem sc_18 : FnScope N_18 ["self"] (defScope s_18) := ⟨rfl, rfl, rfl, by decide +kernel, rfl, by decide +kernel, by decide +kernel⟩
theorem nd_18 : N_18.Nodup := sc_18.nd
abbrev N_19 : List Str := ["self", "name"]
theorem sc_19 : FnScope N_19 ["self", "name"] (defScope s_19) := ⟨rfl, rfl, rfl, by decide +kernel, rfl, by decide +kernel, by decide +kernel⟩
theorem nd_19 : N_19.Nodup := sc_19.nd
abbrev N_20 : List Str := ["self", "other", "names"]
theorem sc_20 : FnScope N_20 ["self", "other"] (defScope s_20) := ⟨rfl, rfl, rfl, by decide +kernel, rfl, by decide +kernel, by decide +kernel⟩
theorem nd_20 : N_20.Nodup := sc_20.nd
abbrev N_21 : List Str := ["self", "other", "names", "name"]
theorem sc_21 : FnScope N_21 ["self", "other"] (defScope s_21) := ⟨rfl, rfl, rfl, by decide +kernel, rfl, by decide +kernel, by decide +kernel⟩
theorem nd_21 : N_21.Nodup := sc_21.nd
abbrev N_22 : List Str := ["self", "other", "names", "name"]
theorem sc_22 : FnScope N_22 ["self", "other"] (defScope s_22) := ⟨rfl, rfl, rfl, by decide +kernel, rfl, by decide +kernel, by decide +kernel⟩
theorem nd_22 : N_22.Nodup := sc_22.nd
abbrev N_23 : List Str := ["self", "other", "name"]
theorem sc_23 : FnScope N_23 ["self", "other"] (defScope s_23) := ⟨rfl, rfl, rfl, by decide +kernel, rfl, by decide +kernel, by decide +kernel⟩
theorem nd_23 : N_23.Nodup := sc_23.nd
abbrev N_24 : List Str := ["self", "other", "more", "name"]
theorem sc_24 : FnScope N_24 ["self", "other"] (defScope s_24) := ⟨rfl, rfl, rfl, by decide +kernel, rfl, by decide +kernel, by decide +kernel⟩
theorem nd_24 : N_24.Nodup := sc_24.nd
abbrev N_25 : List Str := ["self", "engine", "marks", "reads", "enters", "through", "read", "pair", "names", "name", "mark"]
theorem sc_25 : FnScope N_25 ["self", "engine", "marks", "reads"] (defScope s_25) := ⟨rfl, rfl, rfl, by decide +kernel, rfl, by decide +kernel, by decide +kernel⟩
theorem nd_25 : N_25.Nodup := sc_25.nd
abbrev N_26 : List Str := ["self"]
theorem sc_26 : FnScope N_26 ["self"] (defScope s_26) := ⟨rfl, rfl, rfl, by decide +kernel, rfl, by decide +kernel, by decide +kernel⟩
theorem nd_26 : N_26.Nodup := sc_26.nd
abbrev N_27 : List Str := ["self", "event"]
theorem sc_27 : FnScope N_27 ["self", "event"] (defScope s_27) := ⟨rfl, rfl, rfl, by decide +kernel, rfl, by decide +kernel, by decide +kernel⟩
theorem nd_27 : N_27.Nodup := sc_27.nd
abbrev N_28 : List Str := ["self", "at", "kind", "event", "place"]
theorem sc_28 : FnScope N_28 ["self", "at"] (defScope s_28) := ⟨rfl, rfl, rfl, by decide +kernel, rfl, by decide +kernel, by decide +kernel⟩
theorem nd_28 : N_28.Nodup := sc_28.nd
abbrev N_29 : List Str := ["self", "at", "names"]
theorem sc_29 : FnScope N_29 ["self", "at"] (defScope s_29) := ⟨rfl, rfl, rfl, by decide +kernel, rfl, by decide +kernel, by decide +kernel⟩
theorem nd_29 : N_29.Nodup := sc_29.nd
abbrev N_30 : List Str := ["self", "at", "worth", "mark"]
theorem sc_30 : FnScope N_30 ["self", "at", "worth"] (defScope s_30) := ⟨rfl, rfl, rfl, by decide +kernel, rfl, by decide +kernel, by decide +kernel⟩
theorem nd_30 : N_30.Nodup := sc_30.nd
abbrev N_31 : List Str := ["self", "mark", "enters", "through"]
theorem sc_31 : FnScope N_31 ["self", "mark"] (defScope s_31) := ⟨rfl, rfl, rfl, by decide +kernel, rfl, by decide +kernel, by decide +kernel⟩
theorem nd_31 : N_31.Nodup := sc_31.nd
abbrev N_32 : List Str := ["self", "number", "names"]
theorem sc_32 : FnScope N_32 ["self", "number"] (defScope s_32) := ⟨rfl, rfl, rfl, by decide +kernel, rfl, by decide +kernel, by decide +kernel⟩
theorem nd_32 : N_32.Nodup := sc_32.nd
abbrev N_33 : List Str := ["self", "number", "names"]
theorem sc_33 : FnScope N_33 ["self", "number"] (defScope s_33) := ⟨rfl, rfl, rfl, by decide +kernel, rfl, by decide +kernel, by decide +kernel⟩
theorem nd_33 : N_33.Nodup := sc_33.nd
abbrev N_34 : List Str := ["self", "mark"]
abbrev N_35 : List Str := ["self", "found", "kind", "event", "place", "names", "mark"]
theorem sc_35 : FnScope N_35 ["self"] (defScope s_35) := ⟨rfl, rfl, rfl, by decide +kernel, rfl, by decide +kernel, by decide +kernel⟩
theorem nd_35 : N_35.Nodup := sc_35.nd
abbrev N_36 : List Str := ["self"]
abbrev N_37 : List Str := ["self", "atom", "keep"]
abbrev N_38 : List Str := ["self", "atom"]
abbrev N_39 : List Str := ["self", "atom"]
abbrev N_40 : List Str := ["self", "engine", "sources", "kind", "name", "reads", "number"]
theorem sc_40 : FnScope N_40 ["self"] (defScope s_40) := ⟨rfl, rfl, rfl, by decide +kernel, rfl, by decide +kernel, by decide +kernel⟩
theorem nd_40 : N_40.Nodup := sc_40.nd
abbrev N_41 : List Str := ["self", "other", "at", "names", "mark"]
theorem sc_41 : FnScope N_41 ["self", "other"] (defScope s_41) := ⟨rfl, rfl, rfl, by decide +kernel, rfl, by decide +kernel, by decide +kernel⟩
theorem nd_41 : N_41.Nodup := sc_41.nd
abbrev N_42 : List Str := ["_law_script"]
theorem sc_42 : FnScope N_42 ["_law_script"] (defScope s_42) := ⟨rfl, rfl, rfl, by decide +kernel, rfl, by decide +kernel, by decide +kernel⟩
theorem nd_42 : N_42.Nodup := sc_42.nd
abbrev N_43 : List Str := ["_law_tape_here", "_law_count", "_law_cell", "_law_mixed", "_law_digit"]
theorem sc_43 : FnScope N_43 ["_law_tape_here", "_law_count"] (defScope s_43) := ⟨rfl, rfl, rfl, by decide +kernel, rfl, by decide +kernel, by decide +kernel⟩
theorem nd_43 : N_43.Nodup := sc_43.nd
abbrev N_44 : List Str := ["_law_tape_here", "_law_menu", "_law_count", "_law_start", "_law_step", "_law_k"]
theorem sc_44 : FnScope N_44 ["_law_tape_here", "_law_menu", "_law_count"] (defScope s_44) := ⟨rfl, rfl, rfl, by decide +kernel, rfl, by decide +kernel, by decide +kernel⟩
theorem nd_44 : N_44.Nodup := sc_44.nd
abbrev N_45 : List Str := ["_law_tape_here", "_law_count", "_law_menu"]
theorem sc_45 : FnScope N_45 ["_law_tape_here", "_law_count"] (defScope s_45) := ⟨rfl, rfl, rfl, by decide +kernel, rfl, by decide +kernel, by decide +kernel⟩
theorem nd_45 : N_45.Nodup := sc_45.nd
abbrev N_46 : List Str := ["_law_tape_here", "_law_members"]
theorem sc_46 : FnScope N_46 ["_law_tape_here", "_law_members"] (defScope s_46) := ⟨rfl, rfl, rfl, by decide +kernel, rfl, by decide +kernel, by decide +kernel⟩
theorem nd_46 : N_46.Nodup := sc_46.nd
abbrev N_47 : List Str := ["_law_engine_here", "_law_name", "_law_k"]
theorem sc_47 : FnScope N_47 ["_law_engine_here", "_law_name"] (defScope s_47) := ⟨rfl, rfl, rfl, by decide +kernel, rfl, by decide +kernel, by decide +kernel⟩
theorem nd_47 : N_47.Nodup := sc_47.nd
abbrev N_48 : List Str := ["_law_engine_here", "_law_name", "_law_source", "_law_parts", "_law_first", "_law_second", "_law_names", "_law_due"]
theorem sc_48 : FnScope N_48 ["_law_engine_here", "_law_name", "_law_source"] (defScope s_48) := ⟨rfl, rfl, rfl, by decide +kernel, rfl, by decide +kernel, by decide +kernel⟩
theorem nd_48 : N_48.Nodup := sc_48.nd
abbrev N_49 : List Str := ["_law_tape_here", "_law_engine_here", "_law_name", "_law_late", "_law_every", "_law_relation", "_law_other", "_law_found", "_law_k", "_law_source"]
theorem sc_49 : FnScope N_49 ["_law_tape_here", "_law_engine_here", "_law_name", "_law_late"] (defScope s_49) := ⟨rfl, rfl, rfl, by decide +kernel, rfl, by decide +kernel, by decide +kernel⟩
theorem nd_49 : N_49.Nodup := sc_49.nd
abbrev N_50 : List Str := ["_law_tape_here", "_law_kind_most", "_law_name_most", "_law_late", "_law_kinds", "_law_menu", "_law_names", "_law_passes", "_law_name", "_law_engine_here", "_law_row", "_law_kind"]
theorem sc_50 : FnScope N_50 ["_law_tape_here", "_law_kind_most", "_law_name_most", "_law_late"] (defScope s_50) := ⟨rfl, rfl, rfl, by decide +kernel, rfl, by decide +kernel, by decide +kernel⟩
theorem nd_50 : N_50.Nodup := sc_50.nd
abbrev N_51 : List Str := ["_law_tape_here", "_law_count"]
theorem sc_51 : FnScope N_51 ["_law_tape_here", "_law_count"] (defScope s_51) := ⟨rfl, rfl, rfl, by decide +kernel, rfl, by decide +kernel, by decide +kernel⟩
theorem nd_51 : N_51.Nodup := sc_51.nd
abbrev N_52 : List Str := ["_law_tape_here", "_law_book", "_law_count", "_law_marks", "_law_choice", "_law_k"]
theorem sc_52 : FnScope N_52 ["_law_tape_here", "_law_book"] (defScope s_52) := ⟨rfl, rfl, rfl, by decide +kernel, rfl, by decide +kernel, by decide +kernel⟩
theorem nd_52 : N_52.Nodup := sc_52.nd
abbrev N_53 : List Str := ["_law_engine_here", "_law_row"]
theorem sc_53 : FnScope N_53 ["_law_engine_here"] (defScope s_53) := ⟨rfl, rfl, rfl, by decide +kernel, rfl, by decide +kernel, by decide +kernel⟩
theorem nd_53 : N_53.Nodup := sc_53.nd
abbrev N_54 : List Str := ["_law_book", "_law_pairs", "_law_k", "_law_made_here", "_law_at", "_law_mark"]
theorem sc_54 : FnScope N_54 ["_law_book"] (defScope s_54) := ⟨rfl, rfl, rfl, by decide +kernel, rfl, by decide +kernel, by decide +kernel⟩
theorem nd_54 : N_54.Nodup := sc_54.nd
abbrev N_55 : List Str := ["_law_book", "_law_kind", "_law_event", "_law_place", "_law_marks", "_law_old", "_law_mark"]
theorem sc_55 : FnScope N_55 ["_law_book", "_law_kind", "_law_event", "_law_place", "_law_marks"] (defScope s_55) := ⟨rfl, rfl, rfl, by decide +kernel, rfl, by decide +kernel, by decide +kernel⟩
theorem nd_55 : N_55.Nodup := sc_55.nd
abbrev N_56 : List Str := ["_law_book", "_law_mark", "_law_one_here"]
theorem sc_56 : FnScope N_56 ["_law_book"] (defScope s_56) := ⟨rfl, rfl, rfl, by decide +kernel, rfl, by decide +kernel, by decide +kernel⟩
theorem nd_56 : N_56.Nodup := sc_56.nd
abbrev N_57 : List Str := ["_law_book", "_law_kind", "_law_is_own", "_law_parts", "_law_enter", "_law_place", "_law_event", "_law_events"]
theorem sc_57 : FnScope N_57 ["_law_book", "_law_kind", "_law_is_own", "_law_parts", "_law_enter"] (defScope s_57) := ⟨rfl, rfl, rfl, by decide +kernel, rfl, by decide +kernel, by decide +kernel⟩
theorem nd_57 : N_57.Nodup := sc_57.nd
abbrev N_58 : List Str := ["_law_book", "_law_kind", "_law_word", "_law_other", "_law_reader", "_law_enter", "_law_source"]
theorem sc_58 : FnScope N_58 ["_law_book"] (defScope s_58) := ⟨rfl, rfl, rfl, by decide +kernel, rfl, by decide +kernel, by decide +kernel⟩
theorem nd_58 : N_58.Nodup := sc_58.nd
abbrev N_59 : List Str := ["_law_event", "_law_places_here"]
theorem sc_59 : FnScope N_59 ["_law_event"] (defScope s_59) := ⟨rfl, rfl, rfl, by decide +kernel, rfl, by decide +kernel, by decide +kernel⟩
theorem nd_59 : N_59.Nodup := sc_59.nd
abbrev N_60 : List Str := ["_law_tape_here", "_law_book", "_law_event", "_law_place"]
theorem sc_60 : FnScope N_60 ["_law_tape_here", "_law_book"] (defScope s_60) := ⟨rfl, rfl, rfl, by decide +kernel, rfl, by decide +kernel, by decide +kernel⟩
theorem nd_60 : N_60.Nodup := sc_60.nd
abbrev N_61 : List Str := ["_law_tape_here", "_law_book", "_law_more_here", "_law_k", "_law_atom"]
theorem sc_61 : FnScope N_61 ["_law_tape_here", "_law_book", "_law_more_here"] (defScope s_61) := ⟨rfl, rfl, rfl, by decide +kernel, rfl, by decide +kernel, by decide +kernel⟩
theorem nd_61 : N_61.Nodup := sc_61.nd
abbrev N_62 : List Str := ["_law_tape_here", "_law_book", "_law_ways_here", "_law_marks", "_law_mark"]
theorem sc_62 : FnScope N_62 ["_law_tape_here", "_law_book"] (defScope s_62) := ⟨rfl, rfl, rfl, by decide +kernel, rfl, by decide +kernel, by decide +kernel⟩
theorem nd_62 : N_62.Nodup := sc_62.nd
abbrev N_63 : List Str := ["_law_book", "_law_found", "_law_kind", "_law_event", "_law_place", "_law_names", "_law_mark"]
theorem sc_63 : FnScope N_63 ["_law_book"] (defScope s_63) := ⟨rfl, rfl, rfl, by decide +kernel, rfl, by decide +kernel, by decide +kernel⟩
theorem nd_63 : N_63.Nodup := sc_63.nd
abbrev N_64 : List Str := ["_law_script", "_law_tape_here", "_law_book", "_law_made_here", "_law_told"]
theorem sc_64 : FnScope N_64 ["_law_script"] (defScope s_64) := ⟨rfl, rfl, rfl, by decide +kernel, rfl, by decide +kernel, by decide +kernel⟩
theorem nd_64 : N_64.Nodup := sc_64.nd
/-- _wall -/
noncomputable def b__wall (C : CE) : SS :=
    ssBad
/-- a comprehension of is_name -/
noncomputable def c0_is_name (C : CE) : SE :=
    (sLcF (iSeq (sVar 0)) (gNm 1) tYes (op2 (oInA C) (sVar 1) (sK (.str "abcdefghijklmnopqrstuvwxyz"))) [1])
/-- is_name -/
noncomputable def b_is_name (C : CE) : SS :=
    (ssRet (sAnd (sChain oLeI oLeI (sK (.int 1)) (opN (arg1 (bLenA C)) (aCons (sVar 0) aNil)) (sK (.int 8))) (opN (arg1 bAll) (aCons (c0_is_name C) aNil))))
/-- a comprehension of are_distinct -/
noncomputable def c0_are_distinct (C : CE) : SE :=
    (sLcF (iSeq (sVar 0)) (gNm 1) tYes (op2 (oEq C) (sBm isLst mCount (sVar 0) (aCons (sVar 1) aNil)) (sK (.int 1))) [1])
/-- are_distinct -/
noncomputable def b_are_distinct (C : CE) : SS :=
    (ssRet (opN (arg1 bAll) (aCons (c0_are_distinct C) aNil)))
/-- a comprehension of are_names -/
noncomputable def c0_are_names (C : CE) : SE :=
    (sLcF (iSeq (sVar 0)) (gNm 2) tYes (sCall C nm_is_name (aCons (sVar 2) aNil)) [2])
/-- are_names -/
noncomputable def b_are_names (C : CE) : SS :=
    (ssRet (sAnd (sChain oLeI oLeI (sK (.int 1)) (opN (arg1 (bLenA C)) (aCons (sVar 0) aNil)) (sVar 1)) (sAnd (sCall C nm_are_distinct (aCons (sVar 0) aNil)) (opN (arg1 bAll) (aCons (c0_are_names C) aNil)))))
/-- split_source -/
noncomputable def b_split_source (C : CE) : SS :=
    (ssSeq (ssSet 1 (sBm isStr mPart (sVar 0) (aCons (sK (.str ".")) aNil)))
    (ssRet (sTup (aCons (op2 (oIxA C) (sVar 1) (sK (.int 0))) (aCons (op2 (oIxA C) (sVar 1) (sK (.int 2))) aNil)))))
/-- a comprehension of Engine.__init__ -/
noncomputable def c0_Engine___init__ (C : CE) : SE :=
    (sLcF (iSeq (sVar 2)) (gTp [4, 5]) tYes (sTup (aCons (sVar 4) (aCons (opN (arg1 bTuple) (aCons (sVar 5) aNil)) aNil))) [4, 5])
/-- a comprehension of Engine.__init__ -/
noncomputable def c1_Engine___init__ (C : CE) : SE :=
    (sLc2F (iSeq (sFld cl_Engine "passes" (sVar 0))) (gTp [4, 5]) tYes (iSeq (sVar 5)) (gNm 6) tYes (sVar 6) [4, 5, 6] [6])
/-- a loop of Engine.__init__ -/
noncomputable def l0_Engine___init__ (C : CE) : SS :=
    (ssIf (tOr (tBl (op2 (oNotInA C) (sVar 4) (sTup (aCons (sK (.str "down")) (aCons (sK (.str "up")) aNil))))) (tBl (op2 (oEq C) (opN (arg1 (bLenA C)) (aCons (sVar 5) aNil)) (sK (.int 0))))) ssBad ssNil)
/-- a loop of Engine.__init__ -/
noncomputable def l1_Engine___init__ (C : CE) : SS :=
    (ssIf (tBl (op2 (oInA C) (sVar 7) (sFld cl_Engine "attributes" (sVar 0)))) ssBad ssNil)
/-- a loop of Engine.__init__ -/
noncomputable def l3_Engine___init__ (C : CE) : SS :=
    (ssSeq (ssIf (tBl (op2 (oNotInA C) (sVar 6) (op2 (oIxA C) (sVar 3) (sVar 8)))) ssBad ssNil)
    (ssDPut (sFld cl_Engine "table" (sVar 0)) (sTup (aCons (sVar 8) (aCons (sVar 6) aNil))) (sMeth C cl_Engine "checked" nm_Engine_checked (sVar 0) (aCons (opN (arg1 (bList false C)) (aCons (op2 (oIxA C) (op2 (oIxA C) (sVar 3) (sVar 8)) (sVar 6)) aNil)) aNil))))
/-- a loop of Engine.__init__ -/
noncomputable def l2_Engine___init__ (C : CE) : SS :=
    (ssSeq (ssIf (tOr (tBl (op2 (oNotInA C) (sVar 8) (sVar 3))) (tBl (op2 (oNe C) (opN (arg1 (bLenA C)) (aCons (op2 (oIxA C) (sVar 3) (sVar 8)) aNil)) (opN (arg1 (bLenA C)) (aCons (sFld cl_Engine "attributes" (sVar 0)) aNil))))) ssBad ssNil)
    (sFor (iSeq (sFld cl_Engine "attributes" (sVar 0))) (gNm 6) (l3_Engine___init__ C)))
/-- Engine.__init__ -/
noncomputable def b_Engine___init__ (C : CE) : SS :=
    (ssSeq (ssFld cl_Engine "kinds" (sVar 0) (opN (arg1 (bList false C)) (aCons (sVar 1) aNil)))
    (ssSeq (ssFld cl_Engine "passes" (sVar 0) (c0_Engine___init__ C))
    (ssSeq (ssFld cl_Engine "attributes" (sVar 0) (c1_Engine___init__ C))
    (ssSeq (ssIf (tOr (tNot (tTru (sCall C nm_are_names (aCons (sFld cl_Engine "kinds" (sVar 0)) (aCons (sK (.int 3)) aNil))))) (tOr (tNot (tBl (sChain oLeI oLeI (sK (.int 1)) (opN (arg1 (bLenA C)) (aCons (sFld cl_Engine "passes" (sVar 0)) aNil)) (sK (.int 3))))) (tNot (tTru (sCall C nm_are_names (aCons (sFld cl_Engine "attributes" (sVar 0)) (aCons (sK (.int 4)) aNil))))))) ssBad ssNil)
    (ssSeq (sFor (iSeq (sFld cl_Engine "passes" (sVar 0))) (gTp [4, 5]) (l0_Engine___init__ C))
    (ssSeq (sFor (iSeq (op2 (oAdd false) (sK (.ctp ["style", "insert", "remove", "move"])) (sTup (aCons (sK (.str "fence")) aNil)))) (gNm 7) (l1_Engine___init__ C))
    (ssSeq (ssFld cl_Engine "table" (sVar 0) sDt)
    (ssSeq (ssIf (tBl (op2 (oNe C) (opN (arg1 (bLenA C)) (aCons (sVar 3) aNil)) (opN (arg1 (bLenA C)) (aCons (sFld cl_Engine "kinds" (sVar 0)) aNil)))) ssBad ssNil)
    (sFor (iSeq (sFld cl_Engine "kinds" (sVar 0))) (gNm 8) (l2_Engine___init__ C))))))))))
/-- a loop of Engine.checked -/
noncomputable def l0_Engine_checked (C : CE) : SS :=
    (ssSeq (ssUnp (gTp [3, 4]) (sCall C nm_split_source (aCons (sVar 2) aNil)))
    (ssSeq (ssSet 5 (sAnd (op2 (oInA C) (sVar 3) (sK (.ctp ["own", "parent", "children", "before"]))) (sAnd (op2 (oInA C) (sVar 4) (sFld cl_Engine "attributes" (sVar 0))) (op2 (oEq C) (sVar 2) (op2 (oAdd false) (op2 (oAdd false) (sVar 3) (sK (.str "."))) (sVar 4))))))
    (ssIf (tAnd (tBl (op2 (oNe C) (sVar 2) (sK (.str "style")))) (tNot (tTru (sVar 5)))) ssBad ssNil)))
/-- Engine.checked -/
noncomputable def b_Engine_checked (C : CE) : SS :=
    (ssSeq (ssIf (tOr (tNot (tBl (sChain oLeI oLeI (sK (.int 1)) (opN (arg1 (bLenA C)) (aCons (sVar 1) aNil)) (sK (.int 4))))) (tNot (tTru (sCall C nm_are_distinct (aCons (sVar 1) aNil))))) ssBad ssNil)
    (ssSeq (sFor (iSeq (sVar 1)) (gNm 2) (l0_Engine_checked C))
    (ssRet (opN (arg1 bTuple) (aCons (sVar 1) aNil)))))
/-- Engine.__getitem__ -/
noncomputable def b_Engine___getitem__ (C : CE) : SS :=
    (ssSeq (ssIf (tBl (op2 (oNotInA C) (sVar 1) (sFld cl_Engine "table" (sVar 0)))) ssBad ssNil)
    (ssRet (opN (arg1 (bList true C)) (aCons (op2 (oIxA C) (sFld cl_Engine "table" (sVar 0)) (sVar 1)) aNil))))
/-- Engine.turn -/
noncomputable def b_Engine_turn (C : CE) : SS :=
    ssBad
/-- Engine.in_time -/
noncomputable def b_Engine_in_time (C : CE) : SS :=
    ssBad
/-- Engine.late -/
noncomputable def b_Engine_late (C : CE) : SS :=
    ssBad
/-- Engine.all_sources -/
noncomputable def b_Engine_all_sources (C : CE) : SS :=
    ssBad
/-- Engine.reordered -/
noncomputable def b_Engine_reordered (C : CE) : SS :=
    ssBad
/-- Engine.orders -/
noncomputable def b_Engine_orders (C : CE) : SS :=
    ssBad
/-- a loop of Marks.__init__ -/
noncomputable def l0_Marks___init__ (C : CE) : SS :=
    (trimS [3] (ssIf (tBl (op2 (oNotInA C) (sVar 3) (sVar 2))) (ssExpr (sBm isLst mAppend (sVar 2) (aCons (sVar 3) aNil))) ssNil))
/-- a comprehension of Marks.__init__ -/
noncomputable def c0_Marks___init__ (C : CE) : SE :=
    (sLcF (iSeq (sVar 2)) (gNm 3) tYes (opN (arg1 bStr) (aCons (sVar 3) aNil)) [3])
/-- Marks.__init__ -/
noncomputable def b_Marks___init__ (C : CE) : SS :=
    (ssSeq (ssSet 2 (sLst true aNil))
    (ssSeq (sFor (iSeq (sVar 1)) (gNm 3) (l0_Marks___init__ C))
    (ssFld cl_Marks "names" (sVar 0) (opN (arg1 bSorted) (aCons (c0_Marks___init__ C) aNil)))))
/-- Marks.__eq__ -/
noncomputable def b_Marks___eq__ (C : CE) : SS :=
    (ssRet (sAnd (op1 (bIsA isa_1) (sVar 1)) (op2 (oEq C) (sFld cl_Marks "names" (sVar 0)) (sFld cl_Marks "names" (sVar 1)))))
/-- Marks.__len__ -/
noncomputable def b_Marks___len__ (C : CE) : SS :=
    (ssRet (opN (arg1 (bLenA C)) (aCons (sFld cl_Marks "names" (sVar 0)) aNil)))
/-- Marks.__contains__ -/
noncomputable def b_Marks___contains__ (C : CE) : SS :=
    (ssRet (op2 (oInA C) (sVar 1) (sFld cl_Marks "names" (sVar 0))))
/-- Marks.__or__ -/
noncomputable def b_Marks___or__ (C : CE) : SS :=
    (ssSeq (ssIf (tNot (tTru (op1 (bIsA isa_1) (sVar 1)))) ssBad ssNil)
    (ssSeq (ssSet 2 (op2 (oAdd false) (sFld cl_Marks "names" (sVar 0)) (sFld cl_Marks "names" (sVar 1))))
    (ssRet (sMk C cl_Marks nm_Marks___init__ (aStar (sVar 2) aNil)))))
/-- a comprehension of Marks.__and__ -/
noncomputable def c0_Marks___and__ (C : CE) : SE :=
    (sLcF (iSeq (sFld cl_Marks "names" (sVar 0))) (gNm 3) (tBl (op2 (oInA C) (sVar 3) (sFld cl_Marks "names" (sVar 1)))) (sVar 3) [3])
/-- Marks.__and__ -/
noncomputable def b_Marks___and__ (C : CE) : SS :=
    (ssSeq (ssIf (tNot (tTru (op1 (bIsA isa_1) (sVar 1)))) ssBad ssNil)
    (ssSeq (ssSet 2 (c0_Marks___and__ C))
    (ssRet (sMk C cl_Marks nm_Marks___init__ (aStar (sVar 2) aNil)))))
/-- a comprehension of Marks.__sub__ -/
noncomputable def c0_Marks___sub__ (C : CE) : SE :=
    (sLcF (iSeq (sFld cl_Marks "names" (sVar 0))) (gNm 3) (tBl (op2 (oNotInA C) (sVar 3) (sFld cl_Marks "names" (sVar 1)))) (sVar 3) [3])
/-- Marks.__sub__ -/
noncomputable def b_Marks___sub__ (C : CE) : SS :=
    (ssSeq (ssIf (tNot (tTru (op1 (bIsA isa_1) (sVar 1)))) ssBad ssNil)
    (ssSeq (ssSet 2 (c0_Marks___sub__ C))
    (ssRet (sMk C cl_Marks nm_Marks___init__ (aStar (sVar 2) aNil)))))
/-- a comprehension of Marks.__le__ -/
noncomputable def c0_Marks___le__ (C : CE) : SE :=
    (sLcF (iSeq (sFld cl_Marks "names" (sVar 0))) (gNm 2) tYes (op2 (oInA C) (sVar 2) (sFld cl_Marks "names" (sVar 1))) [2])
/-- Marks.__le__ -/
noncomputable def b_Marks___le__ (C : CE) : SS :=
    (ssSeq (ssIf (tNot (tTru (op1 (bIsA isa_1) (sVar 1)))) ssBad ssNil)
    (ssRet (opN (arg1 bAll) (aCons (c0_Marks___le__ C) aNil))))
/-- a comprehension of Marks.__ior__ -/
noncomputable def c0_Marks___ior__ (C : CE) : SE :=
    (sLcF (iSeq (sFld cl_Marks "names" (sVar 1))) (gNm 3) (tBl (op2 (oNotInA C) (sVar 3) (sFld cl_Marks "names" (sVar 0)))) (sVar 3) [3])
/-- a comprehension of Marks.__ior__ -/
noncomputable def c1_Marks___ior__ (C : CE) : SE :=
    (sLcF (iSeq (op2 (oAdd false) (sFld cl_Marks "names" (sVar 0)) (sVar 2))) (gNm 3) tYes (opN (arg1 bStr) (aCons (sVar 3) aNil)) [3])
/-- Marks.__ior__ -/
noncomputable def b_Marks___ior__ (C : CE) : SS :=
    (ssSeq (ssIf (tNot (tTru (op1 (bIsA isa_1) (sVar 1)))) ssBad ssNil)
    (ssSeq (ssSet 2 (c0_Marks___ior__ C))
    (ssSeq (ssFld cl_Marks "names" (sVar 0) (opN (arg1 bSorted) (aCons (c1_Marks___ior__ C) aNil)))
    (ssRet (sVar 0)))))
/-- a comprehension of Book.__init__ -/
noncomputable def c0_Book___init__ (C : CE) : SE :=
    (sLcF (iSeq (sVar 3)) (gTp [4, 5]) tYes (sTup (aCons (opN (arg1 bTuple) (aCons (sVar 4) aNil)) (aCons (opN (arg1 bTuple) (aCons (sVar 5) aNil)) aNil))) [4, 5])
/-- a loop of Book.__init__ -/
noncomputable def l2_Book___init__ (C : CE) : SS :=
    (trimS [9] (ssSeq (ssIf (tOr (tBl (op2 (oNotInA C) (sVar 9) (sFld cl_Book "marks" (sVar 0)))) (tBl (op2 oGt (sBm isCt mTCount (sVar 8) (aCons (sVar 9) aNil)) (sK (.int 1))))) ssBad ssNil)
    (ssExpr (sBm isLst mAppend (sVar 6) (aCons (sVar 9) aNil)))))
/-- a loop of Book.__init__ -/
noncomputable def l1_Book___init__ (C : CE) : SS :=
    (trimS [8, 9] (sFor (iSeq (sVar 8)) (gNm 9) (l2_Book___init__ C)))
/-- a loop of Book.__init__ -/
noncomputable def l0_Book___init__ (C : CE) : SS :=
    (trimS [7, 8, 9] (sFor (iSeq (sVar 7)) (gNm 8) (l1_Book___init__ C)))
/-- a loop of Book.__init__ -/
noncomputable def l3_Book___init__ (C : CE) : SS :=
    (trimS [10] (ssIf (tBl (op2 (oNotInA C) (sVar 10) (sVar 6))) ssBad ssNil))
/-- Book.__init__ -/
noncomputable def b_Book___init__ (C : CE) : SS :=
    (ssSeq (ssFld cl_Book "engine" (sVar 0) (sVar 1))
    (ssSeq (ssFld cl_Book "marks" (sVar 0) (opN (arg1 (bList false C)) (aCons (sVar 2) aNil)))
    (ssSeq (ssFld cl_Book "reads" (sVar 0) (c0_Book___init__ C))
    (ssSeq (ssFld cl_Book "rules" (sVar 0) sDt)
    (ssSeq (ssIf (trimT (tOr (tNot (tTru (sCall C nm_are_names (aCons (sFld cl_Book "marks" (sVar 0)) (aCons (sK (.int 4)) aNil))))) (tBl (op2 (oNe C) (opN (arg1 (bLenA C)) (aCons (sFld cl_Book "reads" (sVar 0)) aNil)) (opN (arg1 (bLenA C)) (aCons (sFld cl_Engine "passes" (sVar 1)) aNil)))))) ssBad ssNil)
    (ssSeq (ssSet 6 (sLst true aNil))
    (ssSeq (sFor (iSeq (sFld cl_Book "reads" (sVar 0))) (gNm 7) (l0_Book___init__ C))
    (sFor (iSeq (sFld cl_Book "marks" (sVar 0))) (gNm 10) (l3_Book___init__ C)))))))))
/-- Book.places -/
noncomputable def b_Book_places (C : CE) : SS :=
    (ssSeq (ssIf (tBl (op2 (oEq C) (sVar 1) (sK (.str "fence")))) (ssRet (sTup (aCons (sK (.str "up")) aNil))) ssNil)
    (ssSeq (ssIf (tBl (op2 (oEq C) (sVar 1) (sK (.str "remove")))) (ssRet (sCut false (sK (.ctp ["own", "parent", "next", "up"])) (oSome (sK (.int 1))) oNone)) ssNil)
    (ssSeq (ssIf (tBl (op2 (oInA C) (sVar 1) (sK (.ctp ["style", "insert", "remove", "move"])))) (ssRet (sK (.ctp ["own", "parent", "next", "up"]))) ssNil)
    (ssSeq (ssIf (tBl (op2 (oInA C) (sVar 1) (sFld cl_Engine "attributes" (sFld cl_Book "engine" (sVar 0))))) (ssRet (sK (.ctp ["own", "parent", "next", "children"]))) ssNil)
    (ssRet (sTup aNil))))))
/-- Book.has_rule -/
noncomputable def b_Book_has_rule (C : CE) : SS :=
    (ssSeq (ssUnp (gTp [2, 3, 4]) (sVar 1))
    (ssRet (sAnd (op2 (oInA C) (sVar 2) (sFld cl_Engine "kinds" (sFld cl_Book "engine" (sVar 0)))) (op2 (oInA C) (sVar 4) (sMeth C cl_Book "places" nm_Book_places (sVar 0) (aCons (sVar 3) aNil))))))
/-- Book.__getitem__ -/
noncomputable def b_Book___getitem__ (C : CE) : SS :=
    (ssSeq (ssIf (trimT (tNot (tTru (sMeth C cl_Book "has_rule" nm_Book_has_rule (sVar 0) (aCons (sVar 1) aNil))))) ssBad ssNil)
    (ssSeq (ssSet 2 (sGet2 (sFld cl_Book "rules" (sVar 0)) (sVar 1) (sTup aNil)))
    (ssRet (sMk C cl_Marks nm_Marks___init__ (aStar (sVar 2) aNil)))))
/-- a loop of Book.__setitem__ -/
noncomputable def l0_Book___setitem__ (C : CE) : SS :=
    (trimS [3] (ssIf (trimT (tOr (tBl (op2 (oNotInA C) (sVar 3) (sFld cl_Book "marks" (sVar 0)))) (tAnd (tBl (op2 (oEq C) (op2 (oIxA C) (sVar 1) (sK (.int 1))) (sK (.str "fence")))) (tTru (sMeth C cl_Book "is_way" nm_Book_is_way (sVar 0) (aCons (sVar 3) aNil)))))) ssBad ssNil))
/-- Book.__setitem__ -/
noncomputable def b_Book___setitem__ (C : CE) : SS :=
    (ssSeq (ssIf (trimT (tNot (tTru (sMeth C cl_Book "has_rule" nm_Book_has_rule (sVar 0) (aCons (sVar 1) aNil))))) ssBad ssNil)
    (ssSeq (sFor (iSeq (sFld cl_Marks "names" (sVar 2))) (gNm 3) (l0_Book___setitem__ C))
    (ssDPut (sFld cl_Book "rules" (sVar 0)) (sVar 1) (opN (arg1 bTuple) (aCons (sFld cl_Marks "names" (sVar 2)) aNil)))))
/-- a comprehension of Book.is_way -/
noncomputable def c0_Book_is_way (C : CE) : SE :=
    (sLcF (iSeq (sFld cl_Book "reads" (sVar 0))) (gTp [2, 3]) tYes (op2 (oInA C) (sVar 1) (sVar 3)) [2, 3])
/-- Book.is_way -/
noncomputable def b_Book_is_way (C : CE) : SS :=
    (ssRet (opN (arg1 bAny) (aCons (c0_Book_is_way C) aNil)))
/-- Book.enters -/
noncomputable def b_Book_enters (C : CE) : SS :=
    (ssSeq (ssSet 2 (op2 (oIxA C) (op2 (oIxA C) (sFld cl_Book "reads" (sVar 0)) (sVar 1)) (sK (.int 0))))
    (ssRet (sMk C cl_Marks nm_Marks___init__ (aStar (sVar 2) aNil))))
/-- Book.through -/
noncomputable def b_Book_through (C : CE) : SS :=
    (ssSeq (ssSet 2 (op2 (oIxA C) (op2 (oIxA C) (sFld cl_Book "reads" (sVar 0)) (sVar 1)) (sK (.int 1))))
    (ssRet (sMk C cl_Marks nm_Marks___init__ (aStar (sVar 2) aNil))))
/-- Book.last_pass -/
noncomputable def b_Book_last_pass (C : CE) : SS :=
    ssBad
/-- a comprehension of Book.atoms -/
noncomputable def c0_Book_atoms (C : CE) : SE :=
    (sLcF (iSeq (sFld cl_Book "marks" (sVar 0))) (gNm 6) (tBl (op2 (oInA C) (sVar 6) (sVar 5))) (sTup (aCons (sVar 2) (aCons (sVar 3) (aCons (sVar 4) (aCons (sVar 6) aNil))))) [6])
/-- a loop of Book.atoms -/
noncomputable def l2_Book_atoms (C : CE) : SS :=
    (trimS [4, 5] (ssSeq (ssSet 5 (sGet2 (sFld cl_Book "rules" (sVar 0)) (sTup (aCons (sVar 2) (aCons (sVar 3) (aCons (sVar 4) aNil)))) (sTup aNil)))
    (ssExpr (sBm isLst mExtend (sVar 1) (aCons (c0_Book_atoms C) aNil)))))
/-- a loop of Book.atoms -/
noncomputable def l1_Book_atoms (C : CE) : SS :=
    (trimS [3, 4, 5] (sFor (iSeq (sMeth C cl_Book "places" nm_Book_places (sVar 0) (aCons (sVar 3) aNil))) (gNm 4) (l2_Book_atoms C)))
/-- a loop of Book.atoms -/
noncomputable def l0_Book_atoms (C : CE) : SS :=
    (trimS [2, 3, 4, 5] (sFor (iSeq (op2 (oAdd false) (sK (.ctp ["style", "insert", "remove", "move"])) (opN (arg1 bTuple) (aCons (sFld cl_Engine "attributes" (sFld cl_Book "engine" (sVar 0))) aNil)))) (gNm 3) (l1_Book_atoms C)))
/-- Book.atoms -/
noncomputable def b_Book_atoms (C : CE) : SS :=
    (ssSeq (ssSet 1 (sLst true aNil))
    (ssSeq (sFor (iSeq (sFld cl_Engine "kinds" (sFld cl_Book "engine" (sVar 0)))) (gNm 2) (l0_Book_atoms C))
    (ssRet (sVar 1))))
/-- Book.copy -/
noncomputable def b_Book_copy (C : CE) : SS :=
    ssBad
/-- Book.changed_copy -/
noncomputable def b_Book_changed_copy (C : CE) : SS :=
    ssBad
/-- Book.plus -/
noncomputable def b_Book_plus (C : CE) : SS :=
    ssBad
/-- Book.minus -/
noncomputable def b_Book_minus (C : CE) : SS :=
    ssBad
/-- a comprehension of Book.outline -/
noncomputable def c0_Book_outline (C : CE) : SE :=
    (sLc2F (iSeq (sFld cl_Engine "kinds" (sVar 1))) (gNm 3) tYes (iSeq (sFld cl_Engine "attributes" (sVar 1))) (gNm 4) tYes (op2 (oIxA C) (sFld cl_Engine "table" (sVar 1)) (sTup (aCons (sVar 3) (aCons (sVar 4) aNil)))) [3, 4] [4])
/-- a comprehension of Book.outline -/
noncomputable def c1_Book_outline (C : CE) : SE :=
    (sLcF (iRng1 (opN (arg1 (bLenA C)) (aCons (sFld cl_Book "reads" (sVar 0)) aNil))) (gNm 6) tYes (sTup (aCons (sFld cl_Marks "names" (sMeth C cl_Book "enters" nm_Book_enters (sVar 0) (aCons (sVar 6) aNil))) (aCons (sFld cl_Marks "names" (sMeth C cl_Book "through" nm_Book_through (sVar 0) (aCons (sVar 6) aNil))) aNil))) [6])
/-- Book.outline -/
noncomputable def b_Book_outline (C : CE) : SS :=
    (ssSeq (ssSet 1 (sFld cl_Book "engine" (sVar 0)))
    (ssSeq (ssSet 2 (c0_Book_outline C))
    (ssSeq (ssSet 5 (c1_Book_outline C))
    (ssRet (sLst false (aCons (sFld cl_Engine "kinds" (sVar 1)) (aCons (sFld cl_Engine "passes" (sVar 1)) (aCons (sVar 2) (aCons (sFld cl_Book "marks" (sVar 0)) (aCons (sVar 5) aNil))))))))))
/-- a comprehension of Book.__le__ -/
noncomputable def c0_Book___le__ (C : CE) : SE :=
    (sLcF (iSeq (op2 (oIxA C) (sFld cl_Book "rules" (sVar 0)) (sVar 2))) (gNm 4) tYes (op2 (oInA C) (sVar 4) (sVar 3)) [4])
/-- a loop of Book.__le__ -/
noncomputable def l0_Book___le__ (C : CE) : SS :=
    (trimS [] (ssSeq (ssSet 3 (sGet2 (sFld cl_Book "rules" (sVar 1)) (sVar 2) (sTup aNil)))
    (ssIf (tAnd (tBl (op2 (oNe C) (op2 (oIxA C) (sVar 2) (sK (.int 1))) (sK (.str "fence")))) (tNot (tTru (opN (arg1 bAll) (aCons (c0_Book___le__ C) aNil))))) (ssRet (sK (.bl false))) ssNil)))
/-- a comprehension of Book.__le__ -/
noncomputable def c1_Book___le__ (C : CE) : SE :=
    (sLcF (iSeq (op2 (oIxA C) (sFld cl_Book "rules" (sVar 1)) (sVar 2))) (gNm 4) tYes (op2 (oInA C) (sVar 4) (sVar 3)) [4])
/-- a loop of Book.__le__ -/
noncomputable def l1_Book___le__ (C : CE) : SS :=
    (trimS [] (ssSeq (ssSet 3 (sGet2 (sFld cl_Book "rules" (sVar 0)) (sVar 2) (sTup aNil)))
    (ssIf (tAnd (tBl (op2 (oEq C) (op2 (oIxA C) (sVar 2) (sK (.int 1))) (sK (.str "fence")))) (tNot (tTru (opN (arg1 bAll) (aCons (c1_Book___le__ C) aNil))))) (ssRet (sK (.bl false))) ssNil)))
/-- Book.__le__ -/
noncomputable def b_Book___le__ (C : CE) : SS :=
    (ssSeq (ssIf (tNot (tTru (op1 (bIsA isa_2) (sVar 1)))) ssBad ssNil)
    (ssSeq (ssIf (trimT (tBl (op2 (oNe C) (sMeth C cl_Book "outline" nm_Book_outline (sVar 0) aNil) (sMeth C cl_Book "outline" nm_Book_outline (sVar 1) aNil)))) (ssRet (sK (.bl false))) ssNil)
    (ssSeq (sFor (iSeq (sFld cl_Book "rules" (sVar 0))) (gNm 2) (l0_Book___le__ C))
    (ssSeq (sFor (iSeq (sFld cl_Book "rules" (sVar 1))) (gNm 2) (l1_Book___le__ C))
    (ssRet (sK (.bl true)))))))
/-- _law_tape -/
noncomputable def b__law_tape (C : CE) : SS :=
    (ssRet (sLst true (aCons (sK (.int 0)) (aCons (sK (.int 0)) (aCons (sK (.int 7)) (aCons (opN (arg1 (bList false C)) (aCons (sVar 0) aNil)) aNil))))))
/-- _law_pick -/
noncomputable def b__law_pick (C : CE) : SS :=
    (ssSeq (ssIf (tAnd (tBl (op2 oLt (op2 (oIxA C) (sVar 0) (sK (.int 0))) (sVar 1))) (tBl (op2 oLt (op2 (oIxA C) (sVar 0) (sK (.int 1))) (opN (arg1 (bLenA C)) (aCons (op2 (oIxA C) (sVar 0) (sK (.int 3))) aNil))))) (ssSeq (ssSet 2 (op2 (oIxA C) (op2 (oIxA C) (sVar 0) (sK (.int 3))) (op2 (oIxA C) (sVar 0) (sK (.int 1)))))
    (ssSeq (ssIx (sVar 0) (sK (.int 1)) (op2 (oAdd false) (op2 (oIxA C) (sVar 0) (sK (.int 1))) (sK (.int 1))))
    (ssSeq (ssIx (sVar 0) (sK (.int 0)) (sIfE (tBl (op2 oGe (sVar 2) (op2 oPow (sK (.int 10)) (sK (.int 18))))) (sVar 2) (sK (.int 0))))
    (ssSeq (ssSet 3 (op2 (oAdd false) (op2 oMul (op2 (oIxA C) (sVar 0) (sK (.int 2))) (sK (.int 69621))) (op2 oMul (op2 (oIxA C) (sVar 0) (sK (.int 1))) (sK (.int 7919)))))
    (ssIx (sVar 0) (sK (.int 2)) (op2 oMod (opN (arg1 bInt) (aCons (op2 (oAdd false) (sVar 3) (op2 oMul (op2 oMod (opN (arg1 bInt) (aCons (sVar 2) aNil)) (sK (.int 1000003))) (sK (.int 48271)))) aNil)) (sK (.int 2147483647)))))))) ssNil)
    (ssSeq (ssIf (tBl (op2 oGe (op2 (oIxA C) (sVar 0) (sK (.int 0))) (sVar 1))) (ssSeq (ssSet 4 (op2 oMod (opN (arg1 bInt) (aCons (op2 (oIxA C) (sVar 0) (sK (.int 0))) aNil)) (sVar 1)))
    (ssSeq (ssIx (sVar 0) (sK (.int 0)) (op2 oDiv (op2 (oIxA C) (sVar 0) (sK (.int 0))) (sVar 1)))
    (ssRet (sVar 4)))) ssNil)
    (ssSeq (ssIx (sVar 0) (sK (.int 2)) (op2 oMod (opN (arg1 bInt) (aCons (op2 (oAdd false) (op2 oMul (op2 (oIxA C) (sVar 0) (sK (.int 2))) (sK (.int 48271))) (sK (.int 12345))) aNil)) (sK (.int 2147483647))))
    (ssRet (op2 oMod (opN (arg1 bInt) (aCons (op2 oDiv (op2 (oIxA C) (sVar 0) (sK (.int 2))) (sK (.int 64))) aNil)) (sVar 1))))))
/-- a comprehension of _law_some -/
noncomputable def c0__law_some (C : CE) : SE :=
    (sLcF (iRng1 (sVar 2)) (gNm 5) tYes (op2 (oIxA C) (sVar 1) (op2 oMod (opN (arg1 bInt) (aCons (op2 (oAdd false) (sVar 3) (op2 oMul (sVar 4) (sVar 5))) aNil)) (opN (arg1 (bLenA C)) (aCons (sVar 1) aNil)))) [5])
/-- _law_some -/
noncomputable def b__law_some (C : CE) : SS :=
    (ssSeq (ssSet 3 (sCall C nm__law_pick (aCons (sVar 0) (aCons (opN (arg1 (bLenA C)) (aCons (sVar 1) aNil)) aNil))))
    (ssSeq (ssSet 4 (op2 (oAdd false) (sK (.int 1)) (sCall C nm__law_pick (aCons (sVar 0) (aCons (op2 (oSub C) (opN (arg1 (bLenA C)) (aCons (sVar 1) aNil)) (sK (.int 1))) aNil)))))
    (ssRet (c0__law_some C))))
/-- _law_kind_names -/
noncomputable def b__law_kind_names (C : CE) : SS :=
    (ssSeq (ssSet 2 (sLst false (aCons (sK (.str "page")) (aCons (sK (.str "line")) (aCons (sK (.str "a")) (aCons (sK (.str "word")) (aCons (sK (.str "gridcell")) (aCons (sK (.str "z")) (aCons (sK (.str "textbox")) (aCons (sK (.str "b")) (aCons (sK (.str "row")) (aCons (sK (.str "frame")) (aCons (sK (.str "aa")) aNil)))))))))))))
    (ssRet (sCall C nm__law_some (aCons (sVar 0) (aCons (sVar 2) (aCons (sVar 1) aNil))))))
/-- _law_one -/
noncomputable def b__law_one (C : CE) : SS :=
    (ssRet (op2 (oIxA C) (sVar 1) (sCall C nm__law_pick (aCons (sVar 0) (aCons (opN (arg1 (bLenA C)) (aCons (sVar 1) aNil)) aNil)))))
/-- a comprehension of _law_turn -/
noncomputable def c0__law_turn (C : CE) : SE :=
    (sLcF (iRng1 (opN (arg1 (bLenA C)) (aCons (op2 (oIxA C) (sVar 0) (sK (.str "passes"))) aNil))) (gNm 2) (tBl (op2 (oInA C) (sVar 1) (op2 (oIxA C) (op2 (oIxA C) (op2 (oIxA C) (sVar 0) (sK (.str "passes"))) (sVar 2)) (sK (.int 1))))) (sVar 2) [2])
/-- _law_turn -/
noncomputable def b__law_turn (C : CE) : SS :=
    (ssRet (op2 (oIxA C) (c0__law_turn C) (sK (.int 0))))
/-- _law_in_time -/
noncomputable def b__law_in_time (C : CE) : SS :=
    (ssSeq (ssSet 3 (sBm isStr mSplit (sVar 2) (aCons (sK (.str ".")) aNil)))
    (ssSeq (ssIf (tBl (op2 (oEq C) (op2 (oIxA C) (sVar 3) (sK (.int 0))) (sK (.str "style")))) (ssRet (sK (.bl true))) ssNil)
    (ssSeq (ssSet 4 (sCall C nm__law_turn (aCons (sVar 0) (aCons (op2 (oIxA C) (sVar 3) (sK (.int 1))) aNil))))
    (ssSeq (ssSet 5 (sCall C nm__law_turn (aCons (sVar 0) (aCons (sVar 1) aNil))))
    (ssSeq (ssIf (tBl (op2 (oNe C) (sVar 4) (sVar 5))) (ssRet (op2 oLt (sVar 4) (sVar 5))) ssNil)
    (ssSeq (ssIf (tBl (op2 (oEq C) (op2 (oIxA C) (sVar 3) (sK (.int 0))) (sK (.str "own")))) (ssSeq (ssSet 6 (op2 (oIxA C) (op2 (oIxA C) (op2 (oIxA C) (sVar 0) (sK (.str "passes"))) (sVar 5)) (sK (.int 1))))
    (ssRet (op2 oLt (sBm isLst mIndex (sVar 6) (aCons (op2 (oIxA C) (sVar 3) (sK (.int 1))) aNil)) (sBm isLst mIndex (sVar 6) (aCons (sVar 1) aNil))))) ssNil)
    (ssSeq (ssSet 7 (sDisp false (dpCons (sK (.str "parent")) (sLst false (aCons (sK (.str "down")) aNil)) (dpCons (sK (.str "children")) (sLst false (aCons (sK (.str "up")) aNil)) (dpCons (sK (.str "before")) (sLst false (aCons (sK (.str "down")) (aCons (sK (.str "up")) aNil))) dpNil)))))
    (ssRet (op2 (oInA C) (op2 (oIxA C) (op2 (oIxA C) (op2 (oIxA C) (sVar 0) (sK (.str "passes"))) (sVar 5)) (sK (.int 0))) (op2 (oIxA C) (sVar 7) (op2 (oIxA C) (sVar 3) (sK (.int 0)))))))))))))
/-- a loop of _law_sources -/
noncomputable def l1__law_sources (C : CE) : SS :=
    (ssIf (tOr (tTru (sVar 3)) (tTru (sCall C nm__law_in_time (aCons (sVar 1) (aCons (sVar 2) (aCons (op2 (oAdd false) (op2 (oAdd false) (sVar 5) (sK (.str "."))) (sVar 6)) aNil)))))) (ssExpr (sBm isLst mAppend (sVar 4) (aCons (op2 (oAdd false) (op2 (oAdd false) (sVar 5) (sK (.str "."))) (sVar 6)) aNil))) ssNil)
/-- a loop of _law_sources -/
noncomputable def l0__law_sources (C : CE) : SS :=
    (sFor (iSeq (op2 (oIxA C) (sVar 1) (sK (.str "names")))) (gNm 6) (l1__law_sources C))
/-- a loop of _law_sources -/
noncomputable def l2__law_sources (C : CE) : SS :=
    (ssSeq (ssSet 9 (sCall C nm__law_one (aCons (sVar 0) (aCons (sVar 4) aNil))))
    (ssIf (tBl (op2 (oNotInA C) (sVar 9) (sVar 7))) (ssExpr (sBm isLst mAppend (sVar 7) (aCons (sVar 9) aNil))) ssNil))
/-- _law_sources -/
noncomputable def b__law_sources (C : CE) : SS :=
    (ssSeq (ssSet 4 (sLst true (aCons (sK (.str "style")) aNil)))
    (ssSeq (sFor (iSeq (sLst false (aCons (sK (.str "own")) (aCons (sK (.str "parent")) (aCons (sK (.str "children")) (aCons (sK (.str "before")) aNil)))))) (gNm 5) (l0__law_sources C))
    (ssSeq (ssSet 7 (sLst true aNil))
    (ssSeq (sFor (iRng1 (op2 (oAdd false) (sK (.int 1)) (sCall C nm__law_pick (aCons (sVar 0) (aCons (sK (.int 3)) aNil))))) (gNm 8) (l2__law_sources C))
    (ssRet (deepE 1 (sVar 7)))))))
/-- a comprehension of _law_engine -/
noncomputable def c0__law_engine (C : CE) : SE :=
    (sLcF (iSeq (sCut false (sVar 6) oNone (oSome (op2 (oAdd false) (sK (.int 1)) (sCall C nm__law_pick (aCons (sVar 0) (aCons (opN bMin (aCons (sK (.int 3)) (aCons (opN (arg1 (bLenA C)) (aCons (sVar 6) aNil)) aNil))) aNil))))))) (gNm 8) tYes (sLst false (aCons (sCall C nm__law_one (aCons (sVar 0) (aCons (sLst false (aCons (sK (.str "down")) (aCons (sK (.str "up")) aNil))) aNil))) (aCons (sLst true (aCons (sVar 8) aNil)) aNil))) [8])
/-- a loop of _law_engine -/
noncomputable def l0__law_engine (C : CE) : SS :=
    (ssExpr (sBm isLst mAppend (op2 (oIxA C) (op2 (oIxA C) (sVar 7) (sCall C nm__law_pick (aCons (sVar 0) (aCons (opN (arg1 (bLenA C)) (aCons (sVar 7) aNil)) aNil)))) (sK (.int 1))) (aCons (sVar 8) aNil)))
/-- a loop of _law_engine -/
noncomputable def l1__law_engine (C : CE) : SS :=
    (ssDPut (sVar 9) (sK (.str "names")) (op2 (oAdd false) (op2 (oIxA C) (sVar 9) (sK (.str "names"))) (op2 (oIxA C) (sVar 10) (sK (.int 1)))))
/-- a loop of _law_engine -/
noncomputable def l3__law_engine (C : CE) : SS :=
    (ssDPut (op2 (oIxA C) (op2 (oIxA C) (sVar 9) (sK (.str "sources"))) (sVar 11)) (sVar 8) (sCall C nm__law_sources (aCons (sVar 0) (aCons (sVar 9) (aCons (sVar 8) (aCons (sVar 3) aNil))))))
/-- a loop of _law_engine -/
noncomputable def l2__law_engine (C : CE) : SS :=
    (ssSeq (ssDPut (op2 (oIxA C) (sVar 9) (sK (.str "sources"))) (sVar 11) sDk)
    (sFor (iSeq (op2 (oIxA C) (sVar 9) (sK (.str "names")))) (gNm 8) (l3__law_engine C)))
/-- _law_engine -/
noncomputable def b__law_engine (C : CE) : SS :=
    (ssSeq (ssSet 4 (sCall C nm__law_kind_names (aCons (sVar 0) (aCons (op2 (oAdd false) (sK (.int 1)) (sCall C nm__law_pick (aCons (sVar 0) (aCons (sVar 1) aNil)))) aNil))))
    (ssSeq (ssSet 5 (sLst false (aCons (sK (.str "width")) (aCons (sK (.str "x")) (aCons (sK (.str "height")) (aCons (sK (.str "place")) (aCons (sK (.str "baseline")) (aCons (sK (.str "y")) (aCons (sK (.str "parent")) (aCons (sK (.str "w")) (aCons (sK (.str "depth")) (aCons (sK (.str "ab")) (aCons (sK (.str "own")) aNil)))))))))))))
    (ssSeq (ssSet 6 (sCall C nm__law_some (aCons (sVar 0) (aCons (sVar 5) (aCons (op2 (oAdd false) (sK (.int 1)) (sCall C nm__law_pick (aCons (sVar 0) (aCons (sVar 2) aNil)))) aNil)))))
    (ssSeq (ssSet 7 (c0__law_engine C))
    (ssSeq (sFor (iSeq (sCut false (sVar 6) (oSome (opN (arg1 (bLenA C)) (aCons (sVar 7) aNil))) oNone)) (gNm 8) (l0__law_engine C))
    (ssDeep 40 7 (ssSeq (ssSet 9 (sDisp true (dpCons (sK (.str "kinds")) (sVar 4) (dpCons (sK (.str "passes")) (sVar 7) (dpCons (sK (.str "sources")) sDk (dpCons (sK (.str "names")) (sLst false aNil) dpNil))))))
    (ssSeq (sFor (iSeq (sVar 7)) (gNm 10) (l1__law_engine C))
    (ssSeq (sFor (iSeq (sVar 4)) (gNm 11) (l2__law_engine C))
    (ssRet (deepOE 40 (sVar 9))))))))))))
/-- _law_mark_names -/
noncomputable def b__law_mark_names (C : CE) : SS :=
    (ssRet (sCall C nm__law_some (aCons (sVar 0) (aCons (sLst false (aCons (sK (.str "dirty")) (aCons (sK (.str "way")) (aCons (sK (.str "m")) (aCons (sK (.str "layout")) (aCons (sK (.str "childish")) (aCons (sK (.str "q")) (aCons (sK (.str "red")) aNil)))))))) (aCons (sVar 1) aNil)))))
/-- a comprehension of _law_reads -/
noncomputable def c0__law_reads (C : CE) : SE :=
    (sLcF (iRng1 (sVar 2)) (gNm 5) tYes (sLst false (aCons (op2 (oIxA C) (sVar 3) (sIfE (tBl (op2 (oEq C) (sVar 4) (sK (.int 2)))) (opN bMin (aCons (sVar 5) (aCons (sK (.int 1)) aNil))) (sK (.int 0)))) aNil)) [5])
/-- a comprehension of _law_reads -/
noncomputable def c1__law_reads (C : CE) : SE :=
    (sLcF (iRng1 (sVar 2)) (gNm 5) tYes (op2 (oIxA C) (sLst false (aCons (sLst false (aCons (op2 (oIxA C) (sVar 3) (sK (.int 1))) aNil)) (aCons (sLst false (aCons (op2 (oIxA C) (sVar 3) (sK (.int 0))) aNil)) (aCons (sLst false (aCons (op2 (oIxA C) (sVar 3) (sK (.int 2))) aNil)) (aCons (sLst false (aCons (op2 (oIxA C) (sVar 3) (opN bMin (aCons (op2 (oAdd false) (sVar 5) (sK (.int 1))) (aCons (sK (.int 2)) aNil)))) aNil)) aNil))))) (sVar 4)) [5])
/-- _law_reads -/
noncomputable def b__law_reads (C : CE) : SS :=
    (ssSeq (ssSet 2 (opN (arg1 (bLenA C)) (aCons (op2 (oIxA C) (sVar 1) (sK (.str "passes"))) aNil)))
    (ssSeq (ssSet 3 (sCall C nm__law_mark_names (aCons (sVar 0) (aCons (sK (.int 3)) aNil))))
    (ssSeq (ssSet 4 (sCall C nm__law_pick (aCons (sVar 0) (aCons (sK (.int 4)) aNil))))
    (ssSeq (ssDPut (sVar 1) (sK (.str "rules")) sDt)
    (ssSeq (ssDPut (sVar 1) (sK (.str "marks")) (op2 (oIxA C) (sLst false (aCons (sLst false (aCons (op2 (oIxA C) (sVar 3) (sK (.int 1))) (aCons (op2 (oIxA C) (sVar 3) (sK (.int 0))) aNil))) (aCons (sLst false (aCons (op2 (oIxA C) (sVar 3) (sK (.int 0))) aNil)) (aCons (sVar 3) (aCons (sVar 3) aNil))))) (sVar 4)))
    (ssSeq (ssDPut (sVar 1) (sK (.str "enters")) (c0__law_reads C))
    (ssSeq (ssDPut (sVar 1) (sK (.str "through")) (c1__law_reads C))
    (ssSeq (ssIf (tAnd (tBl (op2 (oEq C) (sVar 2) (sK (.int 1)))) (tBl (op2 (oEq C) (sVar 4) (sK (.int 2))))) (ssDPut (sVar 1) (sK (.str "enters")) (sLst false (aCons (sLst false (aCons (op2 (oIxA C) (sVar 3) (sK (.int 0))) (aCons (op2 (oIxA C) (sVar 3) (sK (.int 1))) aNil))) aNil))) ssNil)
    (ssIf (tAnd (tBl (op2 (oEq C) (sVar 2) (sK (.int 1)))) (tBl (op2 (oEq C) (sVar 4) (sK (.int 3))))) (ssDPut (sVar 1) (sK (.str "through")) (sLst false (aCons (sLst false (aCons (op2 (oIxA C) (sVar 3) (sK (.int 2))) (aCons (op2 (oIxA C) (sVar 3) (sK (.int 1))) aNil))) aNil))) ssNil)))))))))
/-- a comprehension of _law_made_engine -/
noncomputable def c0__law_made_engine (C : CE) : SE :=
    (sLcF (iSeq (op2 (oIxA C) (sVar 0) (sK (.str "passes")))) (gNm 1) tYes (sTup (aCons (op2 (oIxA C) (sVar 1) (sK (.int 0))) (aCons (opN (arg1 (bList false C)) (aCons (op2 (oIxA C) (sVar 1) (sK (.int 1))) aNil)) aNil))) [1])
/-- _law_made_engine -/
noncomputable def b__law_made_engine (C : CE) : SS :=
    (ssRet (deepOE 40 (sMk C cl_Engine nm_Engine___init__ (aCons (opN (arg1 (bList false C)) (aCons (op2 (oIxA C) (sVar 0) (sK (.str "kinds"))) aNil)) (aCons (c0__law_made_engine C) (aCons (op2 (oIxA C) (sVar 0) (sK (.str "sources"))) aNil))))))
/-- a comprehension of _law_made -/
noncomputable def c0__law_made (C : CE) : SE :=
    (sLcF (iRng1 (opN (arg1 (bLenA C)) (aCons (op2 (oIxA C) (sVar 0) (sK (.str "passes"))) aNil))) (gNm 2) tYes (sTup (aCons (opN (arg1 (bList false C)) (aCons (op2 (oIxA C) (op2 (oIxA C) (sVar 0) (sK (.str "enters"))) (sVar 2)) aNil)) (aCons (opN (arg1 (bList false C)) (aCons (op2 (oIxA C) (op2 (oIxA C) (sVar 0) (sK (.str "through"))) (sVar 2)) aNil)) aNil))) [2])
/-- a loop of _law_made -/
noncomputable def l1__law_made (C : CE) : SS :=
    (trimS [5] (ssOwn C (sVar 3) (sTup (aCons (op2 (oIxA C) (sVar 4) (sK (.int 0))) (aCons (op2 (oIxA C) (sVar 4) (sK (.int 1))) (aCons (op2 (oIxA C) (sVar 4) (sK (.int 2))) aNil)))) (op2 (oOr C) (op2 (oIxA C) (sVar 3) (sTup (aCons (op2 (oIxA C) (sVar 4) (sK (.int 0))) (aCons (op2 (oIxA C) (sVar 4) (sK (.int 1))) (aCons (op2 (oIxA C) (sVar 4) (sK (.int 2))) aNil))))) (sMk C cl_Marks nm_Marks___init__ (aCons (sVar 5) aNil)))))
/-- a loop of _law_made -/
noncomputable def l0__law_made (C : CE) : SS :=
    (trimS [4, 5] (sFor (iSeq (op2 (oIxA C) (op2 (oIxA C) (sVar 0) (sK (.str "rules"))) (sVar 4))) (gNm 5) (l1__law_made C)))
/-- _law_made -/
noncomputable def b__law_made (C : CE) : SS :=
    (ssSeq (ssSet 1 (c0__law_made C))
    (ssSeq (ssSet 3 (sMk C cl_Book nm_Book___init__ (aCons (sCall C nm__law_made_engine (aCons (sVar 0) aNil)) (aCons (opN (arg1 (bList false C)) (aCons (op2 (oIxA C) (sVar 0) (sK (.str "marks"))) aNil)) (aCons (sVar 1) aNil)))))
    (ssSeq (sForD (op2 (oIxA C) (sVar 0) (sK (.str "rules"))) (gNm 4) (l0__law_made C))
    (ssRet (sVar 3)))))
/-- a comprehension of _law_add -/
noncomputable def c0__law_add (C : CE) : SE :=
    (sLcF (iSeq (sVar 4)) (gNm 6) (tBl (op2 (oNotInA C) (sVar 6) (sVar 5))) (sVar 6) [6])
/-- _law_add -/
noncomputable def b__law_add (C : CE) : SS :=
    (ssSeq (ssSet 5 (sGet2 (op2 (oIxA C) (sVar 0) (sK (.str "rules"))) (sTup (aCons (sVar 1) (aCons (sVar 2) (aCons (sVar 3) aNil)))) (sLst false aNil)))
    (ssDPut (op2 (oIxA C) (sVar 0) (sK (.str "rules"))) (sTup (aCons (sVar 1) (aCons (sVar 2) (aCons (sVar 3) aNil)))) (op2 (oAdd false) (sVar 5) (c0__law_add C))))
/-- the scope of a comprehension of _law_ways -/
def nsc_c1__law_ways : PySem.Scope := ⟨.function, [(".0", .local), ("_law_mark", .cell), ("len", .globalImplicit), ("_law_book", .cell)], false, false, []⟩
/-- a comprehension of _law_ways -/
noncomputable def c1__law_ways (C : CE) : SE :=
    (sLcF (iSeq (op2 (oIxA C) (sVar 0) (sK (.str "through")))) (gNm 2) (tBl (op2 (oInA C) (sVar 1) (sVar 2))) (sVar 2) [2])
/-- a comprehension of _law_ways -/
noncomputable def c0__law_ways (C : CE) : SE :=
    (sLcF (iSeq (op2 (oIxA C) (sVar 0) (sK (.str "marks")))) (gNm 1) (tBl (op2 oGt (opN (arg1 (bLenA C)) (aCons (c1__law_ways C) aNil)) (sK (.int 0)))) (sVar 1) [1])
/-- _law_ways -/
noncomputable def b__law_ways (C : CE) : SS :=
    (ssRet (c0__law_ways C))
/-- a loop of _law_natural_source -/
noncomputable def l1__law_natural_source (C : CE) : SS :=
    (trimS [6] (ssExpr (sCall C nm__law_add (aCons (sVar 0) (aCons (sVar 1) (aCons (sVar 6) (aCons (sVar 5) (aCons (sVar 4) aNil))))))))
/-- a loop of _law_natural_source -/
noncomputable def l0__law_natural_source (C : CE) : SS :=
    (trimS [5, 6] (sFor (iSeq (sLst false (aCons (sK (.str "insert")) (aCons (sK (.str "remove")) (aCons (sK (.str "move")) (aCons (op2 (oIxA C) (sVar 3) (sK (.int 1))) aNil)))))) (gNm 6) (l1__law_natural_source C)))
/-- a loop of _law_natural_source -/
noncomputable def l2__law_natural_source (C : CE) : SS :=
    (trimS [6] (ssIf (tTru (sVar 2)) (ssExpr (sCall C nm__law_add (aCons (sVar 0) (aCons (sVar 1) (aCons (sVar 6) (aCons (sK (.str "own")) (aCons (sVar 4) aNil))))))) ssNil))
/-- _law_natural_source -/
noncomputable def b__law_natural_source (C : CE) : SS :=
    (ssSeq (sFor (iSeq (sGet2 (sDisp false (dpCons (sK (.str "children")) (sLst false (aCons (sK (.str "parent")) aNil)) (dpCons (sK (.str "before")) (sLst false (aCons (sK (.str "next")) aNil)) dpNil))) (op2 (oIxA C) (sVar 3) (sK (.int 0))) (sLst false aNil))) (gNm 5) (l0__law_natural_source C))
    (ssSeq (ssIf (tBl (op2 (oEq C) (op2 (oIxA C) (sVar 3) (sK (.int 0))) (sK (.str "parent")))) (ssSeq (ssExpr (sCall C nm__law_add (aCons (sVar 0) (aCons (sVar 1) (aCons (op2 (oIxA C) (sVar 3) (sK (.int 1))) (aCons (sK (.str "children")) (aCons (sVar 4) aNil)))))))
    (ssExpr (sCall C nm__law_add (aCons (sVar 0) (aCons (sVar 1) (aCons (op2 (oIxA C) (sVar 3) (sK (.int 1))) (aCons (sK (.str "own")) (aCons (sCall C nm__law_ways (aCons (sVar 0) aNil)) aNil)))))))) ssNil)
    (ssSeq (ssSet 7 (sDisp false (dpCons (sK (.str "style")) (sLst false (aCons (sK (.str "style")) (aCons (sK (.str "insert")) aNil))) (dpCons (sK (.str "own")) (sLst false (aCons (op2 (oIxA C) (sVar 3) (op1 oNeg (sK (.int 1)))) (aCons (sK (.str "insert")) aNil))) (dpCons (sK (.str "children")) (sLst false (aCons (sK (.str "insert")) aNil)) dpNil)))))
    (sFor (iSeq (sGet2 (sVar 7) (op2 (oIxA C) (sVar 3) (sK (.int 0))) (sLst false (aCons (sK (.str "insert")) (aCons (sK (.str "move")) aNil))))) (gNm 6) (l2__law_natural_source C)))))
/-- a loop of _law_natural -/
noncomputable def l1__law_natural (C : CE) : SS :=
    (trimS [2] (ssExpr (sCall C nm__law_add (aCons (sVar 0) (aCons (sVar 1) (aCons (sVar 2) (aCons (sK (.str "up")) (aCons (sCall C nm__law_ways (aCons (sVar 0) aNil)) aNil))))))))
/-- a loop of _law_natural -/
noncomputable def l4__law_natural (C : CE) : SS :=
    (trimS [6] (ssExpr (sCall C nm__law_natural_source (aCons (sVar 0) (aCons (sVar 1) (aCons (op2 (oEq C) (sVar 3) (sVar 1)) (aCons (sBm isStr mSplit (sVar 6) (aCons (sK (.str ".")) aNil)) (aCons (sVar 5) aNil))))))))
/-- a loop of _law_natural -/
noncomputable def l3__law_natural (C : CE) : SS :=
    (trimS [4, 5, 6] (ssSeq (ssSet 5 (op2 (oIxA C) (op2 (oIxA C) (sVar 0) (sK (.str "enters"))) (sCall C nm__law_turn (aCons (sVar 0) (aCons (sVar 4) aNil)))))
    (sFor (iSeq (op2 (oIxA C) (op2 (oIxA C) (op2 (oIxA C) (sVar 0) (sK (.str "sources"))) (sVar 3)) (sVar 4))) (gNm 6) (l4__law_natural C))))
/-- a loop of _law_natural -/
noncomputable def l2__law_natural (C : CE) : SS :=
    (trimS [3, 4, 5, 6] (sFor (iSeq (op2 (oIxA C) (sVar 0) (sK (.str "names")))) (gNm 4) (l3__law_natural C)))
/-- a loop of _law_natural -/
noncomputable def l0__law_natural (C : CE) : SS :=
    (trimS [1, 2, 3, 4, 5, 6] (ssSeq (sFor (iSeq (sLst false (aCons (sK (.str "style")) (aCons (sK (.str "insert")) (aCons (sK (.str "remove")) (aCons (sK (.str "move")) aNil)))))) (gNm 2) (l1__law_natural C))
    (sFor (iSeq (op2 (oIxA C) (sVar 0) (sK (.str "kinds")))) (gNm 3) (l2__law_natural C))))
/-- _law_natural -/
noncomputable def b__law_natural (C : CE) : SS :=
    (sFor (iSeq (op2 (oIxA C) (sVar 0) (sK (.str "kinds")))) (gNm 1) (l0__law_natural C))
/-- _law_places -/
noncomputable def b__law_places (C : CE) : SS :=
    (ssSeq (ssSet 1 (sDisp true (dpCons (sK (.str "style")) (sLst false (aCons (sK (.str "own")) (aCons (sK (.str "parent")) (aCons (sK (.str "next")) (aCons (sK (.str "up")) aNil))))) (dpCons (sK (.str "remove")) (sLst false (aCons (sK (.str "parent")) (aCons (sK (.str "next")) (aCons (sK (.str "up")) aNil)))) dpNil))))
    (ssSeq (ssDPut (sVar 1) (sK (.str "insert")) (op2 (oIxA C) (sVar 1) (sK (.str "style"))))
    (ssSeq (ssDPut (sVar 1) (sK (.str "move")) (op2 (oIxA C) (sVar 1) (sK (.str "style"))))
    (ssRet (sGet2 (sVar 1) (sVar 0) (sLst false (aCons (sK (.str "own")) (aCons (sK (.str "parent")) (aCons (sK (.str "next")) (aCons (sK (.str "children")) aNil))))))))))
/-- _law_any_atom -/
noncomputable def b__law_any_atom (C : CE) : SS :=
    (ssSeq (ssSet 2 (sCall C nm__law_one (aCons (sVar 0) (aCons (op2 (oAdd false) (sLst false (aCons (sK (.str "style")) (aCons (sK (.str "insert")) (aCons (sK (.str "remove")) (aCons (sK (.str "move")) aNil))))) (op2 (oIxA C) (sVar 1) (sK (.str "names")))) aNil))))
    (ssSeq (ssSet 3 (sCall C nm__law_one (aCons (sVar 0) (aCons (sCall C nm__law_places (aCons (sVar 2) aNil)) aNil))))
    (ssRet (sTup (aCons (sCall C nm__law_one (aCons (sVar 0) (aCons (op2 (oIxA C) (sVar 1) (sK (.str "kinds"))) aNil))) (aCons (sVar 2) (aCons (sVar 3) (aCons (sCall C nm__law_one (aCons (sVar 0) (aCons (op2 (oIxA C) (sVar 1) (sK (.str "marks"))) aNil))) aNil))))))))
/-- a loop of _law_more -/
noncomputable def l0__law_more (C : CE) : SS :=
    (trimS [3, 4] (ssSeq (ssSet 4 (sCall C nm__law_any_atom (aCons (sVar 0) (aCons (sVar 1) aNil))))
    (ssExpr (sCall C nm__law_add (aCons (sVar 1) (aCons (op2 (oIxA C) (sVar 4) (sK (.int 0))) (aCons (op2 (oIxA C) (sVar 4) (sK (.int 1))) (aCons (op2 (oIxA C) (sVar 4) (sK (.int 2))) (aCons (sLst false (aCons (op2 (oIxA C) (sVar 4) (sK (.int 3))) aNil)) aNil)))))))))
/-- _law_more -/
noncomputable def b__law_more (C : CE) : SS :=
    (sFor (iRng1 (sVar 2)) (gNm 3) (l0__law_more C))
/-- a comprehension of _law_fence -/
noncomputable def c0__law_fence (C : CE) : SE :=
    (sLcF (iSeq (op2 (oIxA C) (sVar 1) (sK (.str "marks")))) (gNm 4) (tBl (op2 (oNotInA C) (sVar 4) (sVar 2))) (sVar 4) [4])
/-- _law_fence -/
noncomputable def b__law_fence (C : CE) : SS :=
    (ssSeq (ssSet 2 (sCall C nm__law_ways (aCons (sVar 1) aNil)))
    (ssSeq (ssSet 3 (c0__law_fence C))
    (ssIf (trimT (tAnd (tBl (op2 oGt (opN (arg1 (bLenA C)) (aCons (sVar 3) aNil)) (sK (.int 0)))) (tBl (op2 (oEq C) (sCall C nm__law_pick (aCons (sVar 0) (aCons (sK (.int 3)) aNil))) (sK (.int 1)))))) (ssExpr (sCall C nm__law_add (aCons (sVar 1) (aCons (sCall C nm__law_one (aCons (sVar 0) (aCons (op2 (oIxA C) (sVar 1) (sK (.str "kinds"))) aNil))) (aCons (sK (.str "fence")) (aCons (sK (.str "up")) (aCons (sLst false (aCons (sCall C nm__law_one (aCons (sVar 0) (aCons (sVar 3) aNil))) aNil)) aNil))))))) ssNil)))
/-- a comprehension of _law_atoms -/
noncomputable def c0__law_atoms (C : CE) : SE :=
    (sLcF (iSeq (op2 (oIxA C) (sVar 0) (sK (.str "marks")))) (gNm 6) (tBl (op2 (oInA C) (sVar 6) (sVar 5))) (sTup (aCons (sVar 2) (aCons (sVar 3) (aCons (sVar 4) (aCons (sVar 6) aNil))))) [6])
/-- a loop of _law_atoms -/
noncomputable def l2__law_atoms (C : CE) : SS :=
    (trimS [4, 5] (ssSeq (ssSet 5 (sGet2 (op2 (oIxA C) (sVar 0) (sK (.str "rules"))) (sTup (aCons (sVar 2) (aCons (sVar 3) (aCons (sVar 4) aNil)))) (sLst false aNil)))
    (ssExpr (sBm isLst mExtend (sVar 1) (aCons (c0__law_atoms C) aNil)))))
/-- a loop of _law_atoms -/
noncomputable def l1__law_atoms (C : CE) : SS :=
    (trimS [3, 4, 5] (sFor (iSeq (sCall C nm__law_places (aCons (sVar 3) aNil))) (gNm 4) (l2__law_atoms C)))
/-- a loop of _law_atoms -/
noncomputable def l0__law_atoms (C : CE) : SS :=
    (trimS [2, 3, 4, 5] (sFor (iSeq (op2 (oAdd false) (sLst false (aCons (sK (.str "style")) (aCons (sK (.str "insert")) (aCons (sK (.str "remove")) (aCons (sK (.str "move")) aNil))))) (op2 (oIxA C) (sVar 0) (sK (.str "names"))))) (gNm 3) (l1__law_atoms C)))
/-- _law_atoms -/
noncomputable def b__law_atoms (C : CE) : SS :=
    (ssSeq (ssSet 1 (sLst true aNil))
    (ssSeq (sFor (iSeq (op2 (oIxA C) (sVar 0) (sK (.str "kinds")))) (gNm 2) (l0__law_atoms C))
    (ssRet (deepE 1 (sVar 1)))))
/-- law -/
noncomputable def b_law (C : CE) : SS :=
    (ssSeq (ssSet 1 (sCall C nm__law_tape (aCons (sVar 0) aNil)))
    (ssSeq (ssSet 2 (sCall C nm__law_engine (aCons (sVar 1) (aCons (sK (.int 3)) (aCons (sK (.int 4)) (aCons (sK (.bl true)) aNil))))))
    (ssSeq (ssExpr (sCall C nm__law_reads (aCons (sVar 1) (aCons (sVar 2) aNil))))
    (ssDeep 1 2 (ssSeq (ssIf (trimT (tBl (op2 (oNe C) (sMeth C cl_Book "atoms" nm_Book_atoms (sCall C nm__law_made (aCons (sVar 2) aNil)) aNil) (sLst false aNil)))) (ssRet (sK (.bl false))) ssNil)
    (ssSeq (ssIf (trimT (tBl (op2 (oEq C) (sCall C nm__law_pick (aCons (sVar 1) (aCons (sK (.int 2)) aNil))) (sK (.int 1))))) (ssExpr (sCall C nm__law_natural (aCons (sVar 2) aNil))) ssNil)
    (ssSeq (ssExpr (sCall C nm__law_more (aCons (sVar 1) (aCons (sVar 2) (aCons (sCall C nm__law_pick (aCons (sVar 1) (aCons (sK (.int 10)) aNil))) aNil)))))
    (ssSeq (ssExpr (sCall C nm__law_fence (aCons (sVar 1) (aCons (sVar 2) aNil))))
    (ssDeep 40 2 (ssSeq (ssSet 3 (sCall C nm__law_made (aCons (sVar 2) aNil)))
    (ssSeq (ssSet 4 (sMeth C cl_Book "atoms" nm_Book_atoms (sVar 3) aNil))
    (ssSeq (ssIf (trimT (tOr (tNot (tTru (op1 (bIsT .list) (sVar 4)))) (tBl (op2 (oNe C) (sVar 4) (sCall C nm__law_atoms (aCons (sVar 2) aNil)))))) (ssRet (sK (.bl false))) ssNil)
    (ssSeq (ssExpr (sBm isLst mAppend (sVar 4) (aCons (sTup (aCons (sK (.str "a")) (aCons (sK (.str "style")) (aCons (sK (.str "own")) (aCons (sK (.str "b")) aNil))))) aNil)))
    (ssRet (op2 (oEq C) (sMeth C cl_Book "atoms" nm_Book_atoms (sVar 3) aNil) (sCall C nm__law_atoms (aCons (sVar 2) aNil)))))))))))))))))
noncomputable def f_is_name (C : CE) : List AV → AH → R AV := trimF (some 0) (runF 1 2 (b_is_name C))
noncomputable def f_are_distinct (C : CE) : List AV → AH → R AV := trimF (some 0) (runF 1 2 (b_are_distinct C))
noncomputable def f_are_names (C : CE) : List AV → AH → R AV := trimF (some 0) (runF 2 3 (b_are_names C))
noncomputable def f_split_source (C : CE) : List AV → AH → R AV := trimF (some 0) (runF 1 2 (b_split_source C))
noncomputable def f_Engine___init__ (C : CE) : List AV → AH → R AV := trimF (some 1) (runF 4 9 (b_Engine___init__ C))
noncomputable def f_Engine_checked (C : CE) : List AV → AH → R AV := trimF (some 0) (runF 2 6 (b_Engine_checked C))
noncomputable def f_Engine___getitem__ (C : CE) : List AV → AH → R AV := trimF (some 0) (runF 2 2 (b_Engine___getitem__ C))
noncomputable def f_Marks___init__ (C : CE) : List AV → AH → R AV := trimF (some 0) (runS 1 4 (b_Marks___init__ C))
noncomputable def f_Marks___eq__ (C : CE) : List AV → AH → R AV := trimF (some 0) (runF 2 2 (b_Marks___eq__ C))
noncomputable def f_Marks___len__ (C : CE) : List AV → AH → R AV := trimF (some 0) (runF 1 1 (b_Marks___len__ C))
noncomputable def f_Marks___contains__ (C : CE) : List AV → AH → R AV := trimF (some 0) (runF 2 2 (b_Marks___contains__ C))
noncomputable def f_Marks___or__ (C : CE) : List AV → AH → R AV := trimF (some 0) (runF 2 3 (b_Marks___or__ C))
noncomputable def f_Marks___and__ (C : CE) : List AV → AH → R AV := trimF (some 0) (runF 2 4 (b_Marks___and__ C))
noncomputable def f_Marks___sub__ (C : CE) : List AV → AH → R AV := trimF (some 0) (runF 2 4 (b_Marks___sub__ C))
noncomputable def f_Marks___le__ (C : CE) : List AV → AH → R AV := trimF (some 0) (runF 2 3 (b_Marks___le__ C))
noncomputable def f_Marks___ior__ (C : CE) : List AV → AH → R AV := trimF (some 0) (runF 2 4 (b_Marks___ior__ C))
noncomputable def f_Book___init__ (C : CE) : List AV → AH → R AV := trimF (some 1) (runF 4 11 (b_Book___init__ C))
noncomputable def f_Book_places (C : CE) : List AV → AH → R AV := trimF (some 0) (runF 2 2 (b_Book_places C))
noncomputable def f_Book_has_rule (C : CE) : List AV → AH → R AV := trimF (some 0) (runF 2 5 (b_Book_has_rule C))
noncomputable def f_Book___getitem__ (C : CE) : List AV → AH → R AV := trimF (some 0) (runF 2 3 (b_Book___getitem__ C))
noncomputable def f_Book___setitem__ (C : CE) : List AV → AH → R AV := trimF (some 0) (runF 3 4 (b_Book___setitem__ C))
noncomputable def f_Book_is_way (C : CE) : List AV → AH → R AV := trimF (some 0) (runF 2 4 (b_Book_is_way C))
noncomputable def f_Book_enters (C : CE) : List AV → AH → R AV := trimF (some 0) (runF 2 3 (b_Book_enters C))
noncomputable def f_Book_through (C : CE) : List AV → AH → R AV := trimF (some 0) (runF 2 3 (b_Book_through C))
noncomputable def f_Book_atoms (C : CE) : List AV → AH → R AV := trimF (some 0) (runF 1 7 (b_Book_atoms C))
noncomputable def f_Book_outline (C : CE) : List AV → AH → R AV := trimF (some 0) (runF 1 7 (b_Book_outline C))
noncomputable def f_Book___le__ (C : CE) : List AV → AH → R AV := trimF (some 0) (runF 2 5 (b_Book___le__ C))
noncomputable def f__law_tape (C : CE) : List AV → AH → R AV := trimF none (runF 1 1 (b__law_tape C))
noncomputable def f__law_pick (C : CE) : List AV → AH → R AV := trimF (some 0) (runF 2 5 (b__law_pick C))
noncomputable def f__law_some (C : CE) : List AV → AH → R AV := trimF (some 0) (runF 3 6 (b__law_some C))
noncomputable def f__law_kind_names (C : CE) : List AV → AH → R AV := trimF (some 0) (runF 2 3 (b__law_kind_names C))
noncomputable def f__law_one (C : CE) : List AV → AH → R AV := trimF (some 0) (runF 2 2 (b__law_one C))
noncomputable def f__law_turn (C : CE) : List AV → AH → R AV := trimF (some 0) (runF 2 3 (b__law_turn C))
noncomputable def f__law_in_time (C : CE) : List AV → AH → R AV := trimF (some 0) (runF 3 8 (b__law_in_time C))
noncomputable def f__law_sources (C : CE) : List AV → AH → R AV := trimF (some 0) (runF 4 10 (b__law_sources C))
noncomputable def f__law_engine (C : CE) : List AV → AH → R AV := trimF none (runF 4 12 (b__law_engine C))
noncomputable def f__law_mark_names (C : CE) : List AV → AH → R AV := trimF (some 0) (runF 2 2 (b__law_mark_names C))
noncomputable def f__law_reads (C : CE) : List AV → AH → R AV := trimF none (runF 2 6 (b__law_reads C))
noncomputable def f__law_made_engine (C : CE) : List AV → AH → R AV := trimF (some 1) (runF 1 2 (b__law_made_engine C))
noncomputable def f__law_made (C : CE) : List AV → AH → R AV := trimF (some 0) (runF 1 6 (b__law_made C))
noncomputable def f__law_add (C : CE) : List AV → AH → R AV := trimF (some 0) (runF 5 7 (b__law_add C))
noncomputable def f__law_ways (C : CE) : List AV → AH → R AV := trimF (some 0) (runF 1 3 (b__law_ways C))
noncomputable def f__law_natural_source (C : CE) : List AV → AH → R AV := trimF (some 0) (runF 5 8 (b__law_natural_source C))
noncomputable def f__law_natural (C : CE) : List AV → AH → R AV := trimF (some 0) (runF 1 7 (b__law_natural C))
noncomputable def f__law_places (C : CE) : List AV → AH → R AV := trimF (some 0) (runF 1 2 (b__law_places C))
noncomputable def f__law_any_atom (C : CE) : List AV → AH → R AV := trimF (some 0) (runF 2 4 (b__law_any_atom C))
noncomputable def f__law_more (C : CE) : List AV → AH → R AV := trimF (some 0) (runF 3 5 (b__law_more C))
noncomputable def f__law_fence (C : CE) : List AV → AH → R AV := trimF (some 0) (runF 2 5 (b__law_fence C))
noncomputable def f__law_atoms (C : CE) : List AV → AH → R AV := trimF (some 0) (runF 1 7 (b__law_atoms C))
noncomputable def f_law (C : CE) : List AV → AH → R AV := trimF none (runF 1 5 (b_law C))
noncomputable def bod : Bod := fun C i => match i with
  | 1 => f_is_name C
  | 2 => f_are_distinct C
  | 3 => f_are_names C
  | 4 => f_split_source C
  | 5 => f_Engine___init__ C
  | 6 => f_Engine_checked C
  | 8 => f_Engine___getitem__ C
  | 15 => f_Marks___init__ C
  | 16 => f_Marks___eq__ C
  | 17 => f_Marks___len__ C
  | 19 => f_Marks___contains__ C
  | 20 => f_Marks___or__ C
  | 21 => f_Marks___and__ C
  | 22 => f_Marks___sub__ C
  | 23 => f_Marks___le__ C
  | 24 => f_Marks___ior__ C
  | 25 => f_Book___init__ C
  | 27 => f_Book_places C
  | 28 => f_Book_has_rule C
  | 29 => f_Book___getitem__ C
  | 30 => f_Book___setitem__ C
  | 31 => f_Book_is_way C
  | 32 => f_Book_enters C
  | 33 => f_Book_through C
  | 35 => f_Book_atoms C
  | 40 => f_Book_outline C
  | 41 => f_Book___le__ C
  | 42 => f__law_tape C
  | 43 => f__law_pick C
  | 44 => f__law_some C
  | 45 => f__law_kind_names C
  | 46 => f__law_one C
  | 47 => f__law_turn C
  | 48 => f__law_in_time C
  | 49 => f__law_sources C
  | 50 => f__law_engine C
  | 51 => f__law_mark_names C
  | 52 => f__law_reads C
  | 53 => f__law_made_engine C
  | 54 => f__law_made C
  | 55 => f__law_add C
  | 56 => f__law_ways C
  | 57 => f__law_natural_source C
  | 58 => f__law_natural C
  | 59 => f__law_places C
  | 60 => f__law_any_atom C
  | 61 => f__law_more C
  | 62 => f__law_fence C
  | 63 => f__law_atoms C
  | 64 => f_law C
  | _ => fun _ _ => .bad
variable {P : Program} {w : World} {K : PySem.W.Frag} {mg : Str → Option Value} {base : Heap} {C : CE} {k : Nat}
theorem y_1 : BodyOk pd P w K mg base C k N_1 d_1 (b_is_name C) := fun cdv A outer s H E c =>
    (mss_one (ms_ret (m_and (m_chain m_int (m_callB (c_lenA (c.dun .len) c.r1) (by rfl) (c.free fr_len) (by decide +kernel) (m_cons (m_var 0) m_nil)) m_int) (m_one (m_callB (c_all rfl) (by rfl) (c.free fr_all) (by decide +kernel) (m_cons (m_lcF (own := [("letter", 1)]) rfl nd_1 (mi_seq (m_var 0)) (blkOk_by (own := [("letter", 1)]) (N := N_1) (sc := (He.DefD.scope d_1)) (by decide +kernel)) (by decide) (fun _ _ _ _ _ => (mg_name 1 nd_1)) (fun _ _ _ _ _ => mts_nil) (fun _ _ _ _ _ => (m_cmp (k_inA (c.blk.dun .has) c.blk.r0) (m_var 1) (x_gstr c.blk (by simp [pd]))))) m_nil))))))
theorem y_2 : BodyOk pd P w K mg base C k N_2 d_2 (b_are_distinct C) := fun cdv A outer s H E c =>
    (mss_one (ms_ret (m_callB (c_all rfl) (by rfl) (c.free fr_all) (by decide +kernel) (m_cons (m_lcF (own := [("word", 1)]) rfl nd_2 (mi_seq (m_var 0)) (blkOk_by (own := [("word", 1)]) (N := N_2) (sc := (He.DefD.scope d_2)) (by decide +kernel)) (by decide) (fun _ _ _ _ _ => (mg_name 1 nd_2)) (fun _ _ _ _ _ => mts_nil) (fun _ _ _ _ _ => (m_cmp (k_eq (c.blk.dun .eq) c.blk.r0) (m_bm PySem.F.plainAttrs_list PySem.F.slot_list_count PySem.F.type_list_count ty_list mo_count (m_var 0) (m_cons (m_var 1) m_nil)) m_int))) m_nil))))
theorem y_3 : BodyOk pd P w K mg base C k N_3 d_3 (b_are_names C) := fun cdv A outer s H E c =>
    (mss_one (ms_ret (m_and (m_chain m_int (m_callB (c_lenA (c.dun .len) c.r1) (by rfl) (c.free fr_len) (by decide +kernel) (m_cons (m_var 0) m_nil)) (m_var 1)) (m_and (x_call c nm_are_distinct (by rfl) hfn_2 (by rfl) (m_cons (m_var 0) m_nil)) (m_one (by exact (m_callB (c_all rfl) (by rfl) (c.free fr_all) (by decide +kernel) (m_cons (m_lcF (own := [("word", 2)]) rfl nd_3 (mi_seq (m_var 0)) (blkOk_by (own := [("word", 2)]) (N := N_3) (sc := (He.DefD.scope d_3)) (by decide +kernel)) (by decide) (fun _ _ _ _ _ => (mg_name 2 nd_3)) (fun _ _ _ _ _ => mts_nil) (fun _ _ _ _ _ => (x_call c.blk nm_is_name (by rfl) hfn_1 (by rfl) (m_cons (m_var 2) m_nil)))) m_nil))))))))
theorem y_4 : BodyOk pd P w K mg base C k N_4 d_4 (b_split_source C) := fun cdv A outer s H E c =>
    (mss_cons (ms_set 1 nd_4 (m_partition (m_var 0) m_str))
    (mss_one (ms_ret (m_tup (m_cons (m_ixA (k_ixA (c.dun .get) c.r1) (m_var 1) m_int) (m_cons (m_ixA (k_ixA (c.dun .get) c.r1) (m_var 1) m_int) m_nil))))))
theorem y_5 : BodyOk pd P w K mg base C k N_5 d_5 (b_Engine___init__ C) := fun cdv A outer s H E c =>
    (mss_cons (xs_fld c cl_Engine hcd_0 (by decide) (m_var 0) (m_callTy (c_list false (c.dun .len) c.itT rfl c.room) (by rfl) (c.free fr_list) (by decide +kernel) (m_cons (m_var 1) m_nil)))
    (mss_cons (xs_fld c cl_Engine hcd_0 (by decide) (m_var 0) (m_lcF (own := [("direction", 4), ("names", 5)]) rfl nd_5 (mi_seq (m_var 2)) (blkOk_by (own := [("direction", 4), ("names", 5)]) (N := N_5) (sc := (He.DefD.scope d_5)) (by decide +kernel)) (by decide) (fun _ _ _ _ _ => (mg_tup rfl (mgs_cons 4 nd_5 (mgs_cons 5 nd_5 mgs_nil)))) (fun _ _ _ _ _ => mts_nil) (fun _ _ _ _ _ => (m_tup (m_cons (m_var 4) (m_cons (m_callTy c_tuple (by rfl) (c.blk.free fr_tuple) (by decide +kernel) (m_cons (m_var 5) m_nil)) m_nil))))))
    (mss_cons (xs_fld c cl_Engine hcd_0 (by decide) (m_var 0) (m_lc2F (own := [("direction", 4), ("names", 5), ("name", 6)]) rfl nd_5 (mi_seq (x_fld c cl_Engine hcd_0 (by decide) (m_var 0))) (blkOk_by (own := [("direction", 4), ("names", 5), ("name", 6)]) (N := N_5) (sc := (He.DefD.scope d_5)) (by decide +kernel)) (by decide) (js1 := [6]) (vs1 := [6]) (by decide) (by decide) (fun _ _ _ _ _ => (mg_tup rfl (mgs_cons 4 nd_5 (mgs_cons 5 nd_5 mgs_nil)))) (fun _ _ _ _ _ => mts_nil) (fun _ _ _ _ _ => (mi_seq (m_var 5))) (fun _ _ _ _ _ => (mg_name 6 nd_5)) (fun _ _ _ _ _ => mts_nil) (fun _ _ _ _ _ => (m_var 6))))
    (mss_cons (ms_if (mt_of (mw_or (mt_not (mt_tru (x_call c nm_are_names (by rfl) hfn_3 (by rfl) (m_cons (x_fld c cl_Engine hcd_0 (by decide) (m_var 0)) (m_cons m_int m_nil))))) (mw_or (mt_not (mt_chain m_int (m_callB (c_lenA (c.dun .len) c.r1) (by rfl) (c.free fr_len) (by decide +kernel) (m_cons (x_fld c cl_Engine hcd_0 (by decide) (m_var 0)) m_nil)) m_int)) (mw_or1 (mt_not (mt_tru (x_call c nm_are_names (by rfl) hfn_3 (by rfl) (m_cons (x_fld c cl_Engine hcd_0 (by decide) (m_var 0)) (m_cons m_int m_nil))))))))) mss_bad mss_nil)
    (mss_cons (ms_for (passes_of rfl) rfl (mi_seq (x_fld c cl_Engine hcd_0 (by decide) (m_var 0))) (mg_tup rfl (mgs_cons 4 nd_5 (mgs_cons 5 nd_5 mgs_nil))) (mss_one (ms_if (mt_of (mw_or (mt_cmp (k_notinA (c.dun .has) c.r0) (m_var 4) (m_tup (m_cons m_str (m_cons m_str m_nil)))) (mw_or1 (mt_cmp (k_eq (c.dun .eq) c.r0) (m_callB (c_lenA (c.dun .len) c.r1) (by rfl) (c.free fr_len) (by decide +kernel) (m_cons (m_var 5) m_nil)) m_int)))) mss_bad mss_nil)))
    (mss_cons (ms_for (passes_of rfl) rfl (mi_seq (m_bin (k_add false) (x_gtup c (by simp [pd])) (m_tup (m_cons m_str m_nil)))) (mg_name 7 nd_5) (mss_one (ms_if (mt_cmp (k_inA (c.dun .has) c.r0) (m_var 7) (x_fld c cl_Engine hcd_0 (by decide) (m_var 0))) mss_bad mss_nil)))
    (mss_cons (xs_fld c cl_Engine hcd_0 (by decide) (m_var 0) m_dt)
    (mss_cons (ms_if (mt_cmp (k_ne c.r0) (m_callB (c_lenA (c.dun .len) c.r1) (by rfl) (c.free fr_len) (by decide +kernel) (m_cons (m_var 3) m_nil)) (m_callB (c_lenA (c.dun .len) c.r1) (by rfl) (c.free fr_len) (by decide +kernel) (m_cons (x_fld c cl_Engine hcd_0 (by decide) (m_var 0)) m_nil))) mss_bad mss_nil)
    (mss_one (ms_for (passes_of rfl) rfl (mi_seq (x_fld c cl_Engine hcd_0 (by decide) (m_var 0))) (mg_name 8 nd_5) (mss_cons (ms_if (mt_of (mw_or (mt_cmp (k_notinA (c.dun .has) c.r0) (m_var 8) (m_var 3)) (mw_or1 (mt_cmp (k_ne c.r0) (m_callB (c_lenA (c.dun .len) c.r1) (by rfl) (c.free fr_len) (by decide +kernel) (m_cons (m_ixA (k_ixA (c.dun .get) c.r1) (m_var 3) (m_var 8)) m_nil)) (m_callB (c_lenA (c.dun .len) c.r1) (by rfl) (c.free fr_len) (by decide +kernel) (m_cons (x_fld c cl_Engine hcd_0 (by decide) (m_var 0)) m_nil)))))) mss_bad mss_nil)
    (mss_one (ms_for (passes_of rfl) rfl (mi_seq (x_fld c cl_Engine hcd_0 (by decide) (m_var 0))) (mg_name 6 nd_5) (mss_cons (ms_if (mt_cmp (k_notinA (c.dun .has) c.r0) (m_var 6) (m_ixA (k_ixA (c.dun .get) c.r1) (m_var 3) (m_var 8))) mss_bad mss_nil)
    (mss_one (ms_dput c.r0 (x_fld c cl_Engine hcd_0 (by decide) (m_var 0)) (m_tup (m_cons (m_var 8) (m_cons (m_var 6) m_nil))) (x_meth c cl_Engine nm_Engine_checked hcd_0 (by decide) hfn_6 (m_var 0) (m_cons (m_callTy (c_list false (c.dun .len) c.itT rfl c.room) (by rfl) (c.free fr_list) (by decide +kernel) (m_cons (m_ixA (k_ixA (c.dun .get) c.r1) (m_ixA (k_ixA (c.dun .get) c.r1) (m_var 3) (m_var 8)) (m_var 6)) m_nil)) m_nil))))))))))))))))))
theorem y_6 : BodyOk pd P w K mg base C k N_6 d_6 (b_Engine_checked C) := fun cdv A outer s H E c =>
    (mss_cons (ms_if (mt_of (mw_or (mt_not (mt_chain m_int (m_callB (c_lenA (c.dun .len) c.r1) (by rfl) (c.free fr_len) (by decide +kernel) (m_cons (m_var 1) m_nil)) m_int)) (mw_or1 (mt_not (mt_tru (x_call c nm_are_distinct (by rfl) hfn_2 (by rfl) (m_cons (m_var 1) m_nil))))))) mss_bad mss_nil)
    (mss_cons (ms_for (passes_of rfl) rfl (mi_seq (m_var 1)) (mg_name 2 nd_6) (mss_cons (ms_unp rfl (mgs_cons 3 nd_6 (mgs_cons 4 nd_6 mgs_nil)) (x_call c nm_split_source (by rfl) hfn_4 (by rfl) (m_cons (m_var 2) m_nil)))
    (mss_cons (ms_set 5 nd_6 (m_and (m_cmp (k_inA (c.dun .has) c.r0) (m_var 3) (x_gtup c (by simp [pd]))) (m_and (m_cmp (k_inA (c.dun .has) c.r0) (m_var 4) (x_fld c cl_Engine hcd_0 (by decide) (m_var 0))) (m_one (m_cmp (k_eq (c.dun .eq) c.r0) (m_var 2) (m_bin (k_add false) (m_bin (k_add false) (m_var 3) m_str) (m_var 4)))))))
    (mss_one (ms_if (mt_of (mw_and (mt_cmp (k_ne c.r0) (m_var 2) m_str) (mw_and1 (mt_not (mt_tru (m_var 5)))))) mss_bad mss_nil)))))
    (mss_one (ms_ret (m_callTy c_tuple (by rfl) (c.free fr_tuple) (by decide +kernel) (m_cons (m_var 1) m_nil))))))
theorem y_8 : BodyOk pd P w K mg base C k N_8 d_8 (b_Engine___getitem__ C) := fun cdv A outer s H E c =>
    (mss_cons (ms_if (mt_cmp (k_notinA (c.dun .has) c.r0) (m_var 1) (x_fld c cl_Engine hcd_0 (by decide) (m_var 0))) mss_bad mss_nil)
    (mss_one (ms_ret (m_callTy (c_list true (c.dun .len) c.itT rfl c.room) (by rfl) (c.free fr_list) (by decide +kernel) (m_cons (m_ixA (k_ixA (c.dun .get) c.r1) (x_fld c cl_Engine hcd_0 (by decide) (m_var 0)) (m_var 1)) m_nil)))))
theorem y_15 : BodyOk pd P w K mg base C k N_15 d_15 (b_Marks___init__ C) := fun cdv A outer s H E c =>
    (mss_cons (ms_set 2 nd_15 (m_lst true m_nil))
    (mss_cons (ms_for (passes_of rfl) rfl (mi_seq (m_var 1)) (mg_name 3 nd_15) (mss_trim [3] (mss_one (ms_if (mt_cmp (k_notinA (c.dun .has) c.r0) (m_var 3) (m_var 2)) (mss_one (ms_expr (m_append (m_var 2) (m_cons (m_var 3) m_nil)))) mss_nil))))
    (mss_one (xs_fld c cl_Marks hcd_1 (by decide) (m_var 0) (m_callB c_sorted (by rfl) (c.free fr_sorted) (by decide +kernel) (m_cons (m_lcF (own := [("name", 3)]) rfl nd_15 (mi_seq (m_var 2)) (blkOk_by (own := [("name", 3)]) (N := N_15) (sc := (He.DefD.scope d_15)) (by decide +kernel)) (by decide) (fun _ _ _ _ _ => (mg_name 3 nd_15)) (fun _ _ _ _ _ => mts_nil) (fun _ _ _ _ _ => (m_callTy c_str (by rfl) (c.blk.free fr_str) (by decide +kernel) (m_cons (m_var 3) m_nil)))) m_nil))))))
theorem y_16 : BodyOk pd P w K mg base C k N_16 d_16 (b_Marks___eq__ C) := fun cdv A outer s H E c =>
    (mss_one (ms_ret (m_and (x_isA c 1 (by rfl) (by rfl) hcd_1 (by rfl) (by rfl) (by decide) fr_isinstance (m_var 1)) (m_one (m_cmp (k_eq (c.dun .eq) c.r0) (x_fld c cl_Marks hcd_1 (by decide) (m_var 0)) (x_fld c cl_Marks hcd_1 (by decide) (m_var 1)))))))
theorem y_17 : BodyOk pd P w K mg base C k N_17 d_17 (b_Marks___len__ C) := fun cdv A outer s H E c =>
    (mss_one (ms_ret (m_callB (c_lenA (c.dun .len) c.r1) (by rfl) (c.free fr_len) (by decide +kernel) (m_cons (x_fld c cl_Marks hcd_1 (by decide) (m_var 0)) m_nil))))
theorem y_19 : BodyOk pd P w K mg base C k N_19 d_19 (b_Marks___contains__ C) := fun cdv A outer s H E c =>
    (mss_one (ms_ret (m_cmp (k_inA (c.dun .has) c.r0) (m_var 1) (x_fld c cl_Marks hcd_1 (by decide) (m_var 0)))))
theorem y_20 : BodyOk pd P w K mg base C k N_20 d_20 (b_Marks___or__ C) := fun cdv A outer s H E c =>
    (mss_cons (ms_if (mt_not (mt_tru (x_isA c 1 (by rfl) (by rfl) hcd_1 (by rfl) (by rfl) (by decide) fr_isinstance (m_var 1)))) mss_bad mss_nil)
    (mss_cons (ms_set 2 nd_20 (m_bin (k_add false) (x_fld c cl_Marks hcd_1 (by decide) (m_var 0)) (x_fld c cl_Marks hcd_1 (by decide) (m_var 1))))
    (mss_one (ms_ret (x_mkS1 c cl_Marks nm_Marks___init__ (by rfl) hcd_1 (by rfl) (by rfl) hfn_15 (m_var 2))))))
theorem y_21 : BodyOk pd P w K mg base C k N_21 d_21 (b_Marks___and__ C) := fun cdv A outer s H E c =>
    (mss_cons (ms_if (mt_not (mt_tru (x_isA c 1 (by rfl) (by rfl) hcd_1 (by rfl) (by rfl) (by decide) fr_isinstance (m_var 1)))) mss_bad mss_nil)
    (mss_cons (ms_lcF (own := [("name", 3)]) 2 rfl nd_21 (sw_true rfl rfl rfl (by decide +kernel)) (mi_seq (x_fld c cl_Marks hcd_1 (by decide) (m_var 0))) (blkOk_by (own := [("name", 3)]) (N := N_21) (sc := (He.DefD.scope d_21)) (by decide +kernel)) (by decide) (fun _ _ _ _ _ => (mg_name 3 nd_21)) (fun _ _ _ _ _ => (mts_one (mt_cmp (k_inA (c.blk.dun .has) c.blk.r0) (m_var 3) (x_fld c.blk cl_Marks hcd_1 (by decide) (m_var 1))))) (fun _ _ _ _ _ => (m_var 3)))
    (mss_one (ms_ret (x_mkS1 c cl_Marks nm_Marks___init__ (by rfl) hcd_1 (by rfl) (by rfl) hfn_15 (m_var 2))))))
theorem y_22 : BodyOk pd P w K mg base C k N_22 d_22 (b_Marks___sub__ C) := fun cdv A outer s H E c =>
    (mss_cons (ms_if (mt_not (mt_tru (x_isA c 1 (by rfl) (by rfl) hcd_1 (by rfl) (by rfl) (by decide) fr_isinstance (m_var 1)))) mss_bad mss_nil)
    (mss_cons (ms_lcF (own := [("name", 3)]) 2 rfl nd_22 (sw_true rfl rfl rfl (by decide +kernel)) (mi_seq (x_fld c cl_Marks hcd_1 (by decide) (m_var 0))) (blkOk_by (own := [("name", 3)]) (N := N_22) (sc := (He.DefD.scope d_22)) (by decide +kernel)) (by decide) (fun _ _ _ _ _ => (mg_name 3 nd_22)) (fun _ _ _ _ _ => (mts_one (mt_cmp (k_notinA (c.blk.dun .has) c.blk.r0) (m_var 3) (x_fld c.blk cl_Marks hcd_1 (by decide) (m_var 1))))) (fun _ _ _ _ _ => (m_var 3)))
    (mss_one (ms_ret (x_mkS1 c cl_Marks nm_Marks___init__ (by rfl) hcd_1 (by rfl) (by rfl) hfn_15 (m_var 2))))))
theorem y_23 : BodyOk pd P w K mg base C k N_23 d_23 (b_Marks___le__ C) := fun cdv A outer s H E c =>
    (mss_cons (ms_if (mt_not (mt_tru (x_isA c 1 (by rfl) (by rfl) hcd_1 (by rfl) (by rfl) (by decide) fr_isinstance (m_var 1)))) mss_bad mss_nil)
    (mss_one (ms_ret (m_callB (c_all rfl) (by rfl) (c.free fr_all) (by decide +kernel) (m_cons (m_lcF (own := [("name", 2)]) rfl nd_23 (mi_seq (x_fld c cl_Marks hcd_1 (by decide) (m_var 0))) (blkOk_by (own := [("name", 2)]) (N := N_23) (sc := (He.DefD.scope d_23)) (by decide +kernel)) (by decide) (fun _ _ _ _ _ => (mg_name 2 nd_23)) (fun _ _ _ _ _ => mts_nil) (fun _ _ _ _ _ => (m_cmp (k_inA (c.blk.dun .has) c.blk.r0) (m_var 2) (x_fld c.blk cl_Marks hcd_1 (by decide) (m_var 1))))) m_nil)))))
theorem y_24 : BodyOk pd P w K mg base C k N_24 d_24 (b_Marks___ior__ C) := fun cdv A outer s H E c =>
    (mss_cons (ms_if (mt_not (mt_tru (x_isA c 1 (by rfl) (by rfl) hcd_1 (by rfl) (by rfl) (by decide) fr_isinstance (m_var 1)))) mss_bad mss_nil)
    (mss_cons (ms_lcF (own := [("name", 3)]) 2 rfl nd_24 (sw_true rfl rfl rfl (by decide +kernel)) (mi_seq (x_fld c cl_Marks hcd_1 (by decide) (m_var 1))) (blkOk_by (own := [("name", 3)]) (N := N_24) (sc := (He.DefD.scope d_24)) (by decide +kernel)) (by decide) (fun _ _ _ _ _ => (mg_name 3 nd_24)) (fun _ _ _ _ _ => (mts_one (mt_cmp (k_notinA (c.blk.dun .has) c.blk.r0) (m_var 3) (x_fld c.blk cl_Marks hcd_1 (by decide) (m_var 0))))) (fun _ _ _ _ _ => (m_var 3)))
    (mss_cons (xs_fld c cl_Marks hcd_1 (by decide) (m_var 0) (m_callB c_sorted (by rfl) (c.free fr_sorted) (by decide +kernel) (m_cons (m_lcF (own := [("name", 3)]) rfl nd_24 (mi_seq (m_bin (k_add false) (x_fld c cl_Marks hcd_1 (by decide) (m_var 0)) (m_var 2))) (blkOk_by (own := [("name", 3)]) (N := N_24) (sc := (He.DefD.scope d_24)) (by decide +kernel)) (by decide) (fun _ _ _ _ _ => (mg_name 3 nd_24)) (fun _ _ _ _ _ => mts_nil) (fun _ _ _ _ _ => (m_callTy c_str (by rfl) (c.blk.free fr_str) (by decide +kernel) (m_cons (m_var 3) m_nil)))) m_nil)))
    (mss_one (ms_ret (m_var 0))))))
theorem y_25 : BodyOk pd P w K mg base C k N_25 d_25 (b_Book___init__ C) := fun cdv A outer s H E c =>
    (mss_cons (xs_fld c cl_Book hcd_2 (by decide) (m_var 0) (m_var 1))
    (mss_cons (xs_fld c cl_Book hcd_2 (by decide) (m_var 0) (m_callTy (c_list false (c.dun .len) c.itT rfl c.room) (by rfl) (c.free fr_list) (by decide +kernel) (m_cons (m_var 2) m_nil)))
    (mss_cons (xs_fld c cl_Book hcd_2 (by decide) (m_var 0) (m_lcF (own := [("enters", 4), ("through", 5)]) rfl nd_25 (mi_seq (m_var 3)) (blkOk_by (own := [("enters", 4), ("through", 5)]) (N := N_25) (sc := (He.DefD.scope d_25)) (by decide +kernel)) (by decide) (fun _ _ _ _ _ => (mg_tup rfl (mgs_cons 4 nd_25 (mgs_cons 5 nd_25 mgs_nil)))) (fun _ _ _ _ _ => mts_nil) (fun _ _ _ _ _ => (m_tup (m_cons (m_callTy c_tuple (by rfl) (c.blk.free fr_tuple) (by decide +kernel) (m_cons (m_var 4) m_nil)) (m_cons (m_callTy c_tuple (by rfl) (c.blk.free fr_tuple) (by decide +kernel) (m_cons (m_var 5) m_nil)) m_nil))))))
    (mss_cons (xs_fld c cl_Book hcd_2 (by decide) (m_var 0) m_dt)
    (mss_cons (ms_if (mt_trim (mt_of (mw_or (mt_not (mt_tru (x_call c nm_are_names (by rfl) hfn_3 (by rfl) (m_cons (x_fld c cl_Book hcd_2 (by decide) (m_var 0)) (m_cons m_int m_nil))))) (mw_or1 (mt_cmp (k_ne c.r0) (m_callB (c_lenA (c.dun .len) c.r1) (by rfl) (c.free fr_len) (by decide +kernel) (m_cons (x_fld c cl_Book hcd_2 (by decide) (m_var 0)) m_nil)) (m_callB (c_lenA (c.dun .len) c.r1) (by rfl) (c.free fr_len) (by decide +kernel) (m_cons (x_fld c cl_Engine hcd_0 (by decide) (m_var 1)) m_nil))))))) mss_bad mss_nil)
    (mss_cons (ms_set 6 nd_25 (m_lst true m_nil))
    (mss_cons (ms_for (passes_of rfl) rfl (mi_seq (x_fld c cl_Book hcd_2 (by decide) (m_var 0))) (mg_name 7 nd_25) (mss_trim [7, 8, 9] (mss_one (ms_for (passes_of rfl) rfl (mi_seq (m_var 7)) (mg_name 8 nd_25) (mss_trim [8, 9] (mss_one (ms_for (passes_of rfl) rfl (mi_seq (m_var 8)) (mg_name 9 nd_25) (mss_trim [9] (mss_cons (ms_if (mt_of (mw_or (mt_cmp (k_notinA (c.dun .has) c.r0) (m_var 9) (x_fld c cl_Book hcd_2 (by decide) (m_var 0))) (mw_or1 (mt_cmp k_gt (m_tcount (m_var 8) (m_cons (m_var 9) m_nil)) m_int)))) mss_bad mss_nil)
    (mss_one (ms_expr (m_append (m_var 6) (m_cons (m_var 9) m_nil)))))))))))))
    (mss_one (ms_for (passes_of rfl) rfl (mi_seq (x_fld c cl_Book hcd_2 (by decide) (m_var 0))) (mg_name 10 nd_25) (mss_trim [10] (mss_one (ms_if (mt_cmp (k_notinA (c.dun .has) c.r0) (m_var 10) (m_var 6)) mss_bad mss_nil))))))))))))
theorem y_27 : BodyOk pd P w K mg base C k N_27 d_27 (b_Book_places C) := fun cdv A outer s H E c =>
    (mss_cons (ms_if (mt_cmp (k_eq (c.dun .eq) c.r0) (m_var 1) m_str) (mss_one (ms_ret (m_tup (m_cons m_str m_nil)))) mss_nil)
    (mss_cons (ms_if (mt_cmp (k_eq (c.dun .eq) c.r0) (m_var 1) m_str) (mss_one (ms_ret (m_cut false (x_gtup c (by simp [pd])) (mo_some m_int) mo_none))) mss_nil)
    (mss_cons (ms_if (mt_cmp (k_inA (c.dun .has) c.r0) (m_var 1) (x_gtup c (by simp [pd]))) (mss_one (ms_ret (x_gtup c (by simp [pd])))) mss_nil)
    (mss_cons (ms_if (mt_cmp (k_inA (c.dun .has) c.r0) (m_var 1) (x_fld c cl_Engine hcd_0 (by decide) (x_fld c cl_Book hcd_2 (by decide) (m_var 0)))) (mss_one (ms_ret (x_gtup c (by simp [pd])))) mss_nil)
    (mss_one (ms_ret (m_tup m_nil)))))))
theorem y_28 : BodyOk pd P w K mg base C k N_28 d_28 (b_Book_has_rule C) := fun cdv A outer s H E c =>
    (mss_cons (ms_unp rfl (mgs_cons 2 nd_28 (mgs_cons 3 nd_28 (mgs_cons 4 nd_28 mgs_nil))) (m_var 1))
    (mss_one (ms_ret (m_and (m_cmp (k_inA (c.dun .has) c.r0) (m_var 2) (x_fld c cl_Engine hcd_0 (by decide) (x_fld c cl_Book hcd_2 (by decide) (m_var 0)))) (m_one (m_cmp (k_inA (c.dun .has) c.r0) (m_var 4) (x_meth c cl_Book nm_Book_places hcd_2 (by decide) hfn_27 (m_var 0) (m_cons (m_var 3) m_nil))))))))
theorem y_29 : BodyOk pd P w K mg base C k N_29 d_29 (b_Book___getitem__ C) := fun cdv A outer s H E c =>
    (mss_cons (ms_if (mt_trim (mt_not (mt_tru (x_meth c cl_Book nm_Book_has_rule hcd_2 (by decide) hfn_28 (m_var 0) (m_cons (m_var 1) m_nil))))) mss_bad mss_nil)
    (mss_cons (ms_set 2 nd_29 (m_get2 c.r0 (x_fld c cl_Book hcd_2 (by decide) (m_var 0)) (m_var 1) (m_tup m_nil)))
    (mss_one (ms_ret (x_mkS1 c cl_Marks nm_Marks___init__ (by rfl) hcd_1 (by rfl) (by rfl) hfn_15 (m_var 2))))))
theorem y_30 : BodyOk pd P w K mg base C k N_30 d_30 (b_Book___setitem__ C) := fun cdv A outer s H E c =>
    (mss_cons (ms_if (mt_trim (mt_not (mt_tru (x_meth c cl_Book nm_Book_has_rule hcd_2 (by decide) hfn_28 (m_var 0) (m_cons (m_var 1) m_nil))))) mss_bad mss_nil)
    (mss_cons (ms_for (passes_of rfl) rfl (mi_seq (x_fld c cl_Marks hcd_1 (by decide) (m_var 2))) (mg_name 3 nd_30) (mss_trim [3] (mss_one (ms_if (mt_trim (mt_of (mw_or (mt_cmp (k_notinA (c.dun .has) c.r0) (m_var 3) (x_fld c cl_Book hcd_2 (by decide) (m_var 0))) (mw_or1 (mt_of (mw_and (mt_cmp (k_eq (c.dun .eq) c.r0) (m_ixA (k_ixA (c.dun .get) c.r1) (m_var 1) m_int) m_str) (mw_and1 (mt_tru (x_meth c cl_Book nm_Book_is_way hcd_2 (by decide) hfn_31 (m_var 0) (m_cons (m_var 3) m_nil)))))))))) mss_bad mss_nil))))
    (mss_one (ms_dput c.r0 (x_fld c cl_Book hcd_2 (by decide) (m_var 0)) (m_var 1) (m_callTy c_tuple (by rfl) (c.free fr_tuple) (by decide +kernel) (m_cons (x_fld c cl_Marks hcd_1 (by decide) (m_var 2)) m_nil))))))
theorem y_31 : BodyOk pd P w K mg base C k N_31 d_31 (b_Book_is_way C) := fun cdv A outer s H E c =>
    (mss_one (ms_ret (m_callB (c_any rfl) (by rfl) (c.free fr_any) (by decide +kernel) (m_cons (m_lcF (own := [("enters", 2), ("through", 3)]) rfl nd_31 (mi_seq (x_fld c cl_Book hcd_2 (by decide) (m_var 0))) (blkOk_by (own := [("enters", 2), ("through", 3)]) (N := N_31) (sc := (He.DefD.scope d_31)) (by decide +kernel)) (by decide) (fun _ _ _ _ _ => (mg_tup rfl (mgs_cons 2 nd_31 (mgs_cons 3 nd_31 mgs_nil)))) (fun _ _ _ _ _ => mts_nil) (fun _ _ _ _ _ => (m_cmp (k_inA (c.blk.dun .has) c.blk.r0) (m_var 1) (m_var 3)))) m_nil))))
theorem y_32 : BodyOk pd P w K mg base C k N_32 d_32 (b_Book_enters C) := fun cdv A outer s H E c =>
    (mss_cons (ms_set 2 nd_32 (m_ixA (k_ixA (c.dun .get) c.r1) (m_ixA (k_ixA (c.dun .get) c.r1) (x_fld c cl_Book hcd_2 (by decide) (m_var 0)) (m_var 1)) m_int))
    (mss_one (ms_ret (x_mkS1 c cl_Marks nm_Marks___init__ (by rfl) hcd_1 (by rfl) (by rfl) hfn_15 (m_var 2)))))
theorem y_33 : BodyOk pd P w K mg base C k N_33 d_33 (b_Book_through C) := fun cdv A outer s H E c =>
    (mss_cons (ms_set 2 nd_33 (m_ixA (k_ixA (c.dun .get) c.r1) (m_ixA (k_ixA (c.dun .get) c.r1) (x_fld c cl_Book hcd_2 (by decide) (m_var 0)) (m_var 1)) m_int))
    (mss_one (ms_ret (x_mkS1 c cl_Marks nm_Marks___init__ (by rfl) hcd_1 (by rfl) (by rfl) hfn_15 (m_var 2)))))
theorem y_35 : BodyOk pd P w K mg base C k N_35 d_35 (b_Book_atoms C) := fun cdv A outer s H E c =>
    (mss_cons (ms_set 1 nd_35 (m_lst true m_nil))
    (mss_cons (ms_for (passes_of rfl) rfl (mi_seq (x_fld c cl_Engine hcd_0 (by decide) (x_fld c cl_Book hcd_2 (by decide) (m_var 0)))) (mg_name 2 nd_35) (mss_trim [2, 3, 4, 5] (mss_one (ms_for (passes_of rfl) rfl (mi_seq (m_bin (k_add false) (x_gtup c (by simp [pd])) (m_callTy c_tuple (by rfl) (c.free fr_tuple) (by decide +kernel) (m_cons (x_fld c cl_Engine hcd_0 (by decide) (x_fld c cl_Book hcd_2 (by decide) (m_var 0))) m_nil)))) (mg_name 3 nd_35) (mss_trim [3, 4, 5] (mss_one (ms_for (passes_of rfl) rfl (mi_seq (x_meth c cl_Book nm_Book_places hcd_2 (by decide) hfn_27 (m_var 0) (m_cons (m_var 3) m_nil))) (mg_name 4 nd_35) (mss_trim [4, 5] (mss_cons (ms_set 5 nd_35 (m_get2 c.r0 (x_fld c cl_Book hcd_2 (by decide) (m_var 0)) (m_tup (m_cons (m_var 2) (m_cons (m_var 3) (m_cons (m_var 4) m_nil)))) (m_tup m_nil)))
    (mss_one (ms_expr (m_bm PySem.F.plainAttrs_list PySem.F.slot_list_extend PySem.F.type_list_extend ty_list mo_extend (m_var 1) (m_cons (m_lcF (own := [("mark", 6)]) rfl nd_35 (mi_seq (x_fld c cl_Book hcd_2 (by decide) (m_var 0))) (blkOk_by (own := [("mark", 6)]) (N := N_35) (sc := (He.DefD.scope d_35)) (by decide +kernel)) (by decide) (fun _ _ _ _ _ => (mg_name 6 nd_35)) (fun _ _ _ _ _ => (mts_one (mt_cmp (k_inA (c.blk.dun .has) c.blk.r0) (m_var 6) (m_var 5)))) (fun _ _ _ _ _ => (m_tup (m_cons (m_var 2) (m_cons (m_var 3) (m_cons (m_var 4) (m_cons (m_var 6) m_nil))))))) m_nil)))))))))))))
    (mss_one (ms_ret (m_var 1)))))
theorem y_40 : BodyOk pd P w K mg base C k N_40 d_40 (b_Book_outline C) := fun cdv A outer s H E c =>
    (mss_cons (ms_set 1 nd_40 (x_fld c cl_Book hcd_2 (by decide) (m_var 0)))
    (mss_cons (ms_lc2F (own := [("kind", 3), ("name", 4)]) 2 rfl nd_40 (sw_true rfl rfl rfl (by decide +kernel)) (mi_seq (x_fld c cl_Engine hcd_0 (by decide) (m_var 1))) (blkOk_by (own := [("kind", 3), ("name", 4)]) (N := N_40) (sc := (He.DefD.scope d_40)) (by decide +kernel)) (by decide) (js1 := [4]) (vs1 := [4]) (by decide) (by decide) (fun _ _ _ _ _ => (mg_name 3 nd_40)) (fun _ _ _ _ _ => mts_nil) (fun _ _ _ _ _ => (mi_seq (x_fld c.blk cl_Engine hcd_0 (by decide) (m_var 1)))) (fun _ _ _ _ _ => (mg_name 4 nd_40)) (fun _ _ _ _ _ => mts_nil) (fun _ _ _ _ _ => (m_ixA (k_ixA (c.blk.dun .get) c.blk.r1) (x_fld c.blk cl_Engine hcd_0 (by decide) (m_var 1)) (m_tup (m_cons (m_var 3) (m_cons (m_var 4) m_nil))))))
    (mss_cons (ms_lcF (own := [("number", 6)]) 5 rfl nd_40 (sw_true rfl rfl rfl (by decide +kernel)) (mi_rng1 (by rfl) (c.free fr_range) (m_callB (c_lenA (c.dun .len) c.r1) (by rfl) (c.free fr_len) (by decide +kernel) (m_cons (x_fld c cl_Book hcd_2 (by decide) (m_var 0)) m_nil))) (blkOk_by (own := [("number", 6)]) (N := N_40) (sc := (He.DefD.scope d_40)) (by decide +kernel)) (by decide) (fun _ _ _ _ _ => (mg_name 6 nd_40)) (fun _ _ _ _ _ => mts_nil) (fun _ _ _ _ _ => (m_tup (m_cons (x_fld c.blk cl_Marks hcd_1 (by decide) (x_meth c.blk cl_Book nm_Book_enters hcd_2 (by decide) hfn_32 (m_var 0) (m_cons (m_var 6) m_nil))) (m_cons (x_fld c.blk cl_Marks hcd_1 (by decide) (x_meth c.blk cl_Book nm_Book_through hcd_2 (by decide) hfn_33 (m_var 0) (m_cons (m_var 6) m_nil))) m_nil)))))
    (mss_one (ms_ret (m_lst false (m_cons (x_fld c cl_Engine hcd_0 (by decide) (m_var 1)) (m_cons (x_fld c cl_Engine hcd_0 (by decide) (m_var 1)) (m_cons (m_var 2) (m_cons (x_fld c cl_Book hcd_2 (by decide) (m_var 0)) (m_cons (m_var 5) m_nil)))))))))))
theorem y_41 : BodyOk pd P w K mg base C k N_41 d_41 (b_Book___le__ C) := fun cdv A outer s H E c =>
    (mss_cons (ms_if (mt_not (mt_tru (x_isA c 2 (by rfl) (by rfl) hcd_2 (by rfl) (by rfl) (by decide) fr_isinstance (m_var 1)))) mss_bad mss_nil)
    (mss_cons (ms_if (mt_trim (mt_cmp (k_ne c.r0) (x_meth0 c cl_Book nm_Book_outline hcd_2 (by decide) hfn_40 (m_var 0)) (x_meth0 c cl_Book nm_Book_outline hcd_2 (by decide) hfn_40 (m_var 1)))) (mss_one (ms_ret m_bl)) mss_nil)
    (mss_cons (ms_for (passes_of rfl) rfl (mi_seq (x_fld c cl_Book hcd_2 (by decide) (m_var 0))) (mg_name 2 nd_41) (mss_trim [] (mss_cons (ms_set 3 nd_41 (m_get2 c.r0 (x_fld c cl_Book hcd_2 (by decide) (m_var 1)) (m_var 2) (m_tup m_nil)))
    (mss_one (ms_if (mt_of (mw_and (mt_cmp (k_ne c.r0) (m_ixA (k_ixA (c.dun .get) c.r1) (m_var 2) m_int) m_str) (mw_and1 (mt_not (mt_tru (m_callB (c_all rfl) (by rfl) (c.free fr_all) (by decide +kernel) (m_cons (m_lcF (own := [("mark", 4)]) rfl nd_41 (mi_seq (m_ixA (k_ixA (c.dun .get) c.r1) (x_fld c cl_Book hcd_2 (by decide) (m_var 0)) (m_var 2))) (blkOk_by (own := [("mark", 4)]) (N := N_41) (sc := (He.DefD.scope d_41)) (by decide +kernel)) (by decide) (fun _ _ _ _ _ => (mg_name 4 nd_41)) (fun _ _ _ _ _ => mts_nil) (fun _ _ _ _ _ => (m_cmp (k_inA (c.blk.dun .has) c.blk.r0) (m_var 4) (m_var 3)))) m_nil))))))) (mss_one (ms_ret m_bl)) mss_nil)))))
    (mss_cons (ms_for (passes_of rfl) rfl (mi_seq (x_fld c cl_Book hcd_2 (by decide) (m_var 1))) (mg_name 2 nd_41) (mss_trim [] (mss_cons (ms_set 3 nd_41 (m_get2 c.r0 (x_fld c cl_Book hcd_2 (by decide) (m_var 0)) (m_var 2) (m_tup m_nil)))
    (mss_one (ms_if (mt_of (mw_and (mt_cmp (k_eq (c.dun .eq) c.r0) (m_ixA (k_ixA (c.dun .get) c.r1) (m_var 2) m_int) m_str) (mw_and1 (mt_not (mt_tru (m_callB (c_all rfl) (by rfl) (c.free fr_all) (by decide +kernel) (m_cons (m_lcF (own := [("mark", 4)]) rfl nd_41 (mi_seq (m_ixA (k_ixA (c.dun .get) c.r1) (x_fld c cl_Book hcd_2 (by decide) (m_var 1)) (m_var 2))) (blkOk_by (own := [("mark", 4)]) (N := N_41) (sc := (He.DefD.scope d_41)) (by decide +kernel)) (by decide) (fun _ _ _ _ _ => (mg_name 4 nd_41)) (fun _ _ _ _ _ => mts_nil) (fun _ _ _ _ _ => (m_cmp (k_inA (c.blk.dun .has) c.blk.r0) (m_var 4) (m_var 3)))) m_nil))))))) (mss_one (ms_ret m_bl)) mss_nil)))))
    (mss_one (ms_ret m_bl))))))
theorem y_42 : BodyOk pd P w K mg base C k N_42 d_42 (b__law_tape C) := fun cdv A outer s H E c =>
    (mss_one (ms_ret (m_lst true (m_cons m_int (m_cons m_int (m_cons m_int (m_cons (m_callTy (c_list false (c.dun .len) c.itT rfl c.room) (by rfl) (c.free fr_list) (by decide +kernel) (m_cons (m_var 0) m_nil)) m_nil)))))))
theorem y_43 : BodyOk pd P w K mg base C k N_43 d_43 (b__law_pick C) := fun cdv A outer s H E c =>
    (mss_cons (ms_if (mt_of (mw_and (mt_cmp k_lt (m_ixA (k_ixA (c.dun .get) c.r1) (m_var 0) m_int) (m_var 1)) (mw_and1 (mt_cmp k_lt (m_ixA (k_ixA (c.dun .get) c.r1) (m_var 0) m_int) (m_callB (c_lenA (c.dun .len) c.r1) (by rfl) (c.free fr_len) (by decide +kernel) (m_cons (m_ixA (k_ixA (c.dun .get) c.r1) (m_var 0) m_int) m_nil)))))) (mss_cons (ms_set 2 nd_43 (m_ixA (k_ixA (c.dun .get) c.r1) (m_ixA (k_ixA (c.dun .get) c.r1) (m_var 0) m_int) (m_ixA (k_ixA (c.dun .get) c.r1) (m_var 0) m_int)))
    (mss_cons (ms_ix (m_var 0) m_int (m_bin (k_add false) (m_ixA (k_ixA (c.dun .get) c.r1) (m_var 0) m_int) m_int))
    (mss_cons (ms_ix (m_var 0) m_int (m_ife (mt_cmp k_ge (m_var 2) (m_bin k_pow m_int m_int)) (m_var 2) m_int))
    (mss_cons (ms_set 3 nd_43 (m_bin (k_add false) (m_bin k_mul (m_ixA (k_ixA (c.dun .get) c.r1) (m_var 0) m_int) m_int) (m_bin k_mul (m_ixA (k_ixA (c.dun .get) c.r1) (m_var 0) m_int) m_int)))
    (mss_one (ms_ix (m_var 0) m_int (m_bin k_mod (m_callTy c_int (by rfl) (c.free fr_int) (by decide +kernel) (m_cons (m_bin (k_add false) (m_var 3) (m_bin k_mul (m_bin k_mod (m_callTy c_int (by rfl) (c.free fr_int) (by decide +kernel) (m_cons (m_var 2) m_nil)) m_int) m_int)) m_nil)) m_int))))))) mss_nil)
    (mss_cons (ms_if (mt_cmp k_ge (m_ixA (k_ixA (c.dun .get) c.r1) (m_var 0) m_int) (m_var 1)) (mss_cons (ms_set 4 nd_43 (m_bin k_mod (m_callTy c_int (by rfl) (c.free fr_int) (by decide +kernel) (m_cons (m_ixA (k_ixA (c.dun .get) c.r1) (m_var 0) m_int) m_nil)) (m_var 1)))
    (mss_cons (ms_ix (m_var 0) m_int (m_bin k_div (m_ixA (k_ixA (c.dun .get) c.r1) (m_var 0) m_int) (m_var 1)))
    (mss_one (ms_ret (m_var 4))))) mss_nil)
    (mss_cons (ms_ix (m_var 0) m_int (m_bin k_mod (m_callTy c_int (by rfl) (c.free fr_int) (by decide +kernel) (m_cons (m_bin (k_add false) (m_bin k_mul (m_ixA (k_ixA (c.dun .get) c.r1) (m_var 0) m_int) m_int) m_int) m_nil)) m_int))
    (mss_one (ms_ret (m_bin k_mod (m_callTy c_int (by rfl) (c.free fr_int) (by decide +kernel) (m_cons (m_bin k_div (m_ixA (k_ixA (c.dun .get) c.r1) (m_var 0) m_int) m_int) m_nil)) (m_var 1)))))))
theorem y_44 : BodyOk pd P w K mg base C k N_44 d_44 (b__law_some C) := fun cdv A outer s H E c =>
    (mss_cons (ms_set 3 nd_44 (x_call c nm__law_pick (by rfl) hfn_43 (by rfl) (m_cons (m_var 0) (m_cons (m_callB (c_lenA (c.dun .len) c.r1) (by rfl) (c.free fr_len) (by decide +kernel) (m_cons (m_var 1) m_nil)) m_nil))))
    (mss_cons (ms_set 4 nd_44 (m_bin (k_add false) m_int (x_call c nm__law_pick (by rfl) hfn_43 (by rfl) (m_cons (m_var 0) (m_cons (m_bin (k_sub (c.dun .sub) c.r0) (m_callB (c_lenA (c.dun .len) c.r1) (by rfl) (c.free fr_len) (by decide +kernel) (m_cons (m_var 1) m_nil)) m_int) m_nil)))))
    (mss_one (ms_ret (m_lcF (own := [("_law_k", 5)]) rfl nd_44 (mi_rng1 (by rfl) (c.free fr_range) (m_var 2)) (blkOk_by (own := [("_law_k", 5)]) (N := N_44) (sc := (He.DefD.scope d_44)) (by decide +kernel)) (by decide) (fun _ _ _ _ _ => (mg_name 5 nd_44)) (fun _ _ _ _ _ => mts_nil) (fun _ _ _ _ _ => (m_ixA (k_ixA (c.blk.dun .get) c.blk.r1) (m_var 1) (m_bin k_mod (m_callTy c_int (by rfl) (c.blk.free fr_int) (by decide +kernel) (m_cons (m_bin (k_add false) (m_var 3) (m_bin k_mul (m_var 4) (m_var 5))) m_nil)) (m_callB (c_lenA (c.blk.dun .len) c.blk.r1) (by rfl) (c.blk.free fr_len) (by decide +kernel) (m_cons (m_var 1) m_nil))))))))))
theorem y_45 : BodyOk pd P w K mg base C k N_45 d_45 (b__law_kind_names C) := fun cdv A outer s H E c =>
    (mss_cons (ms_set 2 nd_45 (m_lst false (m_cons m_str (m_cons m_str (m_cons m_str (m_cons m_str (m_cons m_str (m_cons m_str (m_cons m_str (m_cons m_str (m_cons m_str (m_cons m_str (m_cons m_str m_nil)))))))))))))
    (mss_one (ms_ret (x_call c nm__law_some (by rfl) hfn_44 (by rfl) (m_cons (m_var 0) (m_cons (m_var 2) (m_cons (m_var 1) m_nil)))))))
theorem y_46 : BodyOk pd P w K mg base C k N_46 d_46 (b__law_one C) := fun cdv A outer s H E c =>
    (mss_one (ms_ret (m_ixA (k_ixA (c.dun .get) c.r1) (m_var 1) (x_call c nm__law_pick (by rfl) hfn_43 (by rfl) (m_cons (m_var 0) (m_cons (m_callB (c_lenA (c.dun .len) c.r1) (by rfl) (c.free fr_len) (by decide +kernel) (m_cons (m_var 1) m_nil)) m_nil))))))
theorem y_47 : BodyOk pd P w K mg base C k N_47 d_47 (b__law_turn C) := fun cdv A outer s H E c =>
    (mss_one (ms_ret (m_ixA (k_ixA (c.dun .get) c.r1) (m_lcF (own := [("_law_k", 2)]) rfl nd_47 (mi_rng1 (by rfl) (c.free fr_range) (m_callB (c_lenA (c.dun .len) c.r1) (by rfl) (c.free fr_len) (by decide +kernel) (m_cons (m_ixA (k_ixA (c.dun .get) c.r1) (m_var 0) m_str) m_nil))) (blkOk_by (own := [("_law_k", 2)]) (N := N_47) (sc := (He.DefD.scope d_47)) (by decide +kernel)) (by decide) (fun _ _ _ _ _ => (mg_name 2 nd_47)) (fun _ _ _ _ _ => (mts_one (mt_cmp (k_inA (c.blk.dun .has) c.blk.r0) (m_var 1) (m_ixA (k_ixA (c.blk.dun .get) c.blk.r1) (m_ixA (k_ixA (c.blk.dun .get) c.blk.r1) (m_ixA (k_ixA (c.blk.dun .get) c.blk.r1) (m_var 0) m_str) (m_var 2)) m_int)))) (fun _ _ _ _ _ => (m_var 2))) m_int)))
theorem y_48 : BodyOk pd P w K mg base C k N_48 d_48 (b__law_in_time C) := fun cdv A outer s H E c =>
    (mss_cons (ms_set 3 nd_48 (m_split (m_var 2) m_str))
    (mss_cons (ms_if (mt_cmp (k_eq (c.dun .eq) c.r0) (m_ixA (k_ixA (c.dun .get) c.r1) (m_var 3) m_int) m_str) (mss_one (ms_ret m_bl)) mss_nil)
    (mss_cons (ms_set 4 nd_48 (x_call c nm__law_turn (by rfl) hfn_47 (by rfl) (m_cons (m_var 0) (m_cons (m_ixA (k_ixA (c.dun .get) c.r1) (m_var 3) m_int) m_nil))))
    (mss_cons (ms_set 5 nd_48 (x_call c nm__law_turn (by rfl) hfn_47 (by rfl) (m_cons (m_var 0) (m_cons (m_var 1) m_nil))))
    (mss_cons (ms_if (mt_cmp (k_ne c.r0) (m_var 4) (m_var 5)) (mss_one (ms_ret (m_cmp k_lt (m_var 4) (m_var 5)))) mss_nil)
    (mss_cons (ms_if (mt_cmp (k_eq (c.dun .eq) c.r0) (m_ixA (k_ixA (c.dun .get) c.r1) (m_var 3) m_int) m_str) (mss_cons (ms_set 6 nd_48 (m_ixA (k_ixA (c.dun .get) c.r1) (m_ixA (k_ixA (c.dun .get) c.r1) (m_ixA (k_ixA (c.dun .get) c.r1) (m_var 0) m_str) (m_var 5)) m_int))
    (mss_one (ms_ret (m_cmp k_lt (m_bm PySem.F.plainAttrs_list PySem.F.slot_list_index PySem.F.type_list_index ty_list mo_index (m_var 6) (m_cons (m_ixA (k_ixA (c.dun .get) c.r1) (m_var 3) m_int) m_nil)) (m_bm PySem.F.plainAttrs_list PySem.F.slot_list_index PySem.F.type_list_index ty_list mo_index (m_var 6) (m_cons (m_var 1) m_nil)))))) mss_nil)
    (mss_cons (ms_set 7 nd_48 (m_disp false (mp_cons m_str (m_lst false (m_cons m_str m_nil)) (mp_cons m_str (m_lst false (m_cons m_str m_nil)) (mp_cons m_str (m_lst false (m_cons m_str (m_cons m_str m_nil))) mp_nil)))))
    (mss_one (ms_ret (m_cmp (k_inA (c.dun .has) c.r0) (m_ixA (k_ixA (c.dun .get) c.r1) (m_ixA (k_ixA (c.dun .get) c.r1) (m_ixA (k_ixA (c.dun .get) c.r1) (m_var 0) m_str) (m_var 5)) m_int) (m_ixA (k_ixA (c.dun .get) c.r1) (m_var 7) (m_ixA (k_ixA (c.dun .get) c.r1) (m_var 3) m_int))))))))))))
theorem y_49 : BodyOk pd P w K mg base C k N_49 d_49 (b__law_sources C) := fun cdv A outer s H E c =>
    (mss_cons (ms_set 4 nd_49 (m_lst true (m_cons m_str m_nil)))
    (mss_cons (ms_for (passes_of rfl) rfl (mi_seq (m_lst false (m_cons m_str (m_cons m_str (m_cons m_str (m_cons m_str m_nil)))))) (mg_name 5 nd_49) (mss_one (ms_for (passes_of rfl) rfl (mi_seq (m_ixA (k_ixA (c.dun .get) c.r1) (m_var 1) m_str)) (mg_name 6 nd_49) (mss_one (ms_if (mt_of (mw_or (mt_tru (m_var 3)) (mw_or1 (mt_tru (x_call c nm__law_in_time (by rfl) hfn_48 (by rfl) (m_cons (m_var 1) (m_cons (m_var 2) (m_cons (m_bin (k_add false) (m_bin (k_add false) (m_var 5) m_str) (m_var 6)) m_nil)))))))) (mss_one (ms_expr (m_append (m_var 4) (m_cons (m_bin (k_add false) (m_bin (k_add false) (m_var 5) m_str) (m_var 6)) m_nil)))) mss_nil)))))
    (mss_cons (ms_set 7 nd_49 (m_lst true m_nil))
    (mss_cons (ms_for (passes_of rfl) rfl (mi_rng1 (by rfl) (c.free fr_range) (m_bin (k_add false) m_int (x_call c nm__law_pick (by rfl) hfn_43 (by rfl) (m_cons (m_var 0) (m_cons m_int m_nil))))) (mg_name 8 nd_49) (mss_cons (ms_set 9 nd_49 (x_call c nm__law_one (by rfl) hfn_46 (by rfl) (m_cons (m_var 0) (m_cons (m_var 4) m_nil))))
    (mss_one (ms_if (mt_cmp (k_notinA (c.dun .has) c.r0) (m_var 9) (m_var 7)) (mss_one (ms_expr (m_append (m_var 7) (m_cons (m_var 9) m_nil)))) mss_nil))))
    (mss_one (ms_ret (m_deep 1 (m_var 7))))))))
theorem y_50 : BodyOk pd P w K mg base C k N_50 d_50 (b__law_engine C) := fun cdv A outer s H E c =>
    (mss_cons (ms_set 4 nd_50 (x_call c nm__law_kind_names (by rfl) hfn_45 (by rfl) (m_cons (m_var 0) (m_cons (m_bin (k_add false) m_int (x_call c nm__law_pick (by rfl) hfn_43 (by rfl) (m_cons (m_var 0) (m_cons (m_var 1) m_nil)))) m_nil))))
    (mss_cons (ms_set 5 nd_50 (m_lst false (m_cons m_str (m_cons m_str (m_cons m_str (m_cons m_str (m_cons m_str (m_cons m_str (m_cons m_str (m_cons m_str (m_cons m_str (m_cons m_str (m_cons m_str m_nil)))))))))))))
    (mss_cons (ms_set 6 nd_50 (x_call c nm__law_some (by rfl) hfn_44 (by rfl) (m_cons (m_var 0) (m_cons (m_var 5) (m_cons (m_bin (k_add false) m_int (x_call c nm__law_pick (by rfl) hfn_43 (by rfl) (m_cons (m_var 0) (m_cons (m_var 2) m_nil)))) m_nil)))))
    (mss_cons (ms_lcF (own := [("_law_name", 8)]) 7 rfl nd_50 (sw_true rfl rfl rfl (by decide +kernel)) (mi_seq (m_cut false (m_var 6) mo_none (mo_some (m_bin (k_add false) m_int (x_call c nm__law_pick (by rfl) hfn_43 (by rfl) (m_cons (m_var 0) (m_cons (m_callB (c_min rfl) (by rfl) (c.free fr_min) (by decide +kernel) (m_cons m_int (m_cons (m_callB (c_lenA (c.dun .len) c.r1) (by rfl) (c.free fr_len) (by decide +kernel) (m_cons (m_var 6) m_nil)) m_nil))) m_nil))))))) (blkOk_by (own := [("_law_name", 8)]) (N := N_50) (sc := (He.DefD.scope d_50)) (by decide +kernel)) (by decide) (fun _ _ _ _ _ => (mg_name 8 nd_50)) (fun _ _ _ _ _ => mts_nil) (fun _ _ _ _ _ => (m_lst false (m_cons (x_call c.blk nm__law_one (by rfl) hfn_46 (by rfl) (m_cons (m_var 0) (m_cons (m_lst false (m_cons m_str (m_cons m_str m_nil))) m_nil))) (m_cons (m_lst true (m_cons (m_var 8) m_nil)) m_nil)))))
    (mss_cons (ms_for (passes_of rfl) rfl (mi_seq (m_cut false (m_var 6) (mo_some (m_callB (c_lenA (c.dun .len) c.r1) (by rfl) (c.free fr_len) (by decide +kernel) (m_cons (m_var 7) m_nil))) mo_none)) (mg_name 8 nd_50) (mss_one (ms_expr (m_append (m_ixA (k_ixA (c.dun .get) c.r1) (m_ixA (k_ixA (c.dun .get) c.r1) (m_var 7) (x_call c nm__law_pick (by rfl) hfn_43 (by rfl) (m_cons (m_var 0) (m_cons (m_callB (c_lenA (c.dun .len) c.r1) (by rfl) (c.free fr_len) (by decide +kernel) (m_cons (m_var 7) m_nil)) m_nil)))) m_int) (m_cons (m_var 8) m_nil)))))
    (mss_deep 40 7 (mss_cons (ms_set 9 nd_50 (m_disp true (mp_cons m_str (m_var 4) (mp_cons m_str (m_var 7) (mp_cons m_str m_dk (mp_cons m_str (m_lst false m_nil) mp_nil))))))
    (mss_cons (ms_for (passes_of rfl) rfl (mi_seq (m_var 7)) (mg_name 10 nd_50) (mss_one (ms_dput c.r0 (m_var 9) m_str (m_bin (k_add false) (m_ixA (k_ixA (c.dun .get) c.r1) (m_var 9) m_str) (m_ixA (k_ixA (c.dun .get) c.r1) (m_var 10) m_int)))))
    (mss_cons (ms_for (passes_of rfl) rfl (mi_seq (m_var 4)) (mg_name 11 nd_50) (mss_cons (ms_dput c.r0 (m_ixA (k_ixA (c.dun .get) c.r1) (m_var 9) m_str) (m_var 11) m_dk)
    (mss_one (ms_for (passes_of rfl) rfl (mi_seq (m_ixA (k_ixA (c.dun .get) c.r1) (m_var 9) m_str)) (mg_name 8 nd_50) (mss_one (ms_dput c.r0 (m_ixA (k_ixA (c.dun .get) c.r1) (m_ixA (k_ixA (c.dun .get) c.r1) (m_var 9) m_str) (m_var 11)) (m_var 8) (x_call c nm__law_sources (by rfl) hfn_49 (by rfl) (m_cons (m_var 0) (m_cons (m_var 9) (m_cons (m_var 8) (m_cons (m_var 3) m_nil)))))))))))
    (mss_one (ms_ret (m_deepO 40 (m_var 9)))))))))))))
theorem y_51 : BodyOk pd P w K mg base C k N_51 d_51 (b__law_mark_names C) := fun cdv A outer s H E c =>
    (mss_one (ms_ret (x_call c nm__law_some (by rfl) hfn_44 (by rfl) (m_cons (m_var 0) (m_cons (m_lst false (m_cons m_str (m_cons m_str (m_cons m_str (m_cons m_str (m_cons m_str (m_cons m_str (m_cons m_str m_nil)))))))) (m_cons (m_var 1) m_nil))))))
theorem y_52 : BodyOk pd P w K mg base C k N_52 d_52 (b__law_reads C) := fun cdv A outer s H E c =>
    (mss_cons (ms_set 2 nd_52 (m_callB (c_lenA (c.dun .len) c.r1) (by rfl) (c.free fr_len) (by decide +kernel) (m_cons (m_ixA (k_ixA (c.dun .get) c.r1) (m_var 1) m_str) m_nil)))
    (mss_cons (ms_set 3 nd_52 (x_call c nm__law_mark_names (by rfl) hfn_51 (by rfl) (m_cons (m_var 0) (m_cons m_int m_nil))))
    (mss_cons (ms_set 4 nd_52 (x_call c nm__law_pick (by rfl) hfn_43 (by rfl) (m_cons (m_var 0) (m_cons m_int m_nil))))
    (mss_cons (ms_dput c.r0 (m_var 1) m_str m_dt)
    (mss_cons (ms_dput c.r0 (m_var 1) m_str (m_ixA (k_ixA (c.dun .get) c.r1) (m_lst false (m_cons (m_lst false (m_cons (m_ixA (k_ixA (c.dun .get) c.r1) (m_var 3) m_int) (m_cons (m_ixA (k_ixA (c.dun .get) c.r1) (m_var 3) m_int) m_nil))) (m_cons (m_lst false (m_cons (m_ixA (k_ixA (c.dun .get) c.r1) (m_var 3) m_int) m_nil)) (m_cons (m_var 3) (m_cons (m_var 3) m_nil))))) (m_var 4)))
    (mss_cons (ms_dput c.r0 (m_var 1) m_str (m_lcF (own := [("_law_k", 5)]) rfl nd_52 (mi_rng1 (by rfl) (c.free fr_range) (m_var 2)) (blkOk_by (own := [("_law_k", 5)]) (N := N_52) (sc := (He.DefD.scope d_52)) (by decide +kernel)) (by decide) (fun _ _ _ _ _ => (mg_name 5 nd_52)) (fun _ _ _ _ _ => mts_nil) (fun _ _ _ _ _ => (m_lst false (m_cons (m_ixA (k_ixA (c.blk.dun .get) c.blk.r1) (m_var 3) (m_ife (mt_cmp (k_eq (c.blk.dun .eq) c.blk.r0) (m_var 4) m_int) (m_callB (c_min rfl) (by rfl) (c.blk.free fr_min) (by decide +kernel) (m_cons (m_var 5) (m_cons m_int m_nil))) m_int)) m_nil)))))
    (mss_cons (ms_dput c.r0 (m_var 1) m_str (m_lcF (own := [("_law_k", 5)]) rfl nd_52 (mi_rng1 (by rfl) (c.free fr_range) (m_var 2)) (blkOk_by (own := [("_law_k", 5)]) (N := N_52) (sc := (He.DefD.scope d_52)) (by decide +kernel)) (by decide) (fun _ _ _ _ _ => (mg_name 5 nd_52)) (fun _ _ _ _ _ => mts_nil) (fun _ _ _ _ _ => (m_ixA (k_ixA (c.blk.dun .get) c.blk.r1) (m_lst false (m_cons (m_lst false (m_cons (m_ixA (k_ixA (c.blk.dun .get) c.blk.r1) (m_var 3) m_int) m_nil)) (m_cons (m_lst false (m_cons (m_ixA (k_ixA (c.blk.dun .get) c.blk.r1) (m_var 3) m_int) m_nil)) (m_cons (m_lst false (m_cons (m_ixA (k_ixA (c.blk.dun .get) c.blk.r1) (m_var 3) m_int) m_nil)) (m_cons (m_lst false (m_cons (m_ixA (k_ixA (c.blk.dun .get) c.blk.r1) (m_var 3) (m_callB (c_min rfl) (by rfl) (c.blk.free fr_min) (by decide +kernel) (m_cons (m_bin (k_add false) (m_var 5) m_int) (m_cons m_int m_nil)))) m_nil)) m_nil))))) (m_var 4)))))
    (mss_cons (ms_if (mt_of (mw_and (mt_cmp (k_eq (c.dun .eq) c.r0) (m_var 2) m_int) (mw_and1 (mt_cmp (k_eq (c.dun .eq) c.r0) (m_var 4) m_int)))) (mss_one (ms_dput c.r0 (m_var 1) m_str (m_lst false (m_cons (m_lst false (m_cons (m_ixA (k_ixA (c.dun .get) c.r1) (m_var 3) m_int) (m_cons (m_ixA (k_ixA (c.dun .get) c.r1) (m_var 3) m_int) m_nil))) m_nil)))) mss_nil)
    (mss_one (ms_if (mt_of (mw_and (mt_cmp (k_eq (c.dun .eq) c.r0) (m_var 2) m_int) (mw_and1 (mt_cmp (k_eq (c.dun .eq) c.r0) (m_var 4) m_int)))) (mss_one (ms_dput c.r0 (m_var 1) m_str (m_lst false (m_cons (m_lst false (m_cons (m_ixA (k_ixA (c.dun .get) c.r1) (m_var 3) m_int) (m_cons (m_ixA (k_ixA (c.dun .get) c.r1) (m_var 3) m_int) m_nil))) m_nil)))) mss_nil))))))))))
theorem y_53 : BodyOk pd P w K mg base C k N_53 d_53 (b__law_made_engine C) := fun cdv A outer s H E c =>
    (mss_one (ms_ret (m_deepO 40 (x_mk c cl_Engine nm_Engine___init__ (by rfl) hcd_0 (by rfl) (by rfl) hfn_5 (m_cons (m_callTy (c_list false (c.dun .len) c.itT rfl c.room) (by rfl) (c.free fr_list) (by decide +kernel) (m_cons (m_ixA (k_ixA (c.dun .get) c.r1) (m_var 0) m_str) m_nil)) (m_cons (m_lcF (own := [("_law_row", 1)]) rfl nd_53 (mi_seq (m_ixA (k_ixA (c.dun .get) c.r1) (m_var 0) m_str)) (blkOk_by (own := [("_law_row", 1)]) (N := N_53) (sc := (He.DefD.scope d_53)) (by decide +kernel)) (by decide) (fun _ _ _ _ _ => (mg_name 1 nd_53)) (fun _ _ _ _ _ => mts_nil) (fun _ _ _ _ _ => (m_tup (m_cons (m_ixA (k_ixA (c.blk.dun .get) c.blk.r1) (m_var 1) m_int) (m_cons (m_callTy (c_list false (c.blk.dun .len) c.blk.itT rfl c.blk.room) (by rfl) (c.blk.free fr_list) (by decide +kernel) (m_cons (m_ixA (k_ixA (c.blk.dun .get) c.blk.r1) (m_var 1) m_int) m_nil)) m_nil))))) (m_cons (m_ixA (k_ixA (c.dun .get) c.r1) (m_var 0) m_str) m_nil)))))))
theorem y_54 : BodyOk pd P w K mg base C k N_54 d_54 (b__law_made C) := fun cdv A outer s H E c =>
    (mss_cons (ms_lcF (own := [("_law_k", 2)]) 1 rfl nd_54 (sw_true rfl rfl rfl (by decide +kernel)) (mi_rng1 (by rfl) (c.free fr_range) (m_callB (c_lenA (c.dun .len) c.r1) (by rfl) (c.free fr_len) (by decide +kernel) (m_cons (m_ixA (k_ixA (c.dun .get) c.r1) (m_var 0) m_str) m_nil))) (blkOk_by (own := [("_law_k", 2)]) (N := N_54) (sc := (He.DefD.scope d_54)) (by decide +kernel)) (by decide) (fun _ _ _ _ _ => (mg_name 2 nd_54)) (fun _ _ _ _ _ => mts_nil) (fun _ _ _ _ _ => (m_tup (m_cons (m_callTy (c_list false (c.blk.dun .len) c.blk.itT rfl c.blk.room) (by rfl) (c.blk.free fr_list) (by decide +kernel) (m_cons (m_ixA (k_ixA (c.blk.dun .get) c.blk.r1) (m_ixA (k_ixA (c.blk.dun .get) c.blk.r1) (m_var 0) m_str) (m_var 2)) m_nil)) (m_cons (m_callTy (c_list false (c.blk.dun .len) c.blk.itT rfl c.blk.room) (by rfl) (c.blk.free fr_list) (by decide +kernel) (m_cons (m_ixA (k_ixA (c.blk.dun .get) c.blk.r1) (m_ixA (k_ixA (c.blk.dun .get) c.blk.r1) (m_var 0) m_str) (m_var 2)) m_nil)) m_nil)))))
    (mss_cons (ms_set 3 nd_54 (x_mk c cl_Book nm_Book___init__ (by rfl) hcd_2 (by rfl) (by rfl) hfn_25 (m_cons (x_call c nm__law_made_engine (by rfl) hfn_53 (by rfl) (m_cons (m_var 0) m_nil)) (m_cons (m_callTy (c_list false (c.dun .len) c.itT rfl c.room) (by rfl) (c.free fr_list) (by decide +kernel) (m_cons (m_ixA (k_ixA (c.dun .get) c.r1) (m_var 0) m_str) m_nil)) (m_cons (m_var 1) m_nil)))))
    (mss_cons (ms_forD (passes_of rfl) rfl (m_ixA (k_ixA (c.dun .get) c.r1) (m_var 0) m_str) (mg_name 4 nd_54) (mss_trim [4, 5] (mss_one (ms_for (passes_of rfl) rfl (mi_seq (m_ixA (k_ixA (c.dun .get) c.r1) (m_ixA (k_ixA (c.dun .get) c.r1) (m_var 0) m_str) (m_var 4))) (mg_name 5 nd_54) (mss_trim [5] (mss_one (ms_own (c.dun .set) c.r0 (m_var 3) (m_tup (m_cons (m_ixA (k_ixA (c.dun .get) c.r1) (m_var 4) m_int) (m_cons (m_ixA (k_ixA (c.dun .get) c.r1) (m_var 4) m_int) (m_cons (m_ixA (k_ixA (c.dun .get) c.r1) (m_var 4) m_int) m_nil)))) (m_bin (k_or (c.dun .or) c.r0) (m_ixA (k_ixA (c.dun .get) c.r1) (m_var 3) (m_tup (m_cons (m_ixA (k_ixA (c.dun .get) c.r1) (m_var 4) m_int) (m_cons (m_ixA (k_ixA (c.dun .get) c.r1) (m_var 4) m_int) (m_cons (m_ixA (k_ixA (c.dun .get) c.r1) (m_var 4) m_int) m_nil))))) (x_mk c cl_Marks nm_Marks___init__ (by rfl) hcd_1 (by rfl) (by rfl) hfn_15 (m_cons (m_var 5) m_nil))))))))))
    (mss_one (ms_ret (m_var 3))))))
theorem y_55 : BodyOk pd P w K mg base C k N_55 d_55 (b__law_add C) := fun cdv A outer s H E c =>
    (mss_cons (ms_set 5 nd_55 (m_get2 c.r0 (m_ixA (k_ixA (c.dun .get) c.r1) (m_var 0) m_str) (m_tup (m_cons (m_var 1) (m_cons (m_var 2) (m_cons (m_var 3) m_nil)))) (m_lst false m_nil)))
    (mss_one (ms_dput c.r0 (m_ixA (k_ixA (c.dun .get) c.r1) (m_var 0) m_str) (m_tup (m_cons (m_var 1) (m_cons (m_var 2) (m_cons (m_var 3) m_nil)))) (m_bin (k_add false) (m_var 5) (m_lcF (own := [("_law_mark", 6)]) rfl nd_55 (mi_seq (m_var 4)) (blkOk_by (own := [("_law_mark", 6)]) (N := N_55) (sc := (He.DefD.scope d_55)) (by decide +kernel)) (by decide) (fun _ _ _ _ _ => (mg_name 6 nd_55)) (fun _ _ _ _ _ => (mts_one (mt_cmp (k_notinA (c.blk.dun .has) c.blk.r0) (m_var 6) (m_var 5)))) (fun _ _ _ _ _ => (m_var 6)))))))
theorem y_56 : BodyOk pd P w K mg base C k N_56 d_56 (b__law_ways C) := fun cdv A outer s H E c =>
    (mss_one (ms_ret (m_lcF (own := [("_law_mark", 1)]) rfl nd_56 (mi_seq (m_ixA (k_ixA (c.dun .get) c.r1) (m_var 0) m_str)) (blkOk_by (own := [("_law_mark", 1)]) (N := N_56) (sc := (He.DefD.scope d_56)) (by decide +kernel)) (by decide) (fun _ _ _ _ _ => (mg_name 1 nd_56)) (fun _ _ _ _ _ => (mts_one (mt_cmp k_gt (m_callB (c_lenA (c.blk.dun .len) c.blk.r1) (by rfl) (c.blk.free fr_len) (by decide +kernel) (m_cons (m_lcF (own := [("_law_one_here", 2)]) rfl nd_56 (mi_seq (m_ixA (k_ixA (c.blk.dun .get) c.blk.r1) (m_var 0) m_str)) (blkOk_by (own := [("_law_one_here", 2)]) (N := N_56) (sc := nsc_c1__law_ways) (by decide +kernel)) (by decide) (fun _ _ _ _ _ => (mg_name 2 nd_56)) (fun _ _ _ _ _ => (mts_one (mt_cmp (k_inA (c.blk.blk.dun .has) c.blk.blk.r0) (m_var 1) (m_var 2)))) (fun _ _ _ _ _ => (m_var 2))) m_nil)) m_int))) (fun _ _ _ _ _ => (m_var 1)))))
theorem y_57 : BodyOk pd P w K mg base C k N_57 d_57 (b__law_natural_source C) := fun cdv A outer s H E c =>
    (mss_cons (ms_for (passes_of rfl) rfl (mi_seq (m_get2 c.r0 (m_disp false (mp_cons m_str (m_lst false (m_cons m_str m_nil)) (mp_cons m_str (m_lst false (m_cons m_str m_nil)) mp_nil))) (m_ixA (k_ixA (c.dun .get) c.r1) (m_var 3) m_int) (m_lst false m_nil))) (mg_name 5 nd_57) (mss_trim [5, 6] (mss_one (ms_for (passes_of rfl) rfl (mi_seq (m_lst false (m_cons m_str (m_cons m_str (m_cons m_str (m_cons (m_ixA (k_ixA (c.dun .get) c.r1) (m_var 3) m_int) m_nil)))))) (mg_name 6 nd_57) (mss_trim [6] (mss_one (ms_expr (x_call c nm__law_add (by rfl) hfn_55 (by rfl) (m_cons (m_var 0) (m_cons (m_var 1) (m_cons (m_var 6) (m_cons (m_var 5) (m_cons (m_var 4) m_nil)))))))))))))
    (mss_cons (ms_if (mt_cmp (k_eq (c.dun .eq) c.r0) (m_ixA (k_ixA (c.dun .get) c.r1) (m_var 3) m_int) m_str) (mss_cons (ms_expr (x_call c nm__law_add (by rfl) hfn_55 (by rfl) (m_cons (m_var 0) (m_cons (m_var 1) (m_cons (m_ixA (k_ixA (c.dun .get) c.r1) (m_var 3) m_int) (m_cons m_str (m_cons (m_var 4) m_nil)))))))
    (mss_one (ms_expr (x_call c nm__law_add (by rfl) hfn_55 (by rfl) (m_cons (m_var 0) (m_cons (m_var 1) (m_cons (m_ixA (k_ixA (c.dun .get) c.r1) (m_var 3) m_int) (m_cons m_str (m_cons (x_call c nm__law_ways (by rfl) hfn_56 (by rfl) (m_cons (m_var 0) m_nil)) m_nil))))))))) mss_nil)
    (mss_cons (ms_set 7 nd_57 (m_disp false (mp_cons m_str (m_lst false (m_cons m_str (m_cons m_str m_nil))) (mp_cons m_str (m_lst false (m_cons (m_ixA (k_ixA (c.dun .get) c.r1) (m_var 3) (m_neg m_int)) (m_cons m_str m_nil))) (mp_cons m_str (m_lst false (m_cons m_str m_nil)) mp_nil)))))
    (mss_one (ms_for (passes_of rfl) rfl (mi_seq (m_get2 c.r0 (m_var 7) (m_ixA (k_ixA (c.dun .get) c.r1) (m_var 3) m_int) (m_lst false (m_cons m_str (m_cons m_str m_nil))))) (mg_name 6 nd_57) (mss_trim [6] (mss_one (ms_if (mt_tru (m_var 2)) (mss_one (ms_expr (x_call c nm__law_add (by rfl) hfn_55 (by rfl) (m_cons (m_var 0) (m_cons (m_var 1) (m_cons (m_var 6) (m_cons m_str (m_cons (m_var 4) m_nil)))))))) mss_nil))))))))
theorem y_58 : BodyOk pd P w K mg base C k N_58 d_58 (b__law_natural C) := fun cdv A outer s H E c =>
    (mss_one (ms_for (passes_of rfl) rfl (mi_seq (m_ixA (k_ixA (c.dun .get) c.r1) (m_var 0) m_str)) (mg_name 1 nd_58) (mss_trim [1, 2, 3, 4, 5, 6] (mss_cons (ms_for (passes_of rfl) rfl (mi_seq (m_lst false (m_cons m_str (m_cons m_str (m_cons m_str (m_cons m_str m_nil)))))) (mg_name 2 nd_58) (mss_trim [2] (mss_one (ms_expr (x_call c nm__law_add (by rfl) hfn_55 (by rfl) (m_cons (m_var 0) (m_cons (m_var 1) (m_cons (m_var 2) (m_cons m_str (m_cons (x_call c nm__law_ways (by rfl) hfn_56 (by rfl) (m_cons (m_var 0) m_nil)) m_nil))))))))))
    (mss_one (ms_for (passes_of rfl) rfl (mi_seq (m_ixA (k_ixA (c.dun .get) c.r1) (m_var 0) m_str)) (mg_name 3 nd_58) (mss_trim [3, 4, 5, 6] (mss_one (ms_for (passes_of rfl) rfl (mi_seq (m_ixA (k_ixA (c.dun .get) c.r1) (m_var 0) m_str)) (mg_name 4 nd_58) (mss_trim [4, 5, 6] (mss_cons (ms_set 5 nd_58 (m_ixA (k_ixA (c.dun .get) c.r1) (m_ixA (k_ixA (c.dun .get) c.r1) (m_var 0) m_str) (x_call c nm__law_turn (by rfl) hfn_47 (by rfl) (m_cons (m_var 0) (m_cons (m_var 4) m_nil)))))
    (mss_one (ms_for (passes_of rfl) rfl (mi_seq (m_ixA (k_ixA (c.dun .get) c.r1) (m_ixA (k_ixA (c.dun .get) c.r1) (m_ixA (k_ixA (c.dun .get) c.r1) (m_var 0) m_str) (m_var 3)) (m_var 4))) (mg_name 6 nd_58) (mss_trim [6] (mss_one (ms_expr (x_call c nm__law_natural_source (by rfl) hfn_57 (by rfl) (m_cons (m_var 0) (m_cons (m_var 1) (m_cons (m_cmp (k_eq (c.dun .eq) c.r0) (m_var 3) (m_var 1)) (m_cons (m_split (m_var 6) m_str) (m_cons (m_var 5) m_nil))))))))))))))))))))))
theorem y_59 : BodyOk pd P w K mg base C k N_59 d_59 (b__law_places C) := fun cdv A outer s H E c =>
    (mss_cons (ms_set 1 nd_59 (m_disp true (mp_cons m_str (m_lst false (m_cons m_str (m_cons m_str (m_cons m_str (m_cons m_str m_nil))))) (mp_cons m_str (m_lst false (m_cons m_str (m_cons m_str (m_cons m_str m_nil)))) mp_nil))))
    (mss_cons (ms_dput c.r0 (m_var 1) m_str (m_ixA (k_ixA (c.dun .get) c.r1) (m_var 1) m_str))
    (mss_cons (ms_dput c.r0 (m_var 1) m_str (m_ixA (k_ixA (c.dun .get) c.r1) (m_var 1) m_str))
    (mss_one (ms_ret (m_get2 c.r0 (m_var 1) (m_var 0) (m_lst false (m_cons m_str (m_cons m_str (m_cons m_str (m_cons m_str m_nil)))))))))))
theorem y_60 : BodyOk pd P w K mg base C k N_60 d_60 (b__law_any_atom C) := fun cdv A outer s H E c =>
    (mss_cons (ms_set 2 nd_60 (x_call c nm__law_one (by rfl) hfn_46 (by rfl) (m_cons (m_var 0) (m_cons (m_bin (k_add false) (m_lst false (m_cons m_str (m_cons m_str (m_cons m_str (m_cons m_str m_nil))))) (m_ixA (k_ixA (c.dun .get) c.r1) (m_var 1) m_str)) m_nil))))
    (mss_cons (ms_set 3 nd_60 (x_call c nm__law_one (by rfl) hfn_46 (by rfl) (m_cons (m_var 0) (m_cons (x_call c nm__law_places (by rfl) hfn_59 (by rfl) (m_cons (m_var 2) m_nil)) m_nil))))
    (mss_one (ms_ret (m_tup (m_cons (x_call c nm__law_one (by rfl) hfn_46 (by rfl) (m_cons (m_var 0) (m_cons (m_ixA (k_ixA (c.dun .get) c.r1) (m_var 1) m_str) m_nil))) (m_cons (m_var 2) (m_cons (m_var 3) (m_cons (x_call c nm__law_one (by rfl) hfn_46 (by rfl) (m_cons (m_var 0) (m_cons (m_ixA (k_ixA (c.dun .get) c.r1) (m_var 1) m_str) m_nil))) m_nil)))))))))
theorem y_61 : BodyOk pd P w K mg base C k N_61 d_61 (b__law_more C) := fun cdv A outer s H E c =>
    (mss_one (ms_for (passes_of rfl) rfl (mi_rng1 (by rfl) (c.free fr_range) (m_var 2)) (mg_name 3 nd_61) (mss_trim [3, 4] (mss_cons (ms_set 4 nd_61 (x_call c nm__law_any_atom (by rfl) hfn_60 (by rfl) (m_cons (m_var 0) (m_cons (m_var 1) m_nil))))
    (mss_one (ms_expr (x_call c nm__law_add (by rfl) hfn_55 (by rfl) (m_cons (m_var 1) (m_cons (m_ixA (k_ixA (c.dun .get) c.r1) (m_var 4) m_int) (m_cons (m_ixA (k_ixA (c.dun .get) c.r1) (m_var 4) m_int) (m_cons (m_ixA (k_ixA (c.dun .get) c.r1) (m_var 4) m_int) (m_cons (m_lst false (m_cons (m_ixA (k_ixA (c.dun .get) c.r1) (m_var 4) m_int) m_nil)) m_nil))))))))))))
theorem y_62 : BodyOk pd P w K mg base C k N_62 d_62 (b__law_fence C) := fun cdv A outer s H E c =>
    (mss_cons (ms_set 2 nd_62 (x_call c nm__law_ways (by rfl) hfn_56 (by rfl) (m_cons (m_var 1) m_nil)))
    (mss_cons (ms_lcF (own := [("_law_mark", 4)]) 3 rfl nd_62 (sw_true rfl rfl rfl (by decide +kernel)) (mi_seq (m_ixA (k_ixA (c.dun .get) c.r1) (m_var 1) m_str)) (blkOk_by (own := [("_law_mark", 4)]) (N := N_62) (sc := (He.DefD.scope d_62)) (by decide +kernel)) (by decide) (fun _ _ _ _ _ => (mg_name 4 nd_62)) (fun _ _ _ _ _ => (mts_one (mt_cmp (k_notinA (c.blk.dun .has) c.blk.r0) (m_var 4) (m_var 2)))) (fun _ _ _ _ _ => (m_var 4)))
    (mss_one (ms_if (mt_trim (mt_of (mw_and (mt_cmp k_gt (m_callB (c_lenA (c.dun .len) c.r1) (by rfl) (c.free fr_len) (by decide +kernel) (m_cons (m_var 3) m_nil)) m_int) (mw_and1 (mt_cmp (k_eq (c.dun .eq) c.r0) (x_call c nm__law_pick (by rfl) hfn_43 (by rfl) (m_cons (m_var 0) (m_cons m_int m_nil))) m_int))))) (mss_one (ms_expr (x_call c nm__law_add (by rfl) hfn_55 (by rfl) (m_cons (m_var 1) (m_cons (x_call c nm__law_one (by rfl) hfn_46 (by rfl) (m_cons (m_var 0) (m_cons (m_ixA (k_ixA (c.dun .get) c.r1) (m_var 1) m_str) m_nil))) (m_cons m_str (m_cons m_str (m_cons (m_lst false (m_cons (x_call c nm__law_one (by rfl) hfn_46 (by rfl) (m_cons (m_var 0) (m_cons (m_var 3) m_nil))) m_nil)) m_nil)))))))) mss_nil))))
theorem y_63 : BodyOk pd P w K mg base C k N_63 d_63 (b__law_atoms C) := fun cdv A outer s H E c =>
    (mss_cons (ms_set 1 nd_63 (m_lst true m_nil))
    (mss_cons (ms_for (passes_of rfl) rfl (mi_seq (m_ixA (k_ixA (c.dun .get) c.r1) (m_var 0) m_str)) (mg_name 2 nd_63) (mss_trim [2, 3, 4, 5] (mss_one (ms_for (passes_of rfl) rfl (mi_seq (m_bin (k_add false) (m_lst false (m_cons m_str (m_cons m_str (m_cons m_str (m_cons m_str m_nil))))) (m_ixA (k_ixA (c.dun .get) c.r1) (m_var 0) m_str))) (mg_name 3 nd_63) (mss_trim [3, 4, 5] (mss_one (ms_for (passes_of rfl) rfl (mi_seq (x_call c nm__law_places (by rfl) hfn_59 (by rfl) (m_cons (m_var 3) m_nil))) (mg_name 4 nd_63) (mss_trim [4, 5] (mss_cons (ms_set 5 nd_63 (m_get2 c.r0 (m_ixA (k_ixA (c.dun .get) c.r1) (m_var 0) m_str) (m_tup (m_cons (m_var 2) (m_cons (m_var 3) (m_cons (m_var 4) m_nil)))) (m_lst false m_nil)))
    (mss_one (ms_expr (m_bm PySem.F.plainAttrs_list PySem.F.slot_list_extend PySem.F.type_list_extend ty_list mo_extend (m_var 1) (m_cons (m_lcF (own := [("_law_mark", 6)]) rfl nd_63 (mi_seq (m_ixA (k_ixA (c.dun .get) c.r1) (m_var 0) m_str)) (blkOk_by (own := [("_law_mark", 6)]) (N := N_63) (sc := (He.DefD.scope d_63)) (by decide +kernel)) (by decide) (fun _ _ _ _ _ => (mg_name 6 nd_63)) (fun _ _ _ _ _ => (mts_one (mt_cmp (k_inA (c.blk.dun .has) c.blk.r0) (m_var 6) (m_var 5)))) (fun _ _ _ _ _ => (m_tup (m_cons (m_var 2) (m_cons (m_var 3) (m_cons (m_var 4) (m_cons (m_var 6) m_nil))))))) m_nil)))))))))))))
    (mss_one (ms_ret (m_deep 1 (m_var 1))))))
theorem y_64 : BodyOk pd P w K mg base C k N_64 d_64 (b_law C) := fun cdv A outer s H E c =>
    (mss_cons (ms_set 1 nd_64 (x_call c nm__law_tape (by rfl) hfn_42 (by rfl) (m_cons (m_var 0) m_nil)))
    (mss_cons (ms_set 2 nd_64 (x_call c nm__law_engine (by rfl) hfn_50 (by rfl) (m_cons (m_var 1) (m_cons m_int (m_cons m_int (m_cons m_bl m_nil))))))
    (mss_cons (ms_expr (x_call c nm__law_reads (by rfl) hfn_52 (by rfl) (m_cons (m_var 1) (m_cons (m_var 2) m_nil))))
    (mss_deep 1 2 (mss_cons (ms_if (mt_trim (mt_cmp (k_ne c.r0) (x_meth0 c cl_Book nm_Book_atoms hcd_2 (by decide) hfn_35 (x_call c nm__law_made (by rfl) hfn_54 (by rfl) (m_cons (m_var 2) m_nil))) (m_lst false m_nil))) (mss_one (ms_ret m_bl)) mss_nil)
    (mss_cons (ms_if (mt_trim (mt_cmp (k_eq (c.dun .eq) c.r0) (x_call c nm__law_pick (by rfl) hfn_43 (by rfl) (m_cons (m_var 1) (m_cons m_int m_nil))) m_int)) (mss_one (ms_expr (x_call c nm__law_natural (by rfl) hfn_58 (by rfl) (m_cons (m_var 2) m_nil)))) mss_nil)
    (mss_cons (ms_expr (x_call c nm__law_more (by rfl) hfn_61 (by rfl) (m_cons (m_var 1) (m_cons (m_var 2) (m_cons (x_call c nm__law_pick (by rfl) hfn_43 (by rfl) (m_cons (m_var 1) (m_cons m_int m_nil))) m_nil)))))
    (mss_cons (ms_expr (x_call c nm__law_fence (by rfl) hfn_62 (by rfl) (m_cons (m_var 1) (m_cons (m_var 2) m_nil))))
    (mss_deep 40 2 (mss_cons (ms_set 3 nd_64 (x_call c nm__law_made (by rfl) hfn_54 (by rfl) (m_cons (m_var 2) m_nil)))
    (mss_cons (ms_set 4 nd_64 (x_meth0 c cl_Book nm_Book_atoms hcd_2 (by decide) hfn_35 (m_var 3)))
    (mss_cons (ms_if (mt_trim (mt_of (mw_or (mt_not (mt_tru (m_isT (T := "list") .list rfl rfl (by rfl) (c.free fr_isinstance) (by rfl) (c.free fr_list) (by decide +kernel) (m_var 4)))) (mw_or1 (mt_cmp (k_ne c.r0) (m_var 4) (x_call c nm__law_atoms (by rfl) hfn_63 (by rfl) (m_cons (m_var 2) m_nil))))))) (mss_one (ms_ret m_bl)) mss_nil)
    (mss_cons (ms_expr (m_append (m_var 4) (m_cons (m_tup (m_cons m_str (m_cons m_str (m_cons m_str (m_cons m_str m_nil))))) m_nil)))
    (mss_one (ms_ret (m_cmp (k_eq (c.dun .eq) c.r0) (x_meth0 c cl_Book nm_Book_atoms hcd_2 (by decide) hfn_35 (m_var 3)) (x_call c nm__law_atoms (by rfl) hfn_63 (by rfl) (m_cons (m_var 2) m_nil))))))))))))))))))
theorem ba_1 : ∀ (kV doc pm : Value) (an : Option Addr) (cdv ct : Value) (us : List Value), us.length = (["word"] : List Str).length → bindArgs (PySem.W.fnOf d_1.name d_1.qual d_1.params d_1.body d_1.scope .none kV doc pm an cdv ct) ⟨us, []⟩ = pure ((["word"] : List Str).zip us) := fun _ _ _ _ _ _ us hl => match us, hl with | [_], _ => rfl
theorem wa_1 (H : Hyp pd P w K mg base C k) : FnR P w K mg base (L2.CX P w) (k + 4) (He.fAd K (He.DefD.at_ d_1)) (spF (pd.cl K) K (trimF (some 0) (runF (["word"] : List Str).length N_1.length (b_is_name C)))) :=
  fn_trim _ (step_plain (i := 1) (d := d_1) (ps := ["word"]) H hfn_1 rfl rfl sc_1 ba_1 y_1)
theorem w_1 (H : Hyp pd P w K mg base C k) : FnR P w K mg base (L2.CX P w) (k + 4) (He.fAd K (He.DefD.at_ d_1)) (spF (pd.cl K) K (bod C 1)) := wa_1 H
theorem ba_2 : ∀ (kV doc pm : Value) (an : Option Addr) (cdv ct : Value) (us : List Value), us.length = (["words"] : List Str).length → bindArgs (PySem.W.fnOf d_2.name d_2.qual d_2.params d_2.body d_2.scope .none kV doc pm an cdv ct) ⟨us, []⟩ = pure ((["words"] : List Str).zip us) := fun _ _ _ _ _ _ us hl => match us, hl with | [_], _ => rfl
theorem wa_2 (H : Hyp pd P w K mg base C k) : FnR P w K mg base (L2.CX P w) (k + 4) (He.fAd K (He.DefD.at_ d_2)) (spF (pd.cl K) K (trimF (some 0) (runF (["words"] : List Str).length N_2.length (b_are_distinct C)))) :=
  fn_trim _ (step_plain (i := 2) (d := d_2) (ps := ["words"]) H hfn_2 rfl rfl sc_2 ba_2 y_2)
theorem w_2 (H : Hyp pd P w K mg base C k) : FnR P w K mg base (L2.CX P w) (k + 4) (He.fAd K (He.DefD.at_ d_2)) (spF (pd.cl K) K (bod C 2)) := wa_2 H
theorem ba_3 : ∀ (kV doc pm : Value) (an : Option Addr) (cdv ct : Value) (us : List Value), us.length = (["words", "most"] : List Str).length → bindArgs (PySem.W.fnOf d_3.name d_3.qual d_3.params d_3.body d_3.scope .none kV doc pm an cdv ct) ⟨us, []⟩ = pure ((["words", "most"] : List Str).zip us) := fun _ _ _ _ _ _ us hl => match us, hl with | [_, _], _ => rfl
theorem wa_3 (H : Hyp pd P w K mg base C k) : FnR P w K mg base (L2.CX P w) (k + 4) (He.fAd K (He.DefD.at_ d_3)) (spF (pd.cl K) K (trimF (some 0) (runF (["words", "most"] : List Str).length N_3.length (b_are_names C)))) :=
  fn_trim _ (step_plain (i := 3) (d := d_3) (ps := ["words", "most"]) H hfn_3 rfl rfl sc_3 ba_3 y_3)
theorem w_3 (H : Hyp pd P w K mg base C k) : FnR P w K mg base (L2.CX P w) (k + 4) (He.fAd K (He.DefD.at_ d_3)) (spF (pd.cl K) K (bod C 3)) := wa_3 H
theorem ba_4 : ∀ (kV doc pm : Value) (an : Option Addr) (cdv ct : Value) (us : List Value), us.length = (["source"] : List Str).length → bindArgs (PySem.W.fnOf d_4.name d_4.qual d_4.params d_4.body d_4.scope .none kV doc pm an cdv ct) ⟨us, []⟩ = pure ((["source"] : List Str).zip us) := fun _ _ _ _ _ _ us hl => match us, hl with | [_], _ => rfl
theorem wa_4 (H : Hyp pd P w K mg base C k) : FnR P w K mg base (L2.CX P w) (k + 4) (He.fAd K (He.DefD.at_ d_4)) (spF (pd.cl K) K (trimF (some 0) (runF (["source"] : List Str).length N_4.length (b_split_source C)))) :=
  fn_trim _ (step_plain (i := 4) (d := d_4) (ps := ["source"]) H hfn_4 rfl rfl sc_4 ba_4 y_4)
theorem w_4 (H : Hyp pd P w K mg base C k) : FnR P w K mg base (L2.CX P w) (k + 4) (He.fAd K (He.DefD.at_ d_4)) (spF (pd.cl K) K (bod C 4)) := wa_4 H
theorem ba_5 : ∀ (kV doc pm : Value) (an : Option Addr) (cdv ct : Value) (us : List Value), us.length = (["self", "kinds", "passes", "sources"] : List Str).length → bindArgs (PySem.W.fnOf d_5.name d_5.qual d_5.params d_5.body d_5.scope .none kV doc pm an cdv ct) ⟨us, []⟩ = pure ((["self", "kinds", "passes", "sources"] : List Str).zip us) := fun _ _ _ _ _ _ us hl => match us, hl with | [_, _, _, _], _ => rfl
theorem wa_5 (H : Hyp pd P w K mg base C k) : FnR P w K mg base (L2.CX P w) (k + 4) (He.fAd K (He.DefD.at_ d_5)) (spF (pd.cl K) K (trimF (some 1) (runF (["self", "kinds", "passes", "sources"] : List Str).length N_5.length (b_Engine___init__ C)))) :=
  fn_trim _ (step_plain (i := 5) (d := d_5) (ps := ["self", "kinds", "passes", "sources"]) H hfn_5 rfl rfl sc_5 ba_5 y_5)
theorem w_5 (H : Hyp pd P w K mg base C k) : FnR P w K mg base (L2.CX P w) (k + 4) (He.fAd K (He.DefD.at_ d_5)) (spF (pd.cl K) K (bod C 5)) := wa_5 H
theorem ba_6 : ∀ (kV doc pm : Value) (an : Option Addr) (cdv ct : Value) (us : List Value), us.length = (["self", "sources"] : List Str).length → bindArgs (PySem.W.fnOf d_6.name d_6.qual d_6.params d_6.body d_6.scope .none kV doc pm an cdv ct) ⟨us, []⟩ = pure ((["self", "sources"] : List Str).zip us) := fun _ _ _ _ _ _ us hl => match us, hl with | [_, _], _ => rfl
theorem wa_6 (H : Hyp pd P w K mg base C k) : FnR P w K mg base (L2.CX P w) (k + 4) (He.fAd K (He.DefD.at_ d_6)) (spF (pd.cl K) K (trimF (some 0) (runF (["self", "sources"] : List Str).length N_6.length (b_Engine_checked C)))) :=
  fn_trim _ (step_plain (i := 6) (d := d_6) (ps := ["self", "sources"]) H hfn_6 rfl rfl sc_6 ba_6 y_6)
theorem w_6 (H : Hyp pd P w K mg base C k) : FnR P w K mg base (L2.CX P w) (k + 4) (He.fAd K (He.DefD.at_ d_6)) (spF (pd.cl K) K (bod C 6)) := wa_6 H
theorem ba_8 : ∀ (kV doc pm : Value) (an : Option Addr) (cdv ct : Value) (us : List Value), us.length = (["self", "at"] : List Str).length → bindArgs (PySem.W.fnOf d_8.name d_8.qual d_8.params d_8.body d_8.scope .none kV doc pm an cdv ct) ⟨us, []⟩ = pure ((["self", "at"] : List Str).zip us) := fun _ _ _ _ _ _ us hl => match us, hl with | [_, _], _ => rfl
theorem wa_8 (H : Hyp pd P w K mg base C k) : FnR P w K mg base (L2.CX P w) (k + 4) (He.fAd K (He.DefD.at_ d_8)) (spF (pd.cl K) K (trimF (some 0) (runF (["self", "at"] : List Str).length N_8.length (b_Engine___getitem__ C)))) :=
  fn_trim _ (step_plain (i := 8) (d := d_8) (ps := ["self", "at"]) H hfn_8 rfl rfl sc_8 ba_8 y_8)
theorem w_8 (H : Hyp pd P w K mg base C k) : FnR P w K mg base (L2.CX P w) (k + 4) (He.fAd K (He.DefD.at_ d_8)) (spF (pd.cl K) K (bod C 8)) := wa_8 H
theorem ba_15 : ∀ (kV doc pm : Value) (an : Option Addr) (cdv ct : Value) (us rest : List Value), us.length = (["self"] : List Str).length → bindArgs (PySem.W.fnOf d_15.name d_15.qual d_15.params d_15.body d_15.scope .none kV doc pm an cdv ct) ⟨us ++ rest, []⟩ = (newTuple rest >>= fun t => pure ((["self"] : List Str).zip us ++ [(("names" : Str), t)])) := fun _ _ _ _ _ _ us rest hl => match us, rest, hl with | [_], [], _ => rfl | [_], _ :: _, _ => rfl
theorem wa_15 (H : Hyp pd P w K mg base C k) : FnR P w K mg base (L2.CX P w) (k + 4) (He.fAd K (He.DefD.at_ d_15)) (spF (pd.cl K) K (trimF (some 0) (runS (["self"] : List Str).length N_15.length (b_Marks___init__ C)))) :=
  fn_trim _ (step_star (i := 15) (d := d_15) (ps := ["self"]) (pv := "names") H hfn_15 rfl rfl sc_15 ba_15 y_15)
theorem w_15 (H : Hyp pd P w K mg base C k) : FnR P w K mg base (L2.CX P w) (k + 4) (He.fAd K (He.DefD.at_ d_15)) (spF (pd.cl K) K (bod C 15)) := wa_15 H
theorem ba_16 : ∀ (kV doc pm : Value) (an : Option Addr) (cdv ct : Value) (us : List Value), us.length = (["self", "other"] : List Str).length → bindArgs (PySem.W.fnOf d_16.name d_16.qual d_16.params d_16.body d_16.scope .none kV doc pm an cdv ct) ⟨us, []⟩ = pure ((["self", "other"] : List Str).zip us) := fun _ _ _ _ _ _ us hl => match us, hl with | [_, _], _ => rfl
theorem wa_16 (H : Hyp pd P w K mg base C k) : FnR P w K mg base (L2.CX P w) (k + 4) (He.fAd K (He.DefD.at_ d_16)) (spF (pd.cl K) K (trimF (some 0) (runF (["self", "other"] : List Str).length N_16.length (b_Marks___eq__ C)))) :=
  fn_trim _ (step_plain (i := 16) (d := d_16) (ps := ["self", "other"]) H hfn_16 rfl rfl sc_16 ba_16 y_16)
theorem w_16 (H : Hyp pd P w K mg base C k) : FnR P w K mg base (L2.CX P w) (k + 4) (He.fAd K (He.DefD.at_ d_16)) (spF (pd.cl K) K (bod C 16)) := wa_16 H
theorem ba_17 : ∀ (kV doc pm : Value) (an : Option Addr) (cdv ct : Value) (us : List Value), us.length = (["self"] : List Str).length → bindArgs (PySem.W.fnOf d_17.name d_17.qual d_17.params d_17.body d_17.scope .none kV doc pm an cdv ct) ⟨us, []⟩ = pure ((["self"] : List Str).zip us) := fun _ _ _ _ _ _ us hl => match us, hl with | [_], _ => rfl
theorem wa_17 (H : Hyp pd P w K mg base C k) : FnR P w K mg base (L2.CX P w) (k + 4) (He.fAd K (He.DefD.at_ d_17)) (spF (pd.cl K) K (trimF (some 0) (runF (["self"] : List Str).length N_17.length (b_Marks___len__ C)))) :=
  fn_trim _ (step_plain (i := 17) (d := d_17) (ps := ["self"]) H hfn_17 rfl rfl sc_17 ba_17 y_17)
theorem w_17 (H : Hyp pd P w K mg base C k) : FnR P w K mg base (L2.CX P w) (k + 4) (He.fAd K (He.DefD.at_ d_17)) (spF (pd.cl K) K (bod C 17)) := wa_17 H
theorem ba_19 : ∀ (kV doc pm : Value) (an : Option Addr) (cdv ct : Value) (us : List Value), us.length = (["self", "name"] : List Str).length → bindArgs (PySem.W.fnOf d_19.name d_19.qual d_19.params d_19.body d_19.scope .none kV doc pm an cdv ct) ⟨us, []⟩ = pure ((["self", "name"] : List Str).zip us) := fun _ _ _ _ _ _ us hl => match us, hl with | [_, _], _ => rfl
theorem wa_19 (H : Hyp pd P w K mg base C k) : FnR P w K mg base (L2.CX P w) (k + 4) (He.fAd K (He.DefD.at_ d_19)) (spF (pd.cl K) K (trimF (some 0) (runF (["self", "name"] : List Str).length N_19.length (b_Marks___contains__ C)))) :=
  fn_trim _ (step_plain (i := 19) (d := d_19) (ps := ["self", "name"]) H hfn_19 rfl rfl sc_19 ba_19 y_19)
theorem w_19 (H : Hyp pd P w K mg base C k) : FnR P w K mg base (L2.CX P w) (k + 4) (He.fAd K (He.DefD.at_ d_19)) (spF (pd.cl K) K (bod C 19)) := wa_19 H
theorem ba_20 : ∀ (kV doc pm : Value) (an : Option Addr) (cdv ct : Value) (us : List Value), us.length = (["self", "other"] : List Str).length → bindArgs (PySem.W.fnOf d_20.name d_20.qual d_20.params d_20.body d_20.scope .none kV doc pm an cdv ct) ⟨us, []⟩ = pure ((["self", "other"] : List Str).zip us) := fun _ _ _ _ _ _ us hl => match us, hl with | [_, _], _ => rfl
theorem wa_20 (H : Hyp pd P w K mg base C k) : FnR P w K mg base (L2.CX P w) (k + 4) (He.fAd K (He.DefD.at_ d_20)) (spF (pd.cl K) K (trimF (some 0) (runF (["self", "other"] : List Str).length N_20.length (b_Marks___or__ C)))) :=
  fn_trim _ (step_plain (i := 20) (d := d_20) (ps := ["self", "other"]) H hfn_20 rfl rfl sc_20 ba_20 y_20)
theorem w_20 (H : Hyp pd P w K mg base C k) : FnR P w K mg base (L2.CX P w) (k + 4) (He.fAd K (He.DefD.at_ d_20)) (spF (pd.cl K) K (bod C 20)) := wa_20 H
theorem ba_21 : ∀ (kV doc pm : Value) (an : Option Addr) (cdv ct : Value) (us : List Value), us.length = (["self", "other"] : List Str).length → bindArgs (PySem.W.fnOf d_21.name d_21.qual d_21.params d_21.body d_21.scope .none kV doc pm an cdv ct) ⟨us, []⟩ = pure ((["self", "other"] : List Str).zip us) := fun _ _ _ _ _ _ us hl => match us, hl with | [_, _], _ => rfl
theorem wa_21 (H : Hyp pd P w K mg base C k) : FnR P w K mg base (L2.CX P w) (k + 4) (He.fAd K (He.DefD.at_ d_21)) (spF (pd.cl K) K (trimF (some 0) (runF (["self", "other"] : List Str).length N_21.length (b_Marks___and__ C)))) :=
  fn_trim _ (step_plain (i := 21) (d := d_21) (ps := ["self", "other"]) H hfn_21 rfl rfl sc_21 ba_21 y_21)
theorem w_21 (H : Hyp pd P w K mg base C k) : FnR P w K mg base (L2.CX P w) (k + 4) (He.fAd K (He.DefD.at_ d_21)) (spF (pd.cl K) K (bod C 21)) := wa_21 H
theorem ba_22 : ∀ (kV doc pm : Value) (an : Option Addr) (cdv ct : Value) (us : List Value), us.length = (["self", "other"] : List Str).length → bindArgs (PySem.W.fnOf d_22.name d_22.qual d_22.params d_22.body d_22.scope .none kV doc pm an cdv ct) ⟨us, []⟩ = pure ((["self", "other"] : List Str).zip us) := fun _ _ _ _ _ _ us hl => match us, hl with | [_, _], _ => rfl
theorem wa_22 (H : Hyp pd P w K mg base C k) : FnR P w K mg base (L2.CX P w) (k + 4) (He.fAd K (He.DefD.at_ d_22)) (spF (pd.cl K) K (trimF (some 0) (runF (["self", "other"] : List Str).length N_22.length (b_Marks___sub__ C)))) :=
  fn_trim _ (step_plain (i := 22) (d := d_22) (ps := ["self", "other"]) H hfn_22 rfl rfl sc_22 ba_22 y_22)
theorem w_22 (H : Hyp pd P w K mg base C k) : FnR P w K mg base (L2.CX P w) (k + 4) (He.fAd K (He.DefD.at_ d_22)) (spF (pd.cl K) K (bod C 22)) := wa_22 H
theorem ba_23 : ∀ (kV doc pm : Value) (an : Option Addr) (cdv ct : Value) (us : List Value), us.length = (["self", "other"] : List Str).length → bindArgs (PySem.W.fnOf d_23.name d_23.qual d_23.params d_23.body d_23.scope .none kV doc pm an cdv ct) ⟨us, []⟩ = pure ((["self", "other"] : List Str).zip us) := fun _ _ _ _ _ _ us hl => match us, hl with | [_, _], _ => rfl
theorem wa_23 (H : Hyp pd P w K mg base C k) : FnR P w K mg base (L2.CX P w) (k + 4) (He.fAd K (He.DefD.at_ d_23)) (spF (pd.cl K) K (trimF (some 0) (runF (["self", "other"] : List Str).length N_23.length (b_Marks___le__ C)))) :=
  fn_trim _ (step_plain (i := 23) (d := d_23) (ps := ["self", "other"]) H hfn_23 rfl rfl sc_23 ba_23 y_23)
theorem w_23 (H : Hyp pd P w K mg base C k) : FnR P w K mg base (L2.CX P w) (k + 4) (He.fAd K (He.DefD.at_ d_23)) (spF (pd.cl K) K (bod C 23)) := wa_23 H
theorem ba_24 : ∀ (kV doc pm : Value) (an : Option Addr) (cdv ct : Value) (us : List Value), us.length = (["self", "other"] : List Str).length → bindArgs (PySem.W.fnOf d_24.name d_24.qual d_24.params d_24.body d_24.scope .none kV doc pm an cdv ct) ⟨us, []⟩ = pure ((["self", "other"] : List Str).zip us) := fun _ _ _ _ _ _ us hl => match us, hl with | [_, _], _ => rfl
theorem wa_24 (H : Hyp pd P w K mg base C k) : FnR P w K mg base (L2.CX P w) (k + 4) (He.fAd K (He.DefD.at_ d_24)) (spF (pd.cl K) K (trimF (some 0) (runF (["self", "other"] : List Str).length N_24.length (b_Marks___ior__ C)))) :=
  fn_trim _ (step_plain (i := 24) (d := d_24) (ps := ["self", "other"]) H hfn_24 rfl rfl sc_24 ba_24 y_24)
theorem w_24 (H : Hyp pd P w K mg base C k) : FnR P w K mg base (L2.CX P w) (k + 4) (He.fAd K (He.DefD.at_ d_24)) (spF (pd.cl K) K (bod C 24)) := wa_24 H
theorem ba_25 : ∀ (kV doc pm : Value) (an : Option Addr) (cdv ct : Value) (us : List Value), us.length = (["self", "engine", "marks", "reads"] : List Str).length → bindArgs (PySem.W.fnOf d_25.name d_25.qual d_25.params d_25.body d_25.scope .none kV doc pm an cdv ct) ⟨us, []⟩ = pure ((["self", "engine", "marks", "reads"] : List Str).zip us) := fun _ _ _ _ _ _ us hl => match us, hl with | [_, _, _, _], _ => rfl
theorem wa_25 (H : Hyp pd P w K mg base C k) : FnR P w K mg base (L2.CX P w) (k + 4) (He.fAd K (He.DefD.at_ d_25)) (spF (pd.cl K) K (trimF (some 1) (runF (["self", "engine", "marks", "reads"] : List Str).length N_25.length (b_Book___init__ C)))) :=
  fn_trim _ (step_plain (i := 25) (d := d_25) (ps := ["self", "engine", "marks", "reads"]) H hfn_25 rfl rfl sc_25 ba_25 y_25)
theorem w_25 (H : Hyp pd P w K mg base C k) : FnR P w K mg base (L2.CX P w) (k + 4) (He.fAd K (He.DefD.at_ d_25)) (spF (pd.cl K) K (bod C 25)) := wa_25 H
theorem ba_27 : ∀ (kV doc pm : Value) (an : Option Addr) (cdv ct : Value) (us : List Value), us.length = (["self", "event"] : List Str).length → bindArgs (PySem.W.fnOf d_27.name d_27.qual d_27.params d_27.body d_27.scope .none kV doc pm an cdv ct) ⟨us, []⟩ = pure ((["self", "event"] : List Str).zip us) := fun _ _ _ _ _ _ us hl => match us, hl with | [_, _], _ => rfl
theorem wa_27 (H : Hyp pd P w K mg base C k) : FnR P w K mg base (L2.CX P w) (k + 4) (He.fAd K (He.DefD.at_ d_27)) (spF (pd.cl K) K (trimF (some 0) (runF (["self", "event"] : List Str).length N_27.length (b_Book_places C)))) :=
  fn_trim _ (step_plain (i := 27) (d := d_27) (ps := ["self", "event"]) H hfn_27 rfl rfl sc_27 ba_27 y_27)
theorem w_27 (H : Hyp pd P w K mg base C k) : FnR P w K mg base (L2.CX P w) (k + 4) (He.fAd K (He.DefD.at_ d_27)) (spF (pd.cl K) K (bod C 27)) := wa_27 H
theorem ba_28 : ∀ (kV doc pm : Value) (an : Option Addr) (cdv ct : Value) (us : List Value), us.length = (["self", "at"] : List Str).length → bindArgs (PySem.W.fnOf d_28.name d_28.qual d_28.params d_28.body d_28.scope .none kV doc pm an cdv ct) ⟨us, []⟩ = pure ((["self", "at"] : List Str).zip us) := fun _ _ _ _ _ _ us hl => match us, hl with | [_, _], _ => rfl
theorem wa_28 (H : Hyp pd P w K mg base C k) : FnR P w K mg base (L2.CX P w) (k + 4) (He.fAd K (He.DefD.at_ d_28)) (spF (pd.cl K) K (trimF (some 0) (runF (["self", "at"] : List Str).length N_28.length (b_Book_has_rule C)))) :=
  fn_trim _ (step_plain (i := 28) (d := d_28) (ps := ["self", "at"]) H hfn_28 rfl rfl sc_28 ba_28 y_28)
theorem w_28 (H : Hyp pd P w K mg base C k) : FnR P w K mg base (L2.CX P w) (k + 4) (He.fAd K (He.DefD.at_ d_28)) (spF (pd.cl K) K (bod C 28)) := wa_28 H
theorem ba_29 : ∀ (kV doc pm : Value) (an : Option Addr) (cdv ct : Value) (us : List Value), us.length = (["self", "at"] : List Str).length → bindArgs (PySem.W.fnOf d_29.name d_29.qual d_29.params d_29.body d_29.scope .none kV doc pm an cdv ct) ⟨us, []⟩ = pure ((["self", "at"] : List Str).zip us) := fun _ _ _ _ _ _ us hl => match us, hl with | [_, _], _ => rfl
theorem wa_29 (H : Hyp pd P w K mg base C k) : FnR P w K mg base (L2.CX P w) (k + 4) (He.fAd K (He.DefD.at_ d_29)) (spF (pd.cl K) K (trimF (some 0) (runF (["self", "at"] : List Str).length N_29.length (b_Book___getitem__ C)))) :=
  fn_trim _ (step_plain (i := 29) (d := d_29) (ps := ["self", "at"]) H hfn_29 rfl rfl sc_29 ba_29 y_29)
theorem w_29 (H : Hyp pd P w K mg base C k) : FnR P w K mg base (L2.CX P w) (k + 4) (He.fAd K (He.DefD.at_ d_29)) (spF (pd.cl K) K (bod C 29)) := wa_29 H
theorem ba_30 : ∀ (kV doc pm : Value) (an : Option Addr) (cdv ct : Value) (us : List Value), us.length = (["self", "at", "worth"] : List Str).length → bindArgs (PySem.W.fnOf d_30.name d_30.qual d_30.params d_30.body d_30.scope .none kV doc pm an cdv ct) ⟨us, []⟩ = pure ((["self", "at", "worth"] : List Str).zip us) := fun _ _ _ _ _ _ us hl => match us, hl with | [_, _, _], _ => rfl
theorem wa_30 (H : Hyp pd P w K mg base C k) : FnR P w K mg base (L2.CX P w) (k + 4) (He.fAd K (He.DefD.at_ d_30)) (spF (pd.cl K) K (trimF (some 0) (runF (["self", "at", "worth"] : List Str).length N_30.length (b_Book___setitem__ C)))) :=
  fn_trim _ (step_plain (i := 30) (d := d_30) (ps := ["self", "at", "worth"]) H hfn_30 rfl rfl sc_30 ba_30 y_30)
theorem w_30 (H : Hyp pd P w K mg base C k) : FnR P w K mg base (L2.CX P w) (k + 4) (He.fAd K (He.DefD.at_ d_30)) (spF (pd.cl K) K (bod C 30)) := wa_30 H
theorem ba_31 : ∀ (kV doc pm : Value) (an : Option Addr) (cdv ct : Value) (us : List Value), us.length = (["self", "mark"] : List Str).length → bindArgs (PySem.W.fnOf d_31.name d_31.qual d_31.params d_31.body d_31.scope .none kV doc pm an cdv ct) ⟨us, []⟩ = pure ((["self", "mark"] : List Str).zip us) := fun _ _ _ _ _ _ us hl => match us, hl with | [_, _], _ => rfl
theorem wa_31 (H : Hyp pd P w K mg base C k) : FnR P w K mg base (L2.CX P w) (k + 4) (He.fAd K (He.DefD.at_ d_31)) (spF (pd.cl K) K (trimF (some 0) (runF (["self", "mark"] : List Str).length N_31.length (b_Book_is_way C)))) :=
  fn_trim _ (step_plain (i := 31) (d := d_31) (ps := ["self", "mark"]) H hfn_31 rfl rfl sc_31 ba_31 y_31)
theorem w_31 (H : Hyp pd P w K mg base C k) : FnR P w K mg base (L2.CX P w) (k + 4) (He.fAd K (He.DefD.at_ d_31)) (spF (pd.cl K) K (bod C 31)) := wa_31 H
theorem ba_32 : ∀ (kV doc pm : Value) (an : Option Addr) (cdv ct : Value) (us : List Value), us.length = (["self", "number"] : List Str).length → bindArgs (PySem.W.fnOf d_32.name d_32.qual d_32.params d_32.body d_32.scope .none kV doc pm an cdv ct) ⟨us, []⟩ = pure ((["self", "number"] : List Str).zip us) := fun _ _ _ _ _ _ us hl => match us, hl with | [_, _], _ => rfl
theorem wa_32 (H : Hyp pd P w K mg base C k) : FnR P w K mg base (L2.CX P w) (k + 4) (He.fAd K (He.DefD.at_ d_32)) (spF (pd.cl K) K (trimF (some 0) (runF (["self", "number"] : List Str).length N_32.length (b_Book_enters C)))) :=
  fn_trim _ (step_plain (i := 32) (d := d_32) (ps := ["self", "number"]) H hfn_32 rfl rfl sc_32 ba_32 y_32)
theorem w_32 (H : Hyp pd P w K mg base C k) : FnR P w K mg base (L2.CX P w) (k + 4) (He.fAd K (He.DefD.at_ d_32)) (spF (pd.cl K) K (bod C 32)) := wa_32 H
theorem ba_33 : ∀ (kV doc pm : Value) (an : Option Addr) (cdv ct : Value) (us : List Value), us.length = (["self", "number"] : List Str).length → bindArgs (PySem.W.fnOf d_33.name d_33.qual d_33.params d_33.body d_33.scope .none kV doc pm an cdv ct) ⟨us, []⟩ = pure ((["self", "number"] : List Str).zip us) := fun _ _ _ _ _ _ us hl => match us, hl with | [_, _], _ => rfl
theorem wa_33 (H : Hyp pd P w K mg base C k) : FnR P w K mg base (L2.CX P w) (k + 4) (He.fAd K (He.DefD.at_ d_33)) (spF (pd.cl K) K (trimF (some 0) (runF (["self", "number"] : List Str).length N_33.length (b_Book_through C)))) :=
  fn_trim _ (step_plain (i := 33) (d := d_33) (ps := ["self", "number"]) H hfn_33 rfl rfl sc_33 ba_33 y_33)
theorem w_33 (H : Hyp pd P w K mg base C k) : FnR P w K mg base (L2.CX P w) (k + 4) (He.fAd K (He.DefD.at_ d_33)) (spF (pd.cl K) K (bod C 33)) := wa_33 H
theorem ba_35 : ∀ (kV doc pm : Value) (an : Option Addr) (cdv ct : Value) (us : List Value), us.length = (["self"] : List Str).length → bindArgs (PySem.W.fnOf d_35.name d_35.qual d_35.params d_35.body d_35.scope .none kV doc pm an cdv ct) ⟨us, []⟩ = pure ((["self"] : List Str).zip us) := fun _ _ _ _ _ _ us hl => match us, hl with | [_], _ => rfl
theorem wa_35 (H : Hyp pd P w K mg base C k) : FnR P w K mg base (L2.CX P w) (k + 4) (He.fAd K (He.DefD.at_ d_35)) (spF (pd.cl K) K (trimF (some 0) (runF (["self"] : List Str).length N_35.length (b_Book_atoms C)))) :=
  fn_trim _ (step_plain (i := 35) (d := d_35) (ps := ["self"]) H hfn_35 rfl rfl sc_35 ba_35 y_35)
theorem w_35 (H : Hyp pd P w K mg base C k) : FnR P w K mg base (L2.CX P w) (k + 4) (He.fAd K (He.DefD.at_ d_35)) (spF (pd.cl K) K (bod C 35)) := wa_35 H
theorem ba_40 : ∀ (kV doc pm : Value) (an : Option Addr) (cdv ct : Value) (us : List Value), us.length = (["self"] : List Str).length → bindArgs (PySem.W.fnOf d_40.name d_40.qual d_40.params d_40.body d_40.scope .none kV doc pm an cdv ct) ⟨us, []⟩ = pure ((["self"] : List Str).zip us) := fun _ _ _ _ _ _ us hl => match us, hl with | [_], _ => rfl
theorem wa_40 (H : Hyp pd P w K mg base C k) : FnR P w K mg base (L2.CX P w) (k + 4) (He.fAd K (He.DefD.at_ d_40)) (spF (pd.cl K) K (trimF (some 0) (runF (["self"] : List Str).length N_40.length (b_Book_outline C)))) :=
  fn_trim _ (step_plain (i := 40) (d := d_40) (ps := ["self"]) H hfn_40 rfl rfl sc_40 ba_40 y_40)
theorem w_40 (H : Hyp pd P w K mg base C k) : FnR P w K mg base (L2.CX P w) (k + 4) (He.fAd K (He.DefD.at_ d_40)) (spF (pd.cl K) K (bod C 40)) := wa_40 H
theorem ba_41 : ∀ (kV doc pm : Value) (an : Option Addr) (cdv ct : Value) (us : List Value), us.length = (["self", "other"] : List Str).length → bindArgs (PySem.W.fnOf d_41.name d_41.qual d_41.params d_41.body d_41.scope .none kV doc pm an cdv ct) ⟨us, []⟩ = pure ((["self", "other"] : List Str).zip us) := fun _ _ _ _ _ _ us hl => match us, hl with | [_, _], _ => rfl
theorem wa_41 (H : Hyp pd P w K mg base C k) : FnR P w K mg base (L2.CX P w) (k + 4) (He.fAd K (He.DefD.at_ d_41)) (spF (pd.cl K) K (trimF (some 0) (runF (["self", "other"] : List Str).length N_41.length (b_Book___le__ C)))) :=
  fn_trim _ (step_plain (i := 41) (d := d_41) (ps := ["self", "other"]) H hfn_41 rfl rfl sc_41 ba_41 y_41)
theorem w_41 (H : Hyp pd P w K mg base C k) : FnR P w K mg base (L2.CX P w) (k + 4) (He.fAd K (He.DefD.at_ d_41)) (spF (pd.cl K) K (bod C 41)) := wa_41 H
theorem ba_42 : ∀ (kV doc pm : Value) (an : Option Addr) (cdv ct : Value) (us : List Value), us.length = (["_law_script"] : List Str).length → bindArgs (PySem.W.fnOf d_42.name d_42.qual d_42.params d_42.body d_42.scope .none kV doc pm an cdv ct) ⟨us, []⟩ = pure ((["_law_script"] : List Str).zip us) := fun _ _ _ _ _ _ us hl => match us, hl with | [_], _ => rfl
theorem wa_42 (H : Hyp pd P w K mg base C k) : FnR P w K mg base (L2.CX P w) (k + 4) (He.fAd K (He.DefD.at_ d_42)) (spF (pd.cl K) K (trimF none (runF (["_law_script"] : List Str).length N_42.length (b__law_tape C)))) :=
  fn_trim _ (step_plain (i := 42) (d := d_42) (ps := ["_law_script"]) H hfn_42 rfl rfl sc_42 ba_42 y_42)
theorem w_42 (H : Hyp pd P w K mg base C k) : FnR P w K mg base (L2.CX P w) (k + 4) (He.fAd K (He.DefD.at_ d_42)) (spF (pd.cl K) K (bod C 42)) := wa_42 H
theorem ba_43 : ∀ (kV doc pm : Value) (an : Option Addr) (cdv ct : Value) (us : List Value), us.length = (["_law_tape_here", "_law_count"] : List Str).length → bindArgs (PySem.W.fnOf d_43.name d_43.qual d_43.params d_43.body d_43.scope .none kV doc pm an cdv ct) ⟨us, []⟩ = pure ((["_law_tape_here", "_law_count"] : List Str).zip us) := fun _ _ _ _ _ _ us hl => match us, hl with | [_, _], _ => rfl
theorem wa_43 (H : Hyp pd P w K mg base C k) : FnR P w K mg base (L2.CX P w) (k + 4) (He.fAd K (He.DefD.at_ d_43)) (spF (pd.cl K) K (trimF (some 0) (runF (["_law_tape_here", "_law_count"] : List Str).length N_43.length (b__law_pick C)))) :=
  fn_trim _ (step_plain (i := 43) (d := d_43) (ps := ["_law_tape_here", "_law_count"]) H hfn_43 rfl rfl sc_43 ba_43 y_43)
theorem w_43 (H : Hyp pd P w K mg base C k) : FnR P w K mg base (L2.CX P w) (k + 4) (He.fAd K (He.DefD.at_ d_43)) (spF (pd.cl K) K (bod C 43)) := wa_43 H
theorem ba_44 : ∀ (kV doc pm : Value) (an : Option Addr) (cdv ct : Value) (us : List Value), us.length = (["_law_tape_here", "_law_menu", "_law_count"] : List Str).length → bindArgs (PySem.W.fnOf d_44.name d_44.qual d_44.params d_44.body d_44.scope .none kV doc pm an cdv ct) ⟨us, []⟩ = pure ((["_law_tape_here", "_law_menu", "_law_count"] : List Str).zip us) := fun _ _ _ _ _ _ us hl => match us, hl with | [_, _, _], _ => rfl
theorem wa_44 (H : Hyp pd P w K mg base C k) : FnR P w K mg base (L2.CX P w) (k + 4) (He.fAd K (He.DefD.at_ d_44)) (spF (pd.cl K) K (trimF (some 0) (runF (["_law_tape_here", "_law_menu", "_law_count"] : List Str).length N_44.length (b__law_some C)))) :=
  fn_trim _ (step_plain (i := 44) (d := d_44) (ps := ["_law_tape_here", "_law_menu", "_law_count"]) H hfn_44 rfl rfl sc_44 ba_44 y_44)
theorem w_44 (H : Hyp pd P w K mg base C k) : FnR P w K mg base (L2.CX P w) (k + 4) (He.fAd K (He.DefD.at_ d_44)) (spF (pd.cl K) K (bod C 44)) := wa_44 H
theorem ba_45 : ∀ (kV doc pm : Value) (an : Option Addr) (cdv ct : Value) (us : List Value), us.length = (["_law_tape_here", "_law_count"] : List Str).length → bindArgs (PySem.W.fnOf d_45.name d_45.qual d_45.params d_45.body d_45.scope .none kV doc pm an cdv ct) ⟨us, []⟩ = pure ((["_law_tape_here", "_law_count"] : List Str).zip us) := fun _ _ _ _ _ _ us hl => match us, hl with | [_, _], _ => rfl
theorem wa_45 (H : Hyp pd P w K mg base C k) : FnR P w K mg base (L2.CX P w) (k + 4) (He.fAd K (He.DefD.at_ d_45)) (spF (pd.cl K) K (trimF (some 0) (runF (["_law_tape_here", "_law_count"] : List Str).length N_45.length (b__law_kind_names C)))) :=
  fn_trim _ (step_plain (i := 45) (d := d_45) (ps := ["_law_tape_here", "_law_count"]) H hfn_45 rfl rfl sc_45 ba_45 y_45)
theorem w_45 (H : Hyp pd P w K mg base C k) : FnR P w K mg base (L2.CX P w) (k + 4) (He.fAd K (He.DefD.at_ d_45)) (spF (pd.cl K) K (bod C 45)) := wa_45 H
theorem ba_46 : ∀ (kV doc pm : Value) (an : Option Addr) (cdv ct : Value) (us : List Value), us.length = (["_law_tape_here", "_law_members"] : List Str).length → bindArgs (PySem.W.fnOf d_46.name d_46.qual d_46.params d_46.body d_46.scope .none kV doc pm an cdv ct) ⟨us, []⟩ = pure ((["_law_tape_here", "_law_members"] : List Str).zip us) := fun _ _ _ _ _ _ us hl => match us, hl with | [_, _], _ => rfl
theorem wa_46 (H : Hyp pd P w K mg base C k) : FnR P w K mg base (L2.CX P w) (k + 4) (He.fAd K (He.DefD.at_ d_46)) (spF (pd.cl K) K (trimF (some 0) (runF (["_law_tape_here", "_law_members"] : List Str).length N_46.length (b__law_one C)))) :=
  fn_trim _ (step_plain (i := 46) (d := d_46) (ps := ["_law_tape_here", "_law_members"]) H hfn_46 rfl rfl sc_46 ba_46 y_46)
theorem w_46 (H : Hyp pd P w K mg base C k) : FnR P w K mg base (L2.CX P w) (k + 4) (He.fAd K (He.DefD.at_ d_46)) (spF (pd.cl K) K (bod C 46)) := wa_46 H
theorem ba_47 : ∀ (kV doc pm : Value) (an : Option Addr) (cdv ct : Value) (us : List Value), us.length = (["_law_engine_here", "_law_name"] : List Str).length → bindArgs (PySem.W.fnOf d_47.name d_47.qual d_47.params d_47.body d_47.scope .none kV doc pm an cdv ct) ⟨us, []⟩ = pure ((["_law_engine_here", "_law_name"] : List Str).zip us) := fun _ _ _ _ _ _ us hl => match us, hl with | [_, _], _ => rfl
theorem wa_47 (H : Hyp pd P w K mg base C k) : FnR P w K mg base (L2.CX P w) (k + 4) (He.fAd K (He.DefD.at_ d_47)) (spF (pd.cl K) K (trimF (some 0) (runF (["_law_engine_here", "_law_name"] : List Str).length N_47.length (b__law_turn C)))) :=
  fn_trim _ (step_plain (i := 47) (d := d_47) (ps := ["_law_engine_here", "_law_name"]) H hfn_47 rfl rfl sc_47 ba_47 y_47)
theorem w_47 (H : Hyp pd P w K mg base C k) : FnR P w K mg base (L2.CX P w) (k + 4) (He.fAd K (He.DefD.at_ d_47)) (spF (pd.cl K) K (bod C 47)) := wa_47 H
theorem ba_48 : ∀ (kV doc pm : Value) (an : Option Addr) (cdv ct : Value) (us : List Value), us.length = (["_law_engine_here", "_law_name", "_law_source"] : List Str).length → bindArgs (PySem.W.fnOf d_48.name d_48.qual d_48.params d_48.body d_48.scope .none kV doc pm an cdv ct) ⟨us, []⟩ = pure ((["_law_engine_here", "_law_name", "_law_source"] : List Str).zip us) := fun _ _ _ _ _ _ us hl => match us, hl with | [_, _, _], _ => rfl
theorem wa_48 (H : Hyp pd P w K mg base C k) : FnR P w K mg base (L2.CX P w) (k + 4) (He.fAd K (He.DefD.at_ d_48)) (spF (pd.cl K) K (trimF (some 0) (runF (["_law_engine_here", "_law_name", "_law_source"] : List Str).length N_48.length (b__law_in_time C)))) :=
  fn_trim _ (step_plain (i := 48) (d := d_48) (ps := ["_law_engine_here", "_law_name", "_law_source"]) H hfn_48 rfl rfl sc_48 ba_48 y_48)
theorem w_48 (H : Hyp pd P w K mg base C k) : FnR P w K mg base (L2.CX P w) (k + 4) (He.fAd K (He.DefD.at_ d_48)) (spF (pd.cl K) K (bod C 48)) := wa_48 H
theorem ba_49 : ∀ (kV doc pm : Value) (an : Option Addr) (cdv ct : Value) (us : List Value), us.length = (["_law_tape_here", "_law_engine_here", "_law_name", "_law_late"] : List Str).length → bindArgs (PySem.W.fnOf d_49.name d_49.qual d_49.params d_49.body d_49.scope .none kV doc pm an cdv ct) ⟨us, []⟩ = pure ((["_law_tape_here", "_law_engine_here", "_law_name", "_law_late"] : List Str).zip us) := fun _ _ _ _ _ _ us hl => match us, hl with | [_, _, _, _], _ => rfl
theorem wa_49 (H : Hyp pd P w K mg base C k) : FnR P w K mg base (L2.CX P w) (k + 4) (He.fAd K (He.DefD.at_ d_49)) (spF (pd.cl K) K (trimF (some 0) (runF (["_law_tape_here", "_law_engine_here", "_law_name", "_law_late"] : List Str).length N_49.length (b__law_sources C)))) :=
  fn_trim _ (step_plain (i := 49) (d := d_49) (ps := ["_law_tape_here", "_law_engine_here", "_law_name", "_law_late"]) H hfn_49 rfl rfl sc_49 ba_49 y_49)
theorem w_49 (H : Hyp pd P w K mg base C k) : FnR P w K mg base (L2.CX P w) (k + 4) (He.fAd K (He.DefD.at_ d_49)) (spF (pd.cl K) K (bod C 49)) := wa_49 H
theorem ba_50 : ∀ (kV doc pm : Value) (an : Option Addr) (cdv ct : Value) (us : List Value), us.length = (["_law_tape_here", "_law_kind_most", "_law_name_most", "_law_late"] : List Str).length → bindArgs (PySem.W.fnOf d_50.name d_50.qual d_50.params d_50.body d_50.scope .none kV doc pm an cdv ct) ⟨us, []⟩ = pure ((["_law_tape_here", "_law_kind_most", "_law_name_most", "_law_late"] : List Str).zip us) := fun _ _ _ _ _ _ us hl => match us, hl with | [_, _, _, _], _ => rfl
theorem wa_50 (H : Hyp pd P w K mg base C k) : FnR P w K mg base (L2.CX P w) (k + 4) (He.fAd K (He.DefD.at_ d_50)) (spF (pd.cl K) K (trimF none (runF (["_law_tape_here", "_law_kind_most", "_law_name_most", "_law_late"] : List Str).length N_50.length (b__law_engine C)))) :=
  fn_trim _ (step_plain (i := 50) (d := d_50) (ps := ["_law_tape_here", "_law_kind_most", "_law_name_most", "_law_late"]) H hfn_50 rfl rfl sc_50 ba_50 y_50)
theorem w_50 (H : Hyp pd P w K mg base C k) : FnR P w K mg base (L2.CX P w) (k + 4) (He.fAd K (He.DefD.at_ d_50)) (spF (pd.cl K) K (bod C 50)) := wa_50 H
theorem ba_51 : ∀ (kV doc pm : Value) (an : Option Addr) (cdv ct : Value) (us : List Value), us.length = (["_law_tape_here", "_law_count"] : List Str).length → bindArgs (PySem.W.fnOf d_51.name d_51.qual d_51.params d_51.body d_51.scope .none kV doc pm an cdv ct) ⟨us, []⟩ = pure ((["_law_tape_here", "_law_count"] : List Str).zip us) := fun _ _ _ _ _ _ us hl => match us, hl with | [_, _], _ => rfl
theorem wa_51 (H : Hyp pd P w K mg base C k) : FnR P w K mg base (L2.CX P w) (k + 4) (He.fAd K (He.DefD.at_ d_51)) (spF (pd.cl K) K (trimF (some 0) (runF (["_law_tape_here", "_law_count"] : List Str).length N_51.length (b__law_mark_names C)))) :=
  fn_trim _ (step_plain (i := 51) (d := d_51) (ps := ["_law_tape_here", "_law_count"]) H hfn_51 rfl rfl sc_51 ba_51 y_51)
theorem w_51 (H : Hyp pd P w K mg base C k) : FnR P w K mg base (L2.CX P w) (k + 4) (He.fAd K (He.DefD.at_ d_51)) (spF (pd.cl K) K (bod C 51)) := wa_51 H
theorem ba_52 : ∀ (kV doc pm : Value) (an : Option Addr) (cdv ct : Value) (us : List Value), us.length = (["_law_tape_here", "_law_book"] : List Str).length → bindArgs (PySem.W.fnOf d_52.name d_52.qual d_52.params d_52.body d_52.scope .none kV doc pm an cdv ct) ⟨us, []⟩ = pure ((["_law_tape_here", "_law_book"] : List Str).zip us) := fun _ _ _ _ _ _ us hl => match us, hl with | [_, _], _ => rfl
theorem wa_52 (H : Hyp pd P w K mg base C k) : FnR P w K mg base (L2.CX P w) (k + 4) (He.fAd K (He.DefD.at_ d_52)) (spF (pd.cl K) K (trimF none (runF (["_law_tape_here", "_law_book"] : List Str).length N_52.length (b__law_reads C)))) :=
  fn_trim _ (step_plain (i := 52) (d := d_52) (ps := ["_law_tape_here", "_law_book"]) H hfn_52 rfl rfl sc_52 ba_52 y_52)
theorem w_52 (H : Hyp pd P w K mg base C k) : FnR P w K mg base (L2.CX P w) (k + 4) (He.fAd K (He.DefD.at_ d_52)) (spF (pd.cl K) K (bod C 52)) := wa_52 H
theorem ba_53 : ∀ (kV doc pm : Value) (an : Option Addr) (cdv ct : Value) (us : List Value), us.length = (["_law_engine_here"] : List Str).length → bindArgs (PySem.W.fnOf d_53.name d_53.qual d_53.params d_53.body d_53.scope .none kV doc pm an cdv ct) ⟨us, []⟩ = pure ((["_law_engine_here"] : List Str).zip us) := fun _ _ _ _ _ _ us hl => match us, hl with | [_], _ => rfl
theorem wa_53 (H : Hyp pd P w K mg base C k) : FnR P w K mg base (L2.CX P w) (k + 4) (He.fAd K (He.DefD.at_ d_53)) (spF (pd.cl K) K (trimF (some 1) (runF (["_law_engine_here"] : List Str).length N_53.length (b__law_made_engine C)))) :=
  fn_trim _ (step_plain (i := 53) (d := d_53) (ps := ["_law_engine_here"]) H hfn_53 rfl rfl sc_53 ba_53 y_53)
theorem w_53 (H : Hyp pd P w K mg base C k) : FnR P w K mg base (L2.CX P w) (k + 4) (He.fAd K (He.DefD.at_ d_53)) (spF (pd.cl K) K (bod C 53)) := wa_53 H
theorem ba_54 : ∀ (kV doc pm : Value) (an : Option Addr) (cdv ct : Value) (us : List Value), us.length = (["_law_book"] : List Str).length → bindArgs (PySem.W.fnOf d_54.name d_54.qual d_54.params d_54.body d_54.scope .none kV doc pm an cdv ct) ⟨us, []⟩ = pure ((["_law_book"] : List Str).zip us) := fun _ _ _ _ _ _ us hl => match us, hl with | [_], _ => rfl
theorem wa_54 (H : Hyp pd P w K mg base C k) : FnR P w K mg base (L2.CX P w) (k + 4) (He.fAd K (He.DefD.at_ d_54)) (spF (pd.cl K) K (trimF (some 0) (runF (["_law_book"] : List Str).length N_54.length (b__law_made C)))) :=
  fn_trim _ (step_plain (i := 54) (d := d_54) (ps := ["_law_book"]) H hfn_54 rfl rfl sc_54 ba_54 y_54)
theorem w_54 (H : Hyp pd P w K mg base C k) : FnR P w K mg base (L2.CX P w) (k + 4) (He.fAd K (He.DefD.at_ d_54)) (spF (pd.cl K) K (bod C 54)) := wa_54 H
theorem ba_55 : ∀ (kV doc pm : Value) (an : Option Addr) (cdv ct : Value) (us : List Value), us.length = (["_law_book", "_law_kind", "_law_event", "_law_place", "_law_marks"] : List Str).length → bindArgs (PySem.W.fnOf d_55.name d_55.qual d_55.params d_55.body d_55.scope .none kV doc pm an cdv ct) ⟨us, []⟩ = pure ((["_law_book", "_law_kind", "_law_event", "_law_place", "_law_marks"] : List Str).zip us) := fun _ _ _ _ _ _ us hl => match us, hl with | [_, _, _, _, _], _ => rfl
theorem wa_55 (H : Hyp pd P w K mg base C k) : FnR P w K mg base (L2.CX P w) (k + 4) (He.fAd K (He.DefD.at_ d_55)) (spF (pd.cl K) K (trimF (some 0) (runF (["_law_book", "_law_kind", "_law_event", "_law_place", "_law_marks"] : List Str).length N_55.length (b__law_add C)))) :=
  fn_trim _ (step_plain (i := 55) (d := d_55) (ps := ["_law_book", "_law_kind", "_law_event", "_law_place", "_law_marks"]) H hfn_55 rfl rfl sc_55 ba_55 y_55)
theorem w_55 (H : Hyp pd P w K mg base C k) : FnR P w K mg base (L2.CX P w) (k + 4) (He.fAd K (He.DefD.at_ d_55)) (spF (pd.cl K) K (bod C 55)) := wa_55 H
theorem ba_56 : ∀ (kV doc pm : Value) (an : Option Addr) (cdv ct : Value) (us : List Value), us.length = (["_law_book"] : List Str).length → bindArgs (PySem.W.fnOf d_56.name d_56.qual d_56.params d_56.body d_56.scope .none kV doc pm an cdv ct) ⟨us, []⟩ = pure ((["_law_book"] : List Str).zip us) := fun _ _ _ _ _ _ us hl => match us, hl with | [_], _ => rfl
theorem wa_56 (H : Hyp pd P w K mg base C k) : FnR P w K mg base (L2.CX P w) (k + 4) (He.fAd K (He.DefD.at_ d_56)) (spF (pd.cl K) K (trimF (some 0) (runF (["_law_book"] : List Str).length N_56.length (b__law_ways C)))) :=
  fn_trim _ (step_plain (i := 56) (d := d_56) (ps := ["_law_book"]) H hfn_56 rfl rfl sc_56 ba_56 y_56)
theorem w_56 (H : Hyp pd P w K mg base C k) : FnR P w K mg base (L2.CX P w) (k + 4) (He.fAd K (He.DefD.at_ d_56)) (spF (pd.cl K) K (bod C 56)) := wa_56 H
theorem ba_57 : ∀ (kV doc pm : Value) (an : Option Addr) (cdv ct : Value) (us : List Value), us.length = (["_law_book", "_law_kind", "_law_is_own", "_law_parts", "_law_enter"] : List Str).length → bindArgs (PySem.W.fnOf d_57.name d_57.qual d_57.params d_57.body d_57.scope .none kV doc pm an cdv ct) ⟨us, []⟩ = pure ((["_law_book", "_law_kind", "_law_is_own", "_law_parts", "_law_enter"] : List Str).zip us) := fun _ _ _ _ _ _ us hl => match us, hl with | [_, _, _, _, _], _ => rfl
theorem wa_57 (H : Hyp pd P w K mg base C k) : FnR P w K mg base (L2.CX P w) (k + 4) (He.fAd K (He.DefD.at_ d_57)) (spF (pd.cl K) K (trimF (some 0) (runF (["_law_book", "_law_kind", "_law_is_own", "_law_parts", "_law_enter"] : List Str).length N_57.length (b__law_natural_source C)))) :=
  fn_trim _ (step_plain (i := 57) (d := d_57) (ps := ["_law_book", "_law_kind", "_law_is_own", "_law_parts", "_law_enter"]) H hfn_57 rfl rfl sc_57 ba_57 y_57)
theorem w_57 (H : Hyp pd P w K mg base C k) : FnR P w K mg base (L2.CX P w) (k + 4) (He.fAd K (He.DefD.at_ d_57)) (spF (pd.cl K) K (bod C 57)) := wa_57 H
theorem ba_58 : ∀ (kV doc pm : Value) (an : Option Addr) (cdv ct : Value) (us : List Value), us.length = (["_law_book"] : List Str).length → bindArgs (PySem.W.fnOf d_58.name d_58.qual d_58.params d_58.body d_58.scope .none kV doc pm an cdv ct) ⟨us, []⟩ = pure ((["_law_book"] : List Str).zip us) := fun _ _ _ _ _ _ us hl => match us, hl with | [_], _ => rfl
theorem wa_58 (H : Hyp pd P w K mg base C k) : FnR P w K mg base (L2.CX P w) (k + 4) (He.fAd K (He.DefD.at_ d_58)) (spF (pd.cl K) K (trimF (some 0) (runF (["_law_book"] : List Str).length N_58.length (b__law_natural C)))) :=
  fn_trim _ (step_plain (i := 58) (d := d_58) (ps := ["_law_book"]) H hfn_58 rfl rfl sc_58 ba_58 y_58)
theorem w_58 (H : Hyp pd P w K mg base C k) : FnR P w K mg base (L2.CX P w) (k + 4) (He.fAd K (He.DefD.at_ d_58)) (spF (pd.cl K) K (bod C 58)) := wa_58 H
theorem ba_59 : ∀ (kV doc pm : Value) (an : Option Addr) (cdv ct : Value) (us : List Value), us.length = (["_law_event"] : List Str).length → bindArgs (PySem.W.fnOf d_59.name d_59.qual d_59.params d_59.body d_59.scope .none kV doc pm an cdv ct) ⟨us, []⟩ = pure ((["_law_event"] : List Str).zip us) := fun _ _ _ _ _ _ us hl => match us, hl with | [_], _ => rfl
theorem wa_59 (H : Hyp pd P w K mg base C k) : FnR P w K mg base (L2.CX P w) (k + 4) (He.fAd K (He.DefD.at_ d_59)) (spF (pd.cl K) K (trimF (some 0) (runF (["_law_event"] : List Str).length N_59.length (b__law_places C)))) :=
  fn_trim _ (step_plain (i := 59) (d := d_59) (ps := ["_law_event"]) H hfn_59 rfl rfl sc_59 ba_59 y_59)
theorem w_59 (H : Hyp pd P w K mg base C k) : FnR P w K mg base (L2.CX P w) (k + 4) (He.fAd K (He.DefD.at_ d_59)) (spF (pd.cl K) K (bod C 59)) := wa_59 H
theorem ba_60 : ∀ (kV doc pm : Value) (an : Option Addr) (cdv ct : Value) (us : List Value), us.length = (["_law_tape_here", "_law_book"] : List Str).length → bindArgs (PySem.W.fnOf d_60.name d_60.qual d_60.params d_60.body d_60.scope .none kV doc pm an cdv ct) ⟨us, []⟩ = pure ((["_law_tape_here", "_law_book"] : List Str).zip us) := fun _ _ _ _ _ _ us hl => match us, hl with | [_, _], _ => rfl
theorem wa_60 (H : Hyp pd P w K mg base C k) : FnR P w K mg base (L2.CX P w) (k + 4) (He.fAd K (He.DefD.at_ d_60)) (spF (pd.cl K) K (trimF (some 0) (runF (["_law_tape_here", "_law_book"] : List Str).length N_60.length (b__law_any_atom C)))) :=
  fn_trim _ (step_plain (i := 60) (d := d_60) (ps := ["_law_tape_here", "_law_book"]) H hfn_60 rfl rfl sc_60 ba_60 y_60)
theorem w_60 (H : Hyp pd P w K mg base C k) : FnR P w K mg base (L2.CX P w) (k + 4) (He.fAd K (He.DefD.at_ d_60)) (spF (pd.cl K) K (bod C 60)) := wa_60 H
theorem ba_61 : ∀ (kV doc pm : Value) (an : Option Addr) (cdv ct : Value) (us : List Value), us.length = (["_law_tape_here", "_law_book", "_law_more_here"] : List Str).length → bindArgs (PySem.W.fnOf d_61.name d_61.qual d_61.params d_61.body d_61.scope .none kV doc pm an cdv ct) ⟨us, []⟩ = pure ((["_law_tape_here", "_law_book", "_law_more_here"] : List Str).zip us) := fun _ _ _ _ _ _ us hl => match us, hl with | [_, _, _], _ => rfl
theorem wa_61 (H : Hyp pd P w K mg base C k) : FnR P w K mg base (L2.CX P w) (k + 4) (He.fAd K (He.DefD.at_ d_61)) (spF (pd.cl K) K (trimF (some 0) (runF (["_law_tape_here", "_law_book", "_law_more_here"] : List Str).length N_61.length (b__law_more C)))) :=
  fn_trim _ (step_plain (i := 61) (d := d_61) (ps := ["_law_tape_here", "_law_book", "_law_more_here"]) H hfn_61 rfl rfl sc_61 ba_61 y_61)
theorem w_61 (H : Hyp pd P w K mg base C k) : FnR P w K mg base (L2.CX P w) (k + 4) (He.fAd K (He.DefD.at_ d_61)) (spF (pd.cl K) K (bod C 61)) := wa_61 H
theorem ba_62 : ∀ (kV doc pm : Value) (an : Option Addr) (cdv ct : Value) (us : List Value), us.length = (["_law_tape_here", "_law_book"] : List Str).length → bindArgs (PySem.W.fnOf d_62.name d_62.qual d_62.params d_62.body d_62.scope .none kV doc pm an cdv ct) ⟨us, []⟩ = pure ((["_law_tape_here", "_law_book"] : List Str).zip us) := fun _ _ _ _ _ _ us hl => match us, hl with | [_, _], _ => rfl
theorem wa_62 (H : Hyp pd P w K mg base C k) : FnR P w K mg base (L2.CX P w) (k + 4) (He.fAd K (He.DefD.at_ d_62)) (spF (pd.cl K) K (trimF (some 0) (runF (["_law_tape_here", "_law_book"] : List Str).length N_62.length (b__law_fence C)))) :=
  fn_trim _ (step_plain (i := 62) (d := d_62) (ps := ["_law_tape_here", "_law_book"]) H hfn_62 rfl rfl sc_62 ba_62 y_62)
theorem w_62 (H : Hyp pd P w K mg base C k) : FnR P w K mg base (L2.CX P w) (k + 4) (He.fAd K (He.DefD.at_ d_62)) (spF (pd.cl K) K (bod C 62)) := wa_62 H
theorem ba_63 : ∀ (kV doc pm : Value) (an : Option Addr) (cdv ct : Value) (us : List Value), us.length = (["_law_book"] : List Str).length → bindArgs (PySem.W.fnOf d_63.name d_63.qual d_63.params d_63.body d_63.scope .none kV doc pm an cdv ct) ⟨us, []⟩ = pure ((["_law_book"] : List Str).zip us) := fun _ _ _ _ _ _ us hl => match us, hl with | [_], _ => rfl
theorem wa_63 (H : Hyp pd P w K mg base C k) : FnR P w K mg base (L2.CX P w) (k + 4) (He.fAd K (He.DefD.at_ d_63)) (spF (pd.cl K) K (trimF (some 0) (runF (["_law_book"] : List Str).length N_63.length (b__law_atoms C)))) :=
  fn_trim _ (step_plain (i := 63) (d := d_63) (ps := ["_law_book"]) H hfn_63 rfl rfl sc_63 ba_63 y_63)
theorem w_63 (H : Hyp pd P w K mg base C k) : FnR P w K mg base (L2.CX P w) (k + 4) (He.fAd K (He.DefD.at_ d_63)) (spF (pd.cl K) K (bod C 63)) := wa_63 H
theorem ba_64 : ∀ (kV doc pm : Value) (an : Option Addr) (cdv ct : Value) (us : List Value), us.length = (["_law_script"] : List Str).length → bindArgs (PySem.W.fnOf d_64.name d_64.qual d_64.params d_64.body d_64.scope .none kV doc pm an cdv ct) ⟨us, []⟩ = pure ((["_law_script"] : List Str).zip us) := fun _ _ _ _ _ _ us hl => match us, hl with | [_], _ => rfl
theorem wa_64 (H : Hyp pd P w K mg base C k) : FnR P w K mg base (L2.CX P w) (k + 4) (He.fAd K (He.DefD.at_ d_64)) (spF (pd.cl K) K (trimF none (runF (["_law_script"] : List Str).length N_64.length (b_law C)))) :=
  fn_trim _ (step_plain (i := 64) (d := d_64) (ps := ["_law_script"]) H hfn_64 rfl rfl sc_64 ba_64 y_64)
theorem w_64 (H : Hyp pd P w K mg base C k) : FnR P w K mg base (L2.CX P w) (k + 4) (He.fAd K (He.DefD.at_ d_64)) (spF (pd.cl K) K (bod C 64)) := wa_64 H
theorem step (H : Hyp pd P w K mg base C k) : ∀ (i : Nat) (d : He.DefD), pd.fn[i]? = some d → FnR P w K mg base (L2.CX P w) (k + 4) (He.fAd K d.at_) (spF (pd.cl K) K (bod C i)) := fun i d h => match i, h with
  | 0, h => by cases h; exact FnR.of_bad fun _ _ => rfl
  | 1, h => by cases h; exact w_1 H
  | 2, h => by cases h; exact w_2 H
  | 3, h => by cases h; exact w_3 H
  | 4, h => by cases h; exact w_4 H
  | 5, h => by cases h; exact w_5 H
  | 6, h => by cases h; exact w_6 H
  | 7, h => by cases h; exact FnR.of_bad fun _ _ => rfl
  | 8, h => by cases h; exact w_8 H
  | 9, h => by cases h; exact FnR.of_bad fun _ _ => rfl
  | 10, h => by cases h; exact FnR.of_bad fun _ _ => rfl
  | 11, h => by cases h; exact FnR.of_bad fun _ _ => rfl
  | 12, h => by cases h; exact FnR.of_bad fun _ _ => rfl
  | 13, h => by cases h; exact FnR.of_bad fun _ _ => rfl
  | 14, h => by cases h; exact FnR.of_bad fun _ _ => rfl
  | 15, h => by cases h; exact w_15 H
  | 16, h => by cases h; exact w_16 H
  | 17, h => by cases h; exact w_17 H
  | 18, h => by cases h; exact FnR.of_bad fun _ _ => rfl
  | 19, h => by cases h; exact w_19 H
  | 20, h => by cases h; exact w_20 H
  | 21, h => by cases h; exact w_21 H
  | 22, h => by cases h; exact w_22 H
  | 23, h => by cases h; exact w_23 H
  | 24, h => by cases h; exact w_24 H
  | 25, h => by cases h; exact w_25 H
  | 26, h => by cases h; exact FnR.of_bad fun _ _ => rfl
  | 27, h => by cases h; exact w_27 H
  | 28, h => by cases h; exact w_28 H
  | 29, h => by cases h; exact w_29 H
  | 30, h => by cases h; exact w_30 H
  | 31, h => by cases h; exact w_31 H
  | 32, h => by cases h; exact w_32 H
  | 33, h => by cases h; exact w_33 H
  | 34, h => by cases h; exact FnR.of_bad fun _ _ => rfl
  | 35, h => by cases h; exact w_35 H
  | 36, h => by cases h; exact FnR.of_bad fun _ _ => rfl
  | 37, h => by cases h; exact FnR.of_bad fun _ _ => rfl
  | 38, h => by cases h; exact FnR.of_bad fun _ _ => rfl
  | 39, h => by cases h; exact FnR.of_bad fun _ _ => rfl
  | 40, h => by cases h; exact w_40 H
  | 41, h => by cases h; exact w_41 H
  | 42, h => by cases h; exact w_42 H
  | 43, h => by cases h; exact w_43 H
  | 44, h => by cases h; exact w_44 H
  | 45, h => by cases h; exact w_45 H
  | 46, h => by cases h; exact w_46 H
  | 47, h => by cases h; exact w_47 H
  | 48, h => by cases h; exact w_48 H
  | 49, h => by cases h; exact w_49 H
  | 50, h => by cases h; exact w_50 H
  | 51, h => by cases h; exact w_51 H
  | 52, h => by cases h; exact w_52 H
  | 53, h => by cases h; exact w_53 H
  | 54, h => by cases h; exact w_54 H
  | 55, h => by cases h; exact w_55 H
  | 56, h => by cases h; exact w_56 H
  | 57, h => by cases h; exact w_57 H
  | 58, h => by cases h; exact w_58 H
  | 59, h => by cases h; exact w_59 H
  | 60, h => by cases h; exact w_60 H
  | 61, h => by cases h; exact w_61 H
  | 62, h => by cases h; exact w_62 H
  | 63, h => by cases h; exact w_63 H
  | 64, h => by cases h; exact w_64 H
  | n + 65, h => by cases (show (none : Option He.DefD) = some d from h)
theorem it_7 (B : Base0 pd K mg) (k : Nat) : FnI P w K mg base (k + 1) (He.fAd K (He.DefD.at_ d_7)) (pd.cl K 0) "kinds" := by
  obtain ⟨fd, F⟩ := B.fnd 7 d_7 rfl
  have z := (ba3 (ba3 (List.all_eq_true.mp (ba3 (ba3 B.ok).2).2 _ (List.mem_of_getElem? (show pd.cds[0]? = some _ from rfl)))).2)
  exact fn_iter F sc_7 (fun _ _ _ _ _ _ us hl => match us, hl with | [_], _ => rfl) (He.cls_ok z.1) (He.noat_ok (List.all_eq_true.mp (ba3 z.2).1 "kinds" (by decide))) rfl (fun _ _ _ _ _ _ => rfl) (B.hfr "iter" (List.all_eq_true.mp (ba3 (ba3 B.ok).1).1 "iter" fr_iter)) (fun _ _ _ _ _ _ => Or.inl rfl)
theorem it_18 (B : Base0 pd K mg) (k : Nat) : FnI P w K mg base (k + 1) (He.fAd K (He.DefD.at_ d_18)) (pd.cl K 1) "names" := by
  obtain ⟨fd, F⟩ := B.fnd 18 d_18 rfl
  have z := (ba3 (ba3 (List.all_eq_true.mp (ba3 (ba3 B.ok).2).2 _ (List.mem_of_getElem? (show pd.cds[1]? = some _ from rfl)))).2)
  exact fn_iter F sc_18 (fun _ _ _ _ _ _ us hl => match us, hl with | [_], _ => rfl) (He.cls_ok z.1) (He.noat_ok (List.all_eq_true.mp (ba3 z.2).1 "names" (by decide))) rfl (fun _ _ _ _ _ _ => rfl) (B.hfr "iter" (List.all_eq_true.mp (ba3 (ba3 B.ok).1).1 "iter" fr_iter)) (fun _ _ _ _ _ _ => Or.inl rfl)
theorem it_26 (B : Base0 pd K mg) (k : Nat) : FnI P w K mg base (k + 1) (He.fAd K (He.DefD.at_ d_26)) (pd.cl K 2) "marks" := by
  obtain ⟨fd, F⟩ := B.fnd 26 d_26 rfl
  have z := (ba3 (ba3 (List.all_eq_true.mp (ba3 (ba3 B.ok).2).2 _ (List.mem_of_getElem? (show pd.cds[2]? = some _ from rfl)))).2)
  exact fn_iter F sc_26 (fun _ _ _ _ _ _ us hl => match us, hl with | [_], _ => rfl) (He.cls_ok z.1) (He.noat_ok (List.all_eq_true.mp (ba3 z.2).1 "marks" (by decide))) rfl (fun _ _ _ _ _ _ => rfl) (B.hfr "iter" (List.all_eq_true.mp (ba3 (ba3 B.ok).1).1 "iter" fr_iter)) (fun _ _ _ _ _ _ => Or.inl rfl)
theorem its (B : Base0 pd K mg) : ∀ (k c : Nat) (cd : ClsD) (F : Str) (i : Nat) (d : He.DefD), pd.cds[c]? = some cd → cd.itf = some (F, i) → pd.fn[i]? = some d → FnI P w K mg base (k + 1) (He.fAd K d.at_) (pd.cl K c) F := fun k c cd F i d h1 h2 h3 => match c, h1 with
  | 0, h1 => by cases h1; cases h2; cases h3; exact it_7 B k
  | 1, h1 => by cases h1; cases h2; cases h3; exact it_18 B k
  | 2, h1 => by cases h1; cases h2; cases h3; exact it_26 B k
  | n + 3, h1 => by cases (show (none : Option ClsD) = some cd from h1)
theorem all (B : Base0 pd K mg) (n : Nat) : Hyp pd P w K mg base (ceN bod pd n) (4 * n + 1) := run_all B (fun _ _ H => step H) (its B) n
end K09

namespace K09
open PySem PySem.Spec PyProof.Rows L2 Mi
theorem atI_ints {ns : List Int} {b : Int} (h0 : 0 ≤ b) (hb : b < ns.length) : ∃ v, L2.atI (ns.map AV.int) b = some (.int v) := by
  obtain ⟨m, rfl⟩ := Int.eq_ofNat_of_zero_le h0
  have hm : m < ns.length := by omega
  refine ⟨ns[m], ?_⟩
  unfold L2.atI L2.ixN
  simp [hm]
theorem ix4_0' : L2.ixN 4 0 = some 0 := by simp [L2.ixN]
theorem ix4_1' : L2.ixN 4 1 = some 1 := by simp [L2.ixN]
theorem ix4_2' : L2.ixN 4 2 = some 2 := by simp [L2.ixN]
/-- the tape's draw -/
theorem pick0 (C : CE) {a b c n : Int} {ns : List Int} {R : AH} (ha : 0 ≤ a) (hb : 0 ≤ b) (h1 : 1 ≤ n) (h2 : n < 1073741824) :
    ∃ v a' b' c', 0 ≤ v ∧ v < n ∧ 0 ≤ a' ∧ 0 ≤ b' ∧ f__law_pick C [.ref 0, .int n] (tp a b c ns :: R) = .ok (.int v) (tp a' b' c' ns :: R) := by
  have hn : 0 < n := by omega
  have m1 : (0 : Int) < 2147483647 := by decide
  have m2 : (0 : Int) < 1000003 := by decide
  have d1 : (0 : Int) < 64 ∧ (64 : Int) < 1073741824 := by decide
  have u1 : -(2 ^ 64) < (69621 : Int) ∧ (69621 : Int) < 2 ^ 64 := by decide
  have u2 : -(2 ^ 64) < (7919 : Int) ∧ (7919 : Int) < 2 ^ 64 := by decide
  have u3 : -(2 ^ 64) < (48271 : Int) ∧ (48271 : Int) < 2 ^ 64 := by decide
  have fin : ∀ v a' b' c' : Int, (∃ w, v = w % n) → 0 ≤ a' → 0 ≤ b' → f__law_pick C [.ref 0, .int n] (tp a b c ns :: R) = .ok (.int v) (tp a' b' c' ns :: R) →
      ∃ v a' b' c', 0 ≤ v ∧ v < n ∧ 0 ≤ a' ∧ 0 ≤ b' ∧ f__law_pick C [.ref 0, .int n] (tp a b c ns :: R) = .ok (.int v) (tp a' b' c' ns :: R) :=
    fun v a' b' c' ⟨w, e⟩ h3 h4 h5 => ⟨v, a', b', c', by rw [e]; exact Int.emod_nonneg _ (by omega), by rw [e]; exact Int.emod_lt_of_pos _ hn, h3, h4, h5⟩
  by_cases q1 : a < n
  · by_cases q2 : b < ns.length
    · obtain ⟨cell, ec⟩ := atI_ints hb q2
      by_cases q3 : (1000000000000000000 : Int) ≤ cell
      · by_cases q4 : n ≤ cell
        · refine fin (cell % n) (cell / n) (b + 1) ((c * 69621 + (b + 1) * 7919 + cell % 1000003 * 48271) % 2147483647) ⟨_, rfl⟩ (Int.ediv_nonneg (by omega) (by omega)) (by omega) ?_
          simp [f__law_pick, trimF, runF, b__law_pick, slots, v_ixlst, v_setlst, v_mod hn, v_div ⟨hn, h2⟩, v_mod m1, v_mod m2, v_div d1, v_mul u1, v_mul u2, v_mul u3, q1, q2, q3, q4, ec, ix4_0', ix4_1', ix4_2']
        · refine fin (((c * 69621 + (b + 1) * 7919 + cell % 1000003 * 48271) % 2147483647 * 48271 + 12345) % 2147483647 / 64 % n) cell (b + 1) (((c * 69621 + (b + 1) * 7919 + cell % 1000003 * 48271) % 2147483647 * 48271 + 12345) % 2147483647) ⟨_, rfl⟩ (by omega) (by omega) ?_
          simp [f__law_pick, trimF, runF, b__law_pick, slots, v_ixlst, v_setlst, v_mod hn, v_div ⟨hn, h2⟩, v_mod m1, v_mod m2, v_div d1, v_mul u1, v_mul u2, v_mul u3, q1, q2, q3, q4, ec, ix4_0', ix4_1', ix4_2']
      · have q4 : ¬ n ≤ 0 := by omega
        refine fin (((c * 69621 + (b + 1) * 7919 + cell % 1000003 * 48271) % 2147483647 * 48271 + 12345) % 2147483647 / 64 % n) 0 (b + 1) (((c * 69621 + (b + 1) * 7919 + cell % 1000003 * 48271) % 2147483647 * 48271 + 12345) % 2147483647) ⟨_, rfl⟩ (by omega) (by omega) ?_
        simp [f__law_pick, trimF, runF, b__law_pick, slots, v_ixlst, v_setlst, v_mod hn, v_div ⟨hn, h2⟩, v_mod m1, v_mod m2, v_div d1, v_mul u1, v_mul u2, v_mul u3, q1, q2, q3, q4, ec, ix4_0', ix4_1', ix4_2']
    · have q4 : ¬ n ≤ a := by omega
      refine fin ((c * 48271 + 12345) % 2147483647 / 64 % n) a b ((c * 48271 + 12345) % 2147483647) ⟨_, rfl⟩ ha hb ?_
      simp [f__law_pick, trimF, runF, b__law_pick, slots, v_ixlst, v_setlst, v_mod hn, v_div ⟨hn, h2⟩, v_mod m1, v_mod m2, v_div d1, v_mul u1, v_mul u2, v_mul u3, q1, q2, q4, ix4_0', ix4_1', ix4_2']
  · have q4 : n ≤ a := by omega
    refine fin (a % n) (a / n) b c ⟨_, rfl⟩ (Int.ediv_nonneg (by omega) (by omega)) hb ?_
    simp [f__law_pick, trimF, runF, b__law_pick, slots, v_ixlst, v_setlst, v_mod hn, v_div ⟨hn, h2⟩, v_mod m1, v_mod m2, v_div d1, v_mul u1, v_mul u2, v_mul u3, q1, q4, ix4_0', ix4_1', ix4_2']
/-- a tape at 0 -/
def Tp0 (ns : List Int) (o : AO) : Prop := ∃ a b c, o = tp a b c ns ∧ 0 ≤ a ∧ 0 ≤ b
theorem pick_ok {k : Nat} {n : Int} {ns : List Int} {o : AO} {R : AH} (T : Tp0 ns o) (h1 : 1 ≤ n) (h2 : n < 1073741824) :
    ∃ (v : Nat) (o' : AO), (v : Int) < n ∧ Tp0 ns o' ∧ (ceN bod pd (k + 1)).call nm__law_pick [.ref 0, .int n] (o :: R) = .ok (.int v) (o' :: R) := by
  obtain ⟨a, b, c, rfl, ha, hb⟩ := T
  obtain ⟨v, a', b', c', v0, v1, ha', hb', e⟩ := pick0 (ceN bod pd k) (R := R) (c := c) (ns := ns) ha hb h1 h2
  obtain ⟨m, rfl⟩ := Int.eq_ofNat_of_zero_le v0
  exact ⟨m, _, v1, ⟨a', b', c', rfl, ha', hb'⟩, e⟩
end K09

namespace K09
open PySem PySem.Spec PyProof.Rows L2 Mi
theorem tape_ok {k : Nat} {ns : List Int} : (ceN bod pd (k + 1)).call nm__law_tape [.scr ns] [] = .ok (.ref 0) [tp 0 0 7 ns] := by
  show f__law_tape (ceN bod pd k) [.scr ns] [] = _
  simp [f__law_tape, trimF, runF, b__law_tape, slots, v_listf (show seqOf (.scr ns) [] = some (ns.map .int) from rfl), sizeLine_eq]
theorem some_ok {k : Nat} {menu : List Str} {n : Nat} {ns : List Int} {o : AO} {R : AH} (T : Tp0 ns o) (hm : menu.length = 11) (nd : menu.Nodup) (hn : n ≤ 4) :
    ∃ (xs : List Str) (o' : AO), Tp0 ns o' ∧ xs.length = n ∧ xs.Nodup ∧ (∀ x ∈ xs, x ∈ menu) ∧ (ceN bod pd (k + 2)).call nm__law_some [.ref 0, .fl (sts menu), .int n] (o :: R) = .ok (.fl (sts xs)) (o' :: R) := by
  obtain ⟨a, o1, ha, T1, e1⟩ := pick_ok (k := k) (n := 11) (R := R) T (by decide) (by decide)
  obtain ⟨s, o2, hs, T2, e2⟩ := pick_ok (k := k) (n := 10) (R := R) T1 (by decide) (by decide)
  obtain ⟨xs, x1, x2, x3, x4⟩ := some_nodup hm nd (a := a) (s := s) (n := n) (by omega) (by omega) hn
  refine ⟨xs, o2, T2, x1, x2, x3, ?_⟩
  show f__law_some (ceN bod pd (k + 1)) [.ref 0, .fl (sts menu), .int n] (o :: R) = _
  generalize ceN bod pd (k + 1) = C at e1 e2 ⊢
  have lp : ∀ σ : Sl, σ = [some (.ref 0), some (.fl (sts menu)), some (.int n), some (.int a), some (.int (1 + s)), none] → c0__law_some C σ (o2 :: R) = .ok (.fl (sts xs)) (o2 :: R) := by
    intro σ hσ
    subst hσ
    unfold c0__law_some
    have w : ∀ x ∈ rngL n, ∃ j : Nat, j < n ∧ x = .int j := fun x hx => by
      obtain ⟨j, hj, rfl⟩ := List.mem_map.mp hx
      exact ⟨j, List.mem_range.mp hj, rfl⟩
    rw [sLcF_map (h1 := o2 :: R) (s := .rng 0 n) (xs := rngL n) (fun v => match v with | .int j => (match menu[(a + (1 + s) * j.toNat) % 11]? with | some x => .str x | none => .non) | _ => .non) (by simp [k_rngN (show n < 1000 by omega)]) src_rngI (by simp [sizeLine_eq]; omega) fun x hx => ?_]
    · congr 2
      apply List.ext_getElem? 
      intro j
      by_cases hj : j < n
      · rw [List.getElem?_map, List.getElem?_map, List.getElem?_map, List.getElem?_range hj, x4 j hj]
        simp only [Option.map_some, Int.toNat_natCast]
        have z : (a + (1 + s) * j) % 11 < menu.length := by rw [hm]; exact Nat.mod_lt _ (by omega)
        rw [List.getElem?_eq_getElem z]
        rfl
      · rw [List.getElem?_eq_none (by simp; omega), List.getElem?_eq_none (by simp; omega)]
    · obtain ⟨j, hj, rfl⟩ := w x hx
      have z : (a + (1 + s) * j) % 11 < menu.length := by rw [hm]; exact Nat.mod_lt _ (by omega)
      have u : -(2 ^ 64) < (j : Int) ∧ (j : Int) < 2 ^ 64 := by omega
      have m1 : (0 : Int) < 11 := by decide
      have c1 : ((a : Int) + (1 + (s : Int)) * (j : Int)) % 11 = (((a + (1 + s) * j) % 11 : Nat) : Int) := by push_cast; rfl
      have c2 : L2.atI (sts menu) (((a : Int) + (1 + (s : Int)) * (j : Int)) % 11) = some (.str (menu[(a + (1 + s) * j) % 11]'z)) := by rw [c1]; exact atI_some (by rw [List.getElem?_map, List.getElem?_eq_getElem z]; rfl)
      simp only [Int.toNat_natCast, List.getElem?_eq_getElem z]
      simp [wipeA, v_mul u, v_mod m1, v_ixL lst_fl, hm, c2]
  simp [f__law_some, trimF, runF, b__law_some, slots, hm, e1, e2, lp]
theorem kinds_ok {k n : Nat} {ns : List Int} {o : AO} {R : AH} (T : Tp0 ns o) (hn : n ≤ 4) :
    ∃ (xs : List Str) (o' : AO), Tp0 ns o' ∧ xs.length = n ∧ xs.Nodup ∧ (∀ x ∈ xs, x ∈ menuK) ∧ (ceN bod pd (k + 3)).call nm__law_kind_names [.ref 0, .int n] (o :: R) = .ok (.fl (sts xs)) (o' :: R) := by
  obtain ⟨xs, o', T', x1, x2, x3, e⟩ := some_ok (k := k) (R := R) (menu := menuK) T rfl menuK_nd hn
  refine ⟨xs, o', T', x1, x2, x3, ?_⟩
  show f__law_kind_names (ceN bod pd (k + 2)) [.ref 0, .int n] (o :: R) = _
  generalize ceN bod pd (k + 2) = C at e ⊢
  simp only [menuK, List.map_cons, List.map_nil] at e
  simp [f__law_kind_names, trimF, runF, b__law_kind_names, slots, sizeLine_eq, e]
theorem one_ok {k : Nat} {v : AV} {ms : List Str} {ns : List Int} {o : AO} {R : AH} (T : Tp0 ns o) (hv : ∀ o, lstOf v (o :: R) = some (sts ms)) (h1 : 1 ≤ ms.length) (h2 : ms.length < 1073741824) :
    ∃ (x : Str) (o' : AO), Tp0 ns o' ∧ x ∈ ms ∧ (ceN bod pd (k + 2)).call nm__law_one [.ref 0, v] (o :: R) = .ok (.str x) (o' :: R) := by
  obtain ⟨a, o1, ha, T1, e1⟩ := pick_ok (k := k) (n := ms.length) (R := R) T (by omega) (by omega)
  have hl : a < ms.length := by omega
  refine ⟨ms[a], o1, T1, List.getElem_mem _, ?_⟩
  show f__law_one (ceN bod pd (k + 1)) [.ref 0, v] (o :: R) = _
  generalize ceN bod pd (k + 1) = C at e1 ⊢
  simp [f__law_one, trimF, runF, b__law_one, slots, v_lenL (hv o), e1, v_ixL (hv o1), atI_some (xs := sts ms) (i := a) (w := .str ms[a]) (by simp [hl])]
theorem isname_ok {k : Nat} {x : Str} {A : AH} (hx : x ∈ menuK ++ menuN) : (ceN bod pd (k + 1)).call nm_is_name [.str x] A = .ok (.bl true) A := by
  obtain ⟨h1, h2, h3, h4, h5⟩ := menu_name x hx
  show f_is_name (ceN bod pd k) [.str x] A = _
  generalize ceN bod pd k = C
  have q1 : (1 : Int) ≤ (x.length : Int) := by omega
  have q2 : (x.length : Int) ≤ 8 := by omega
  have lp : c0_is_name C [some (.str x), none] A = .ok (.fl ((x.cps.toList.map fun c => AV.str ⟨#[c]⟩).map fun _ => .bl true)) A := by
    unfold c0_is_name
    have z : x.cps.toList.length < sizeLine := by
      have z : x.cps.toList.length = x.length := by simp [Str.length]
      rw [z, sizeLine_eq]; omega
    refine sLcF_map (h1 := A) (s := .tup (x.cps.toList.map fun c => AV.str ⟨#[c]⟩)) (fun _ => .bl true) (by simp) src_tupI (by rw [List.length_map]; exact z) fun y hy => ?_
    obtain ⟨c, hc, rfl⟩ := List.mem_map.mp hy
    simp [wipeA, oInA, dGetA, h5 c hc]
  simp [f_is_name, trimF, runF, b_is_name, slots, h4, q1, q2, lp, v_allT]
theorem distinct_ok {k : Nat} {v : AV} {ms : List Str} {A : AH} (hv : lstOf v A = some (sts ms)) (nd : ms.Nodup) (hl : ms.length < 1000) : (ceN bod pd (k + 1)).call nm_are_distinct [v] A = .ok (.bl true) A := by
  show f_are_distinct (ceN bod pd k) [v] A = _
  generalize ceN bod pd k = C
  obtain ⟨s, hs1, hs2⟩ := isrc_of (seq_of_lst hv)
  have lp : c0_are_distinct C [some v, none] A = .ok (.fl ((sts ms).map fun _ => .bl true)) A := by
    unfold c0_are_distinct
    refine sLcF_map (h1 := A) (s := s) _ (by simp [hs1]) hs2 (by simp [sizeLine_eq]; omega) fun y hy => ?_
    obtain ⟨x, hx, rfl⟩ := List.mem_map.mp hy
    have c : ms.count x = 1 := by rw [List.Nodup.count nd, if_pos hx]
    simp [wipeA, is_lst hv, v_count hv, c]
  simp [f_are_distinct, trimF, runF, b_are_distinct, slots, lp, v_allT]
theorem names_ok {k n : Nat} {v : AV} {ms : List Str} {A : AH} (hv : lstOf v A = some (sts ms)) (nd : ms.Nodup) (h1 : 1 ≤ ms.length) (h2 : ms.length ≤ n) (h3 : n ≤ 20) (mem : ∀ x ∈ ms, x ∈ menuK ++ menuN) : (ceN bod pd (k + 2)).call nm_are_names [v, .int n] A = .ok (.bl true) A := by
  have e1 := distinct_ok (k := k) hv nd (by omega)
  have e2 := fun x hx => isname_ok (k := k) (x := x) (A := A) (mem x hx)
  show f_are_names (ceN bod pd (k + 1)) [v, .int n] A = _
  generalize ceN bod pd (k + 1) = C at e1 e2 ⊢
  obtain ⟨s, hs1, hs2⟩ := isrc_of (seq_of_lst hv)
  have q1 : (1 : Int) ≤ (ms.length : Int) := by omega
  have q2 : (ms.length : Int) ≤ (n : Int) := by omega
  have lp : c0_are_names C [some v, some (.int n), none] A = .ok (.fl ((sts ms).map fun _ => .bl true)) A := by
    unfold c0_are_names
    refine sLcF_map (h1 := A) (s := s) _ (by simp [hs1]) hs2 (by simp [sizeLine_eq]; omega) fun y hy => ?_
    obtain ⟨x, hx, rfl⟩ := List.mem_map.mp hy
    simp [wipeA, e2 x hx]
  simp [f_are_names, trimF, runF, b_are_names, slots, v_lenL hv, q1, q2, e1, lp, v_allT]
theorem split_ok {k : Nat} {r n : Str} {A : AH} (hr : r ∈ rels) (hn : n ∈ menuN) : (ceN bod pd (k + 1)).call nm_split_source [.str (srcOf r n)] A = .ok (.tup [.str r, .str n]) A := by
  obtain ⟨h1, h2, h3, h4, _⟩ := src_facts r hr n hn
  show f_split_source (ceN bod pd k) [.str (srcOf r n)] A = _
  generalize ceN bod pd k = C
  have l1 : (srcOf r n).length ≤ sizeLine := by rw [sizeLine_eq]; omega
  have l2 : (Str.length "." == 0) = false := by decide
  have e : mPart (.str (srcOf r n)) [.str "."] A = .ok (.tup [.str r, .str ".", .str n]) A := by
    unfold mPart
    dsimp only
    rw [if_pos ⟨l2, l1⟩, h1]
  generalize srcOf r n = z at e
  simp [f_split_source, trimF, runF, b_split_source, slots, isStr, e, sizeLine_eq, L2.atI, L2.ixN]
theorem split_style {k : Nat} {A : AH} : (ceN bod pd (k + 1)).call nm_split_source [.str "style"] A = .ok (.tup [.str "style", .str ""]) A := by
  show f_split_source (ceN bod pd k) [.str "style"] A = _
  generalize ceN bod pd k = C
  have l1 : (Str.length "style") ≤ sizeLine := by rw [sizeLine_eq]; decide
  have l2 : (Str.length "." == 0) = false := by decide
  have e : mPart (.str "style") [.str "."] A = .ok (.tup [.str "style", .str "", .str ""]) A := by
    unfold mPart
    dsimp only
    rw [if_pos ⟨l2, l1⟩, style_facts.1]
  simp [f_split_source, trimF, runF, b_split_source, slots, isStr, e, sizeLine_eq, L2.atI, L2.ixN]
theorem checked_ok {k a : Nat} {fs : Fs} {N l : List Str} {A : AH} (hA : A[a]? = some (.ins cl_Engine fs)) (hf : fs.lookup ("attributes" : Str) = some (.fl (sts N))) (nin : ∀ x ∈ N, x ∈ menuN) (h1 : 1 ≤ l.length) (h2 : l.length ≤ 4) (nd : l.Nodup) (g : ∀ s ∈ l, goodSrc N s) : (ceN bod pd (k + 2)).call nm_Engine_checked [.ref a, .fl (sts l)] A = .ok (.ctp l) A := by
  have e1 := distinct_ok (k := k) (v := .fl (sts l)) (A := A) rfl nd (by omega)
  have e2 := fun r hr n hn => split_ok (k := k) (r := r) (n := n) (A := A) hr hn
  have e3 := split_style (k := k) (A := A)
  show f_Engine_checked (ceN bod pd (k + 1)) [.ref a, .fl (sts l)] A = _
  generalize ceN bod pd (k + 1) = C at e1 e2 e3 ⊢
  have q1 : (1 : Int) ≤ (l.length : Int) := by omega
  have q2 : (l.length : Int) ≤ 4 := by omega
  have lp : ∃ σ2, kFor (gNm 2) (l0_Engine_checked C) [some (.ref a), some (.fl (sts l)), none, none, none, none] (.tup (sts l)) A = .ok (.nx σ2) A ∧ ∃ o2 o3 o4 o5, σ2 = [some (.ref a), some (.fl (sts l)), o2, o3, o4, o5] := by
    obtain ⟨σ2, h2, e, i1, i2⟩ := kFor_inv (s := .tup (sts l)) (xs := sts l) (g := gNm 2) (b := l0_Engine_checked C) (σ := [some (.ref a), some (.fl (sts l)), none, none, none, none]) (h := A)
      (fun _ τ h' => h' = A ∧ ∃ o2 o3 o4 o5, τ = [some (.ref a), some (.fl (sts l)), o2, o3, o4, o5]) rfl (fun _ _ _ _ => rfl) ⟨rfl, _, _, _, _, rfl⟩ fun i x τ h' hx hI => by
        obtain ⟨rfl, o2, o3, o4, o5, rfl⟩ := hI
        obtain ⟨s, hs, rfl⟩ := List.mem_map.mp (List.mem_of_getElem? hx)
        rcases g s hs with rfl | ⟨r, hr, n, hn, rfl⟩
        · have i1 : oInA C (.str "style") (.ctp ["own", "parent", "children", "before"]) h' = .ok (.bl false) h' := by
            rw [v_in (xs := rels) rfl]; rfl
          refine ⟨_, [some (.ref a), some (.fl (sts l)), some (.str "style"), some (.str "style"), some (.str ""), some (.bl false)], _, rfl, ?_, rfl, _, _, _, _, rfl⟩
          simp [l0_Engine_checked, e3, i1, v_neS style_facts.2 style_facts.2]
        · obtain ⟨f1, f2, f3, f4, f5, f6, f7, f8⟩ := src_facts r hr n (nin n hn)
          have i1 : oInA C (.str r) (.ctp ["own", "parent", "children", "before"]) h' = .ok (.bl true) h' := by
            rw [v_in (xs := rels) rfl]; simp [hr]
          have i2 : oInA C (.str n) (.fl (sts N)) h' = .ok (.bl true) h' := by
            rw [v_in (xs := N) rfl]; simp [hn]
          have d1 : Str.length "." = 1 := by decide
          have c1 : oAdd false (.str r) (.str ".") h' = .ok (.str (r ++ ".")) h' := v_cat (by rw [sizeLine_eq, d1]; omega)
          have c2 : oAdd false (.str (r ++ ".")) (.str n) h' = .ok (.str (srcOf r n)) h' := v_cat (by rw [sizeLine_eq, f7]; omega)
          have e4 := e2 r hr n (nin n hn)
          have c3 : oEq C (.str (srcOf r n)) (.str (srcOf r n)) h' = .ok (.bl true) h' := by rw [v_eqS f2 f2]; simp
          have c4 : oNe C (.str (srcOf r n)) (.str "style") h' = .ok (.bl true) h' := by rw [v_neS f2 style_facts.2]; simp [f8]
          generalize srcOf r n = z at e4 c2 c3 c4 ⊢
          refine ⟨_, [some (.ref a), some (.fl (sts l)), some (.str z), some (.str r), some (.str n), some (.bl true)], _, rfl, ?_, rfl, _, _, _, _, rfl⟩
          simp [l0_Engine_checked, e4, i1, i2, k_fld hA, hf, c1, c2, c3, c4]
    subst i1
    exact ⟨σ2, e, i2⟩
  obtain ⟨σ2, lp, o2, o3, o4, o5, rfl⟩ := lp
  simp [f_Engine_checked, trimF, runF, b_Engine_checked, slots, q1, q2, e1, lp, v_tup (show lstOf (.fl (sts l)) A = some (sts l) from rfl)]
end K09

namespace K09
open PySem PySem.Spec PyProof.Rows L2 Mi
theorem minit_ok {k j : Nat} {xs : List Str} {B : AH} (hB : B[j]? = some (.ins cl_Marks [])) (hz : xs.length < 64) :
    (ceN bod pd (k + 1)).mak nm_Marks___init__ (.ref j :: sts xs) B = .ok .non (B.set j (mkO cl_Marks (alp xs))) := by
  show f_Marks___init__ (ceN bod pd k) (.ref j :: sts xs) B = _
  generalize ceN bod pd k = C
  have hj : j < B.length := (List.getElem?_eq_some_iff.mp hB).1
  have hj1 : clean (B.length + 1) (.ref j) = true := clean_at hB
  have lp : kFor (gNm 3) (l0_Marks___init__ C) [some (.ref j), some (.tup (sts xs)), some (.ref B.length), none] (.tup (sts xs)) (B ++ [.lst []]) = .ok (.nx [some (.ref j), some (.tup (sts xs)), some (.ref B.length), none]) (B ++ [.lst (sts (dd xs))]) :=
    dd_for (fun X => src_tupI) (by omega) fun x d hd => by
      refine ⟨_, rfl, ?_⟩
      have ge : (B ++ [AO.lst (sts d)])[B.length]? = some (.lst (sts d)) := end_get
      have ni := v_notin (C := C) (x := x) (seq_of_lst (lst_ref ge))
      have ap := v_app (v := .str x) ge (by simpa using hd)
      have il := is_lst (lst_ref ge)
      rw [end_set] at ap
      by_cases hx : x ∈ d
      · simp [l0_Marks___init__, ni, hx, trimG_acc0, hj1]
      · have ed : sts (d ++ [x]) = sts d ++ [.str x] := by simp
        simp only [if_neg hx, ed]
        simp [l0_Marks___init__, ni, hx, il, ap, trimG_acc0, hj1]
  have c0 : c0_Marks___init__ C [some (.ref j), some (.tup (sts xs)), some (.ref B.length), none] (B ++ [.lst (sts (dd xs))]) = .ok (.fl (sts (dd xs))) (B ++ [.lst (sts (dd xs))]) := by
    unfold c0_Marks___init__
    have z := sLcF_map (it := iSeq (sVar 2)) (j := 3) (e := opN (arg1 bStr) (aCons (sVar 3) aNil)) (vs := [3]) (σ := [some (.ref j), some (.tup (sts xs)), some (.ref B.length), none]) (h := B ++ [.lst (sts (dd xs))]) (h1 := B ++ [.lst (sts (dd xs))]) (s := .lst B.length) (xs := sts (dd xs)) (fun x => x) (by simp [k_isRef end_get]) (src_lstI end_get) (by rw [List.length_map, sizeLine_eq]; have := length_dd xs; omega) (fun x hx => by
      obtain ⟨y, hy, rfl⟩ := List.mem_map.mp hx
      simp [wipeA])
    rw [z, List.map_id']
  have so := v_sortedA (xs := dd xs) (h := B ++ [.lst (sts (dd xs))]) (by have := length_dd xs; omega)
  have g1 : (B ++ [AO.lst (sts (dd xs))])[j]? = some (.ins cl_Marks []) := get_app hB
  have s1 : (B ++ [AO.lst (sts (dd xs))]).set j (mkO cl_Marks (alp xs)) = B.set j (mkO cl_Marks (alp xs)) ++ [AO.lst (sts (dd xs))] := List.set_append_left _ _ hj
  have tr := trim_put (B := B) (X := [AO.lst (sts (dd xs))]) (j := j) (o := mkO cl_Marks (alp xs)) (v := .non) (by simp [cleanO]) rfl
  have h1 : 1 ≤ xs.length + 1 := by omega
  have h2 : xs.length + 1 ≤ 1000000 := by omega
  have pu : putA "names" (AV.fl (sts (sortS (dd xs)))) [] = ([("names", .fl (sts (alp xs)))] : Fs) := rfl
  simp [f_Marks___init__, trimF, runS, b_Marks___init__, slots, h2, lp, c0, so, k_fldSE, g1, oFldS_ins, pu, s1, tr, sizeLine_eq]
theorem marks_mk {k : Nat} {xs : List Str} {A : AH} (hz : xs.length < 64) : kMk (ceN bod pd (k + 1)) cl_Marks nm_Marks___init__ (sts xs) A = .ok (.ref A.length) (A ++ [mkO cl_Marks (alp xs)]) :=
  by
  refine k_mk ?_
  have z := minit_ok (k := k) (j := A.length) (xs := xs) (B := A ++ [.ins cl_Marks []]) end_get hz
  rw [end_set] at z
  exact z
theorem mlen_ok {k a : Nat} {l : List Str} {A : AH} (hA : A[a]? = some (mkO cl_Marks l)) : (ceN bod pd (k + 1)).call nm_Marks___len__ [.ref a] A = .ok (.int l.length) A := by
  show f_Marks___len__ (ceN bod pd k) [.ref a] A = _
  generalize ceN bod pd k = C
  have lu : List.lookup ("names" : Str) [(("names" : Str), AV.fl (sts l))] = some (.fl (sts l)) := rfl
  simp [f_Marks___len__, trimF, runF, b_Marks___len__, slots, k_fldE, hA, oFld_ins, lu]
theorem mlist_ok {k a : Nat} {l : List Str} {A : AH} (hA : A[a]? = some (mkO cl_Marks l)) (z : l.length < 1000) : bList false (ceN bod pd (k + 1)) (.ref a) A = .ok (.fl (sts l)) A :=
  v_list_ownL hA (by rw [ce_it]; rfl) rfl (by rw [ce_dn]; rfl) (mlen_ok hA) ⟨by omega, by omega, by simpa using z⟩
theorem mis_ok {a : Nat} {l : List Str} {A : AH} (hA : A[a]? = some (mkO cl_Marks l)) : bIsA isa_1 (.ref a) A = .ok (.bl true) A := v_isA hA rfl
end K09

namespace K09
open PySem PySem.Spec PyProof.Rows L2 Mi
theorem some7_ok {k : Nat} {menu : List Str} {n : Nat} {ns : List Int} {o : AO} {R : AH} (T : Tp0 ns o) (hm : menu.length = 7) (nd : menu.Nodup) (hn : n ≤ 4) :
    ∃ (xs : List Str) (o' : AO), Tp0 ns o' ∧ xs.length = n ∧ xs.Nodup ∧ (∀ x ∈ xs, x ∈ menu) ∧ (ceN bod pd (k + 2)).call nm__law_some [.ref 0, .fl (sts menu), .int n] (o :: R) = .ok (.fl (sts xs)) (o' :: R) := by
  obtain ⟨a, o1, ha, T1, e1⟩ := pick_ok (k := k) (n := 7) (R := R) T (by decide) (by decide)
  obtain ⟨s, o2, hs, T2, e2⟩ := pick_ok (k := k) (n := 6) (R := R) T1 (by decide) (by decide)
  obtain ⟨xs, x1, x2, x3, x4⟩ := some_nodup7 hm nd (a := a) (s := s) (n := n) (by omega) (by omega) hn
  refine ⟨xs, o2, T2, x1, x2, x3, ?_⟩
  show f__law_some (ceN bod pd (k + 1)) [.ref 0, .fl (sts menu), .int n] (o :: R) = _
  generalize ceN bod pd (k + 1) = C at e1 e2 ⊢
  have lp : ∀ σ : Sl, σ = [some (.ref 0), some (.fl (sts menu)), some (.int n), some (.int a), some (.int (1 + s)), none] → c0__law_some C σ (o2 :: R) = .ok (.fl (sts xs)) (o2 :: R) := by
    intro σ hσ
    subst hσ
    unfold c0__law_some
    have w : ∀ x ∈ rngL n, ∃ j : Nat, j < n ∧ x = .int j := fun x hx => by
      obtain ⟨j, hj, rfl⟩ := List.mem_map.mp hx
      exact ⟨j, List.mem_range.mp hj, rfl⟩
    rw [sLcF_map (h1 := o2 :: R) (s := .rng 0 n) (xs := rngL n) (fun v => match v with | .int j => (match menu[(a + (1 + s) * j.toNat) % 7]? with | some x => .str x | none => .non) | _ => .non) (by simp [k_rngN (show n < 1000 by omega)]) src_rngI (by simp [sizeLine_eq]; omega) fun x hx => ?_]
    · congr 2
      apply List.ext_getElem? 
      intro j
      by_cases hj : j < n
      · rw [List.getElem?_map, List.getElem?_map, List.getElem?_map, List.getElem?_range hj, x4 j hj]
        simp only [Option.map_some, Int.toNat_natCast]
        have z : (a + (1 + s) * j) % 7 < menu.length := by rw [hm]; exact Nat.mod_lt _ (by omega)
        rw [List.getElem?_eq_getElem z]
        rfl
      · rw [List.getElem?_eq_none (by simp; omega), List.getElem?_eq_none (by simp; omega)]
    · obtain ⟨j, hj, rfl⟩ := w x hx
      have z : (a + (1 + s) * j) % 7 < menu.length := by rw [hm]; exact Nat.mod_lt _ (by omega)
      have u : -(2 ^ 64) < (j : Int) ∧ (j : Int) < 2 ^ 64 := by omega
      have m1 : (0 : Int) < 7 := by decide
      have c1 : ((a : Int) + (1 + (s : Int)) * (j : Int)) % 7 = (((a + (1 + s) * j) % 7 : Nat) : Int) := by push_cast; rfl
      have c2 : L2.atI (sts menu) (((a : Int) + (1 + (s : Int)) * (j : Int)) % 7) = some (.str (menu[(a + (1 + s) * j) % 7]'z)) := by rw [c1]; exact atI_some (by rw [List.getElem?_map, List.getElem?_eq_getElem z]; rfl)
      simp only [Int.toNat_natCast, List.getElem?_eq_getElem z]
      simp [wipeA, v_mul u, v_mod m1, v_ixL lst_fl, hm, c2]
  simp [f__law_some, trimF, runF, b__law_some, slots, hm, e1, e2, lp]
theorem mnames_ok {k n : Nat} {ns : List Int} {o : AO} {R : AH} (T : Tp0 ns o) (hn : n ≤ 4) :
    ∃ (xs : List Str) (o' : AO), Tp0 ns o' ∧ xs.length = n ∧ xs.Nodup ∧ (∀ x ∈ xs, x ∈ menuM) ∧ (ceN bod pd (k + 3)).call nm__law_mark_names [.ref 0, .int n] (o :: R) = .ok (.fl (sts xs)) (o' :: R) := by
  obtain ⟨xs, o', T', x1, x2, x3, e⟩ := some7_ok (k := k) (R := R) (menu := menuM) T rfl menuM_nd hn
  refine ⟨xs, o', T', x1, x2, x3, ?_⟩
  show f__law_mark_names (ceN bod pd (k + 2)) [.ref 0, .int n] (o :: R) = _
  generalize ceN bod pd (k + 2) = C at e ⊢
  simp only [menuM, List.map_cons, List.map_nil] at e
  simp [f__law_mark_names, trimF, runF, b__law_mark_names, slots, sizeLine_eq, e]
theorem isnameM_ok {k : Nat} {x : Str} {A : AH} (hx : x ∈ menuM) : (ceN bod pd (k + 1)).call nm_is_name [.str x] A = .ok (.bl true) A := by
  obtain ⟨h1, h2, h3, h4, h5⟩ := menuM_name x hx
  show f_is_name (ceN bod pd k) [.str x] A = _
  generalize ceN bod pd k = C
  have q1 : (1 : Int) ≤ (x.length : Int) := by omega
  have q2 : (x.length : Int) ≤ 8 := by omega
  have lp : c0_is_name C [some (.str x), none] A = .ok (.fl ((x.cps.toList.map fun c => AV.str ⟨#[c]⟩).map fun _ => .bl true)) A := by
    unfold c0_is_name
    have z : x.cps.toList.length < sizeLine := by
      have z : x.cps.toList.length = x.length := by simp [Str.length]
      rw [z, sizeLine_eq]; omega
    refine sLcF_map (h1 := A) (s := .tup (x.cps.toList.map fun c => AV.str ⟨#[c]⟩)) (fun _ => .bl true) (by simp) src_tupI (by rw [List.length_map]; exact z) fun y hy => ?_
    obtain ⟨c, hc, rfl⟩ := List.mem_map.mp hy
    simp [wipeA, oInA, dGetA, h5 c hc]
  simp [f_is_name, trimF, runF, b_is_name, slots, h4, q1, q2, lp, v_allT]
theorem namesM_ok {k n : Nat} {v : AV} {ms : List Str} {A : AH} (hv : lstOf v A = some (sts ms)) (nd : ms.Nodup) (h1 : 1 ≤ ms.length) (h2 : ms.length ≤ n) (h3 : n ≤ 20) (mem : ∀ x ∈ ms, x ∈ menuM) : (ceN bod pd (k + 2)).call nm_are_names [v, .int n] A = .ok (.bl true) A := by
  have e1 := distinct_ok (k := k) hv nd (by omega)
  have e2 := fun x hx => isnameM_ok (k := k) (x := x) (A := A) (mem x hx)
  show f_are_names (ceN bod pd (k + 1)) [v, .int n] A = _
  generalize ceN bod pd (k + 1) = C at e1 e2 ⊢
  obtain ⟨s, hs1, hs2⟩ := isrc_of (seq_of_lst hv)
  have q1 : (1 : Int) ≤ (ms.length : Int) := by omega
  have q2 : (ms.length : Int) ≤ (n : Int) := by omega
  have lp : c0_are_names C [some v, some (.int n), none] A = .ok (.fl ((sts ms).map fun _ => .bl true)) A := by
    unfold c0_are_names
    refine sLcF_map (h1 := A) (s := s) _ (by simp [hs1]) hs2 (by simp [sizeLine_eq]; omega) fun y hy => ?_
    obtain ⟨x, hx, rfl⟩ := List.mem_map.mp hy
    simp [wipeA, e2 x hx]
  simp [f_are_names, trimF, runF, b_are_names, slots, v_lenL hv, q1, q2, e1, lp, v_allT]
end K09

namespace K09
open PySem PySem.Spec PyProof.Rows L2 Mi
theorem bread1_ok {C : CE} {b : Bk} (B : b.Ok) {A : AH} {j ea : Nat} {rv vM vR v7 : AV} (hB : A[j]? = some (.ins cl_Book (b.fs ea rv))) (hea : ea < A.length) (cM : clean (A.length + 1) vM = true) (cR : clean (A.length + 1) vR = true) (c7 : clean (A.length + 1) v7 = true)
    {l : List Str} (nd : l.Nodup) (sub : ∀ x ∈ l, x ∈ b.M) {a0 : List AV} (c0 : cleans (A.length + 1) a0 = true) (ha : a0.length ≤ 100) :
    kFor (gNm 9) (l2_Book___init__ C) [some (.ref j), some (.ref ea), some vM, some vR, none, none, some (.ref A.length), some v7, some (.ctp l), none, none] (.tup (sts l)) (A ++ [.lst a0]) = .ok (.nx [some (.ref j), some (.ref ea), some vM, some vR, none, none, some (.ref A.length), some v7, some (.ctp l), none, none]) (A ++ [.lst (a0 ++ sts l)]) := by
  have z := kFor_acc (s := .tup (sts l)) (xs := l) (enc := AV.str) (g := gNm 9) (b := l2_Book___init__ C) (σ := [some (.ref j), some (.ref ea), some vM, some vR, none, none, some (.ref A.length), some v7, some (.ctp l), none, none]) (A := A) (a0 := a0) (fun x => [.str x]) (fun X => src_tupI) (fun ys x zs hx => by
    have xm := mem_left hx
    have xM := sub x xm
    have ll : l.length ≤ 4 := Nat.le_trans (nd_len nd sub) B.m2
    have yl := len_pre hx
    refine ⟨_, rfl, ?_⟩
    rw [flatMap_one]
    have hG : (A ++ [AO.lst (a0 ++ ys.map AV.str)])[j]? = some (.ins cl_Book (b.fs ea rv)) := get_app hB
    have hj : clean (A.length + 1) (.ref j) = true := clean_at hB
    have he1 : clean (A.length + 1) (.ref ea) = true := clean_lt (by omega)
    have lm : List.lookup ("marks" : Str) (b.fs ea rv) = some (.fl (sts b.M)) := rfl
    have ge : (A ++ [AO.lst (a0 ++ ys.map AV.str)])[A.length]? = some (.lst (a0 ++ ys.map AV.str)) := end_get
    have ap := v_app (v := .str x) ge (by rw [List.length_append, List.length_map]; omega)
    have il := is_lst (lst_ref ge)
    rw [end_set] at ap
    have cn : l.count x = 1 := by rw [List.Nodup.count nd, if_pos xm]
    have ct : isCt (.ctp l) (A ++ [AO.lst (a0 ++ ys.map AV.str)]) = true := rfl
    have ca : cleans (A.length + 1) (a0 ++ ys.map AV.str) = true := by simp [c0]
    generalize a0 ++ ys.map AV.str = acc at *
    have ni := v_notinE (C := C) (xs := b.M) (x := x) (h := A ++ [AO.lst acc])
    generalize sts b.M = MM at *
    simp [l2_Book___init__, k_fldE, hG, oFld_ins, lm, ni, xM, ct, v_tcount, cn, il, ap, trimG_acc0, hj, he1, cM, cR, c7, ca])
  rw [z, flatMap_one]
theorem bread_ok {C : CE} {b : Bk} (B : b.Ok) {A : AH} {j ea : Nat} {rv vM vR : AV} (hB : A[j]? = some (.ins cl_Book (b.fs ea rv))) (hea : ea < A.length) (cM : clean (A.length + 1) vM = true) (cR : clean (A.length + 1) vR = true) :
    kFor (gNm 7) (l0_Book___init__ C) [some (.ref j), some (.ref ea), some vM, some vR, none, none, some (.ref A.length), none, none, none, none] (.tup b.rd) (A ++ [.lst []]) = .ok (.nx [some (.ref j), some (.ref ea), some vM, some vR, none, none, some (.ref A.length), none, none, none, none]) (A ++ [.lst (sts (b.Rd.flatMap fun p => p.1 ++ p.2))]) := by
  have hj : clean (A.length + 1) (.ref j) = true := clean_at hB
  have he1 : clean (A.length + 1) (.ref ea) = true := clean_lt (by omega)
  have z := kFor_acc (s := .tup b.rd) (xs := b.Rd) (enc := fun p => AV.tup [.ctp p.1, .ctp p.2]) (g := gNm 7) (b := l0_Book___init__ C) (σ := [some (.ref j), some (.ref ea), some vM, some vR, none, none, some (.ref A.length), none, none, none, none]) (A := A) (a0 := []) (fun p => sts (p.1 ++ p.2)) (fun X => src_tupI) (fun ys p zs hx => by
    have pm := mem_left hx
    obtain ⟨n1, n2, s1, s2⟩ := B.rm p pm
    have yl := len_pre hx
    have rl3 : b.Rd.length ≤ 3 := by rw [B.rl]; exact B.eng.p2
    have al : (ys.flatMap fun p => sts (p.1 ++ p.2)).length ≤ 8 * ys.length := flatMap_len fun q hq => by
      obtain ⟨m1, m2, t1, t2⟩ := B.rm q (mem_pre hx hq)
      have := nd_len m1 t1; have := nd_len m2 t2; have := B.m2
      simp; omega
    have ca : cleans (A.length + 1) (ys.flatMap fun p => sts (p.1 ++ p.2)) = true := by
      rw [← List.map_flatMap]; exact cleans_sts
    refine ⟨_, rfl, ?_⟩
    have w1 := bread1_ok (C := C) B (v7 := .tup [.ctp p.1, .ctp p.2]) hB hea cM cR (by simp) n1 s1 ca (by omega)
    have w2 := bread1_ok (C := C) B (v7 := .tup [.ctp p.1, .ctp p.2]) hB hea cM cR (by simp) n2 s2 (a0 := (ys.flatMap fun p => sts (p.1 ++ p.2)) ++ sts p.1) (by rw [cleans_app, ca, cleans_sts]; rfl) (by
      have := nd_len n1 s1; have := B.m2
      rw [List.length_append, List.length_map]; omega)
    have in_ := kFor_acc (s := .tup [.ctp p.1, .ctp p.2]) (xs := [p.1, p.2]) (enc := AV.ctp) (g := gNm 8) (b := l1_Book___init__ C) (σ := [some (.ref j), some (.ref ea), some vM, some vR, none, none, some (.ref A.length), some (.tup [.ctp p.1, .ctp p.2]), none, none, none]) (A := A) (a0 := ys.flatMap fun p => sts (p.1 ++ p.2)) (fun l => sts l) (fun X => src_tupI) (fun us l vs hl => by
      refine ⟨_, rfl, ?_⟩
      cases us with
      | nil =>
        cases hl
        rw [List.flatMap_nil, List.append_nil]
        generalize (ys.flatMap fun p => sts (p.1 ++ p.2)) = acc at *
        simp [l1_Book___init__, w1, trimG_acc0, hj, he1, cM, cR, ca]
      | cons u us =>
        cases us with
        | nil =>
          cases hl
          rw [flatMap_cons1]
          generalize (ys.flatMap fun p => sts (p.1 ++ p.2)) = acc at *
          simp at w2
          simp [l1_Book___init__, w2, trimG_acc0, hj, he1, cM, cR, ca]
        | cons u2 us =>
          have := congrArg List.length hl
          simp at this)
    simp only [List.nil_append]
    have e2 : [p.1, p.2].flatMap (fun l => sts l) = sts (p.1 ++ p.2) := by simp
    rw [e2] at in_
    have ca2 : cleans (A.length + 1) ((ys.flatMap fun p => sts (p.1 ++ p.2)) ++ sts (p.1 ++ p.2)) = true := by rw [cleans_app, ca, cleans_sts]; rfl
    generalize (ys.flatMap fun p => sts (p.1 ++ p.2)) ++ sts (p.1 ++ p.2) = acc2 at *
    generalize (ys.flatMap fun p => sts (p.1 ++ p.2)) = acc at *
    simp [l0_Book___init__, in_, trimG_acc0, hj, he1, cM, cR, ca2])
  rw [z, List.nil_append, ← List.map_flatMap]
theorem bmarks_ok {C : CE} {A : AH} {o0 o1 o2 o3 : Option AV} {M rd : List Str} {σ : Sl} (hσ : σ = [o0, o1, o2, o3, none, none, some (.ref A.length), none, none, none, none]) (hs : cleanS (A.length + 1) [o0, o1, o2, o3] = true) (h : ∀ x ∈ M, x ∈ rd) :
    kFor (gNm 10) (l3_Book___init__ C) σ (.tup (sts M)) (A ++ [.lst (sts rd)]) = .ok (.nx σ) (A ++ [.lst (sts rd)]) := by
  subst hσ
  refine kFor_same (xs := M) (enc := AV.str) src_tupI fun x hx => ⟨_, rfl, ?_⟩
  have ge : (A ++ [AO.lst (sts rd)])[A.length]? = some (.lst (sts rd)) := end_get
  have ni := v_notin (C := C) (x := x) (seq_of_lst (lst_ref ge))
  have xr := h x hx
  have cs : cleanS (A.length + 1) [o0, o1, o2, o3, none, none, some (.ref A.length), none, none, none, none] = true := by
    unfold cleanS at hs ⊢
    simp only [List.all_cons, List.all_nil, Bool.and_eq_true, Bool.and_true] at hs ⊢
    simp [hs]
  have tr := trimG_acc0 (js := [10]) (xs := sts rd) (ys := sts rd) (σ1 := [o0, o1, o2, o3, none, none, some (.ref A.length), none, none, none, some (.str x)]) cleans_sts cs
  simp [l3_Book___init__, ni, xr]
  exact tr
theorem binit_ok {k ea : Nat} {b : Bk} (B : b.Ok) {A : AH} {vM vR t : AV} {rows : List AV} (hE : A[ea]? = some (.ins cl_Engine (b.e.fs t))) (hM : ∀ X, seqOf vM (A ++ X) = some (sts b.M)) (hR : ∀ X, lstOf vR (A ++ X) = some rows) (cM : ∀ m, clean (A.length + m) vM = true) (cR : ∀ m, clean (A.length + m) vR = true) (rlen : rows.length = b.Rd.length)
    (hrow : ∀ (i : Nat) p, b.Rd[i]? = some p → ∃ w1 w2, rows[i]? = some (.tup [w1, w2]) ∧ ∀ X, lstOf w1 (A ++ X) = some (sts p.1) ∧ lstOf w2 (A ++ X) = some (sts p.2)) :
    (ceN bod pd (k + 3)).mak nm_Book___init__ [.ref A.length, .ref ea, vM, vR] (A ++ [.ins cl_Book []]) = .ok .non (A ++ [.ins cl_Book (b.fs ea (.ref (A.length + 1))), .dt []]) := by
  have e1 := namesM_ok (k := k) (n := 4) (v := .fl (sts b.M)) (A := A ++ [.ins cl_Book (b.fs ea (.ref (A.length + 1))), .dt []]) rfl B.mnd B.m1 B.m2 (by decide) B.min
  rw [show ((4 : Nat) : Int) = 4 from rfl] at e1
  show f_Book___init__ (ceN bod pd (k + 2)) [.ref A.length, .ref ea, vM, vR] (A ++ [.ins cl_Book []]) = _
  generalize ceN bod pd (k + 2) = C at e1 ⊢
  have p2 : b.e.P.length ≤ 3 := B.eng.p2
  have rl3 : rows.length ≤ 3 := by rw [rlen, B.rl]; exact p2
  have hea : ea < A.length := (List.getElem?_eq_some_iff.mp hE).1
  have c0 : ∀ z, c0_Book___init__ C [some (.ref A.length), some (.ref ea), some vM, some vR, none, none, none, none, none, none, none] (A ++ [z]) = .ok (.fl b.rd) (A ++ [z]) := fun z => by
    unfold c0_Book___init__
    obtain ⟨s, hs1, hs2⟩ := isrc_of (seq_of_lst (hR [z]))
    refine sLcF_ys (s := s) (xs := rows) (by simp [hs1]) hs2 (by simp [Bk.rd, rlen]) (by simp [Bk.rd]; omega) fun i x y hx hy => ?_
    unfold Bk.rd at hy
    rw [List.getElem?_map] at hy
    obtain ⟨p, hp, rfl⟩ := Option.map_eq_some_iff.mp hy
    obtain ⟨w1, w2, q1, q2⟩ := hrow i p hp
    rw [q1] at hx
    cases hx
    have t1 := v_tup (q2 [z]).1
    have t2 := v_tup (q2 [z]).2
    exact ⟨_, rfl, by simp [wipeA, t1, t2, sizeLine_eq]⟩
  have vl : ∀ X, bList false C vM (A ++ X) = .ok (.fl (sts b.M)) (A ++ X) := fun X => v_listf (hM X)
  have hE2 : ∀ X, (A ++ X)[ea]? = some (.ins cl_Engine (b.e.fs t)) := fun X => get_app hE
  have lp : List.lookup ("passes" : Str) (b.e.fs t) = some (.fl b.e.pt) := rfl
  have ln : (b.rd.length : Int) = (b.e.pt.length : Int) := by simp [Bk.rd, Eng.pt, B.rl]
  have lm : List.lookup ("marks" : Str) (b.fs ea (.ref (A.length + 1))) = some (.fl (sts b.M)) := rfl
  have lr : List.lookup ("reads" : Str) (b.fs ea (.ref (A.length + 1))) = some (.fl b.rd) := rfl
  have g2 : (A ++ [AO.ins cl_Book (b.fs ea (.ref (A.length + 1))), .dt []])[A.length]? = some (.ins cl_Book (b.fs ea (.ref (A.length + 1)))) := end_get
  have w1 := bread_ok (C := C) B (A := A ++ [AO.ins cl_Book (b.fs ea (.ref (A.length + 1))), .dt []]) (vM := vM) (vR := vR) (ea := ea) g2 (by simp; omega) (by simpa [Nat.add_assoc] using cM 3) (by simpa [Nat.add_assoc] using cR 3)
  have w2 := bmarks_ok (C := C) (A := A ++ [AO.ins cl_Book (b.fs ea (.ref (A.length + 1))), .dt []]) (o0 := some (.ref A.length)) (o1 := some (.ref ea)) (o2 := some vM) (o3 := some vR) (M := b.M) (rd := b.Rd.flatMap fun p => p.1 ++ p.2) rfl (by
    have c1 : clean (A.length + 3) (.ref A.length) = true := clean_lt (by omega)
    have c2 : clean (A.length + 3) (.ref ea) = true := clean_lt (by omega)
    have c3 := cM 3
    have c4 := cR 3
    simp [Nat.add_assoc, c1, c2, c3, c4]) (fun x hx => by
      obtain ⟨p, hp, h⟩ := B.rc x hx
      exact List.mem_flatMap.mpr ⟨p, hp, List.mem_append.mpr h⟩)
  have pu : ∀ r, putA "rules" r ([("engine", .ref ea), ("marks", .fl (sts b.M)), ("reads", .fl b.rd)] : Fs) = b.fs ea r := fun r => rfl
  have tr : trimR 1 (A ++ [AO.ins cl_Book []]) (.ok .non (A ++ [AO.ins cl_Book (b.fs ea (.ref (A.length + 1))), .dt [], .lst (sts (b.Rd.flatMap fun p => p.1 ++ p.2))])) = .ok .non (A ++ [AO.ins cl_Book (b.fs ea (.ref (A.length + 1))), .dt []]) := trim1_two (by
    have c1 : clean (A.length + 2) (.ref ea) = true := clean_lt (by omega)
    have c2 : clean (A.length + 2) (.ref (A.length + 1)) = true := clean_lt (by omega)
    simp [cleanO, Bk.fs, c1, c2, clean_rd]) (by simp [cleanO]) rfl
  simp only [List.append_assoc, List.cons_append, List.nil_append, List.length_append, List.length_cons, List.length_nil] at w1 w2
  generalize (b.Rd.flatMap fun p => p.1 ++ p.2) = RD at *
  generalize sts b.M = MM at *
  generalize b.rd = RR at *
  simp [f_Book___init__, trimF, runF, b_Book___init__, slots, k_fldSE, k_fldE, oFldS_ins, oFld_ins, pub0, pub1, pub2, pu, vl, c0, hE2, lp, ln, lm, lr, e1, w1, w2, tr]
end K09

namespace K09
open PySem PySem.Spec PyProof.Rows L2 Mi
theorem init_ok {k : Nat} {e : Eng} {A : AH} {vk vp vs : AV} {rows : List AV} (E : e.Ok) (hk : ∀ X, seqOf vk (A ++ X) = some (sts e.K)) (hp : ∀ X, seqOf vp (A ++ X) = some rows) (hr : RowsOk A rows e.P) (hs : SrcsOk A vs e) :
    (ceN bod pd (k + 3)).mak nm_Engine___init__ [.ref A.length, vk, vp, vs] (A ++ [.ins cl_Engine []]) = .ok .non (A ++ [.ins cl_Engine (e.fs (.ref (A.length + 1))), .dt (tab e.N e.K e.R)]) := by
  have n1 := fun X => names_ok (k := k) (n := 3) (v := .fl (sts e.K)) (A := X) rfl E.knd E.k1 E.k2 (by decide) fun x hx => List.mem_append_left _ (E.kin x hx)
  have n2 := fun X => names_ok (k := k) (n := 4) (v := .fl (sts e.N)) (A := X) rfl E.nnd E.n1 E.n2 (by decide) fun x hx => List.mem_append_right _ (E.nin x hx)
  have n3 := fun (X : AH) (t : AV) (hX : X[A.length]? = some (.ins cl_Engine (e.fs t))) l h1 h2 h3 h4 => checked_ok (k := k) (l := l) hX lu_a E.nin h1 h2 h3 h4
  show f_Engine___init__ (ceN bod pd (k + 2)) [.ref A.length, vk, vp, vs] (A ++ [.ins cl_Engine []]) = _
  generalize ceN bod pd (k + 2) = C at n1 n2 n3 ⊢
  have q1 : (1 : Int) ≤ (e.P.length : Int) := by have := E.p1; omega
  have q2 : (e.P.length : Int) ≤ 3 := by have := E.p2; omega
  have p1 : ∀ X, c0_Engine___init__ C [some (.ref A.length), some vk, some vp, some vs, none, none, none, none, none] (A ++ X) = .ok (.fl e.pt) (A ++ X) := fun X => by
    unfold c0_Engine___init__
    obtain ⟨s, hs1, hs2⟩ := isrc_of (hp X)
    refine sLcF_ys (s := s) (by simp [hs1]) hs2 (by rw [hr.1]; simp [Eng.pt]) (by have := E.p2; simp [Eng.pt]; omega) fun i x y hx hy => ?_
    unfold Eng.pt at hy
    rw [List.getElem?_map] at hy
    obtain ⟨p, hp1, rfl⟩ := Option.map_eq_some_iff.mp hy
    obtain ⟨w, hw1, hw2⟩ := hr.2 i p hp1
    rw [hw1] at hx
    cases hx
    refine ⟨_, rfl, ?_⟩
    simp [wipeA, v_tup (hw2 X), sizeLine_eq]
  have p2 : ∀ fs : Fs, fs.lookup ("passes" : Str) = some (.fl e.pt) → c1_Engine___init__ C [some (.ref A.length), some vk, some vp, some vs, none, none, none, none, none] (A ++ [.ins cl_Engine fs]) = .ok (.fl (sts e.N)) (A ++ [.ins cl_Engine fs]) := fun fs hf => by
    unfold c1_Engine___init__
    rw [← e.pt_names]
    refine sLc2F_ok (s := .tup e.pt) _ (by simp [k_fldE, oFld_ins, hf]) src_tupI (by rw [e.pt_names, List.length_map, sizeLine_eq]; have := E.n2; omega) fun x hx => ?_
    obtain ⟨p, hp1, rfl⟩ := List.mem_map.mp hx
    refine ⟨_, .tup (sts p.2), sts p.2, rfl, by simp [wipeA], src_tupI, rfl, fun i y hy => ⟨_, rfl, y, hy, by simp [wipeA]⟩⟩
  have p3 : ∀ fs : Fs, ∃ o4 o5, kFor (gTp [4, 5]) (l0_Engine___init__ C) [some (.ref A.length), some vk, some vp, some vs, none, none, none, none, none] (.tup e.pt) (A ++ [.ins cl_Engine fs]) = .ok (.nx [some (.ref A.length), some vk, some vp, some vs, o4, o5, none, none, none]) (A ++ [.ins cl_Engine fs]) := fun fs => by
    obtain ⟨σ2, h2, e1, rfl, o4, o5, rfl⟩ := kFor_inv (s := .tup e.pt) (xs := e.pt) (g := gTp [4, 5]) (b := l0_Engine___init__ C) (σ := [some (.ref A.length), some vk, some vp, some vs, none, none, none, none, none]) (h := A ++ [.ins cl_Engine fs])
      (fun _ τ h' => h' = A ++ [.ins cl_Engine fs] ∧ ∃ o4 o5, τ = [some (.ref A.length), some vk, some vp, some vs, o4, o5, none, none, none]) rfl (fun _ _ _ _ => rfl) ⟨rfl, _, _, rfl⟩ fun i x τ h' hx hI => by
        obtain ⟨rfl, o4, o5, rfl⟩ := hI
        obtain ⟨p, hp1, rfl⟩ := List.mem_map.mp (List.mem_of_getElem? hx)
        have i1 : oNotInA C (.str p.1) (.tup [.str "down", .str "up"]) (A ++ [.ins cl_Engine fs]) = .ok (.bl false) (A ++ [.ins cl_Engine fs]) := by
          rw [v_notin (xs := ["down", "up"]) rfl]
          rcases E.pdir p hp1 with z | z <;> simp [z]
        have i2 : ¬ p.2 = [] := E.pne p hp1
        refine ⟨_, _, _, rfl, ?_, rfl, some (.str p.1), some (.ctp p.2), rfl⟩
        simp [l0_Engine___init__, i1, i2, sizeLine_eq]
    exact ⟨o4, o5, e1⟩
  have p4 : ∀ (fs : Fs) o4 o5, fs.lookup ("attributes" : Str) = some (.fl (sts e.N)) → ∃ o7, kFor (gNm 7) (l1_Engine___init__ C) [some (.ref A.length), some vk, some vp, some vs, o4, o5, none, none, none] (.tup (sts ["style", "insert", "remove", "move", "fence"])) (A ++ [.ins cl_Engine fs]) = .ok (.nx [some (.ref A.length), some vk, some vp, some vs, o4, o5, none, o7, none]) (A ++ [.ins cl_Engine fs]) := fun fs o4 o5 hf => by
    obtain ⟨σ2, h2, e1, rfl, o7, rfl⟩ := kFor_inv (s := .tup (sts ["style", "insert", "remove", "move", "fence"])) (xs := sts ["style", "insert", "remove", "move", "fence"]) (g := gNm 7) (b := l1_Engine___init__ C) (σ := [some (.ref A.length), some vk, some vp, some vs, o4, o5, none, none, none]) (h := A ++ [.ins cl_Engine fs])
      (fun _ τ h' => h' = A ++ [.ins cl_Engine fs] ∧ ∃ o7, τ = [some (.ref A.length), some vk, some vp, some vs, o4, o5, none, o7, none]) rfl (fun _ _ _ _ => rfl) ⟨rfl, _, rfl⟩ fun i x τ h' hx hI => by
        obtain ⟨rfl, o7, rfl⟩ := hI
        obtain ⟨w, hw, rfl⟩ := List.mem_map.mp (List.mem_of_getElem? hx)
        have ne : w ∉ e.N := fun z => (by decide +kernel : ∀ w ∈ (["style", "insert", "remove", "move", "fence"] : List Str), w ∉ menuN) w hw (E.nin w z)
        have i1 : oInA C (.str w) (.fl (sts e.N)) (A ++ [.ins cl_Engine fs]) = .ok (.bl false) (A ++ [.ins cl_Engine fs]) := by
          rw [v_in (xs := e.N) rfl]; simp [ne]
        refine ⟨_, _, _, rfl, ?_, rfl, some (.str w), rfl⟩
        simp [l1_Engine___init__, i1, k_fldE, oFld_ins, hf]
    exact ⟨o7, e1⟩
  have p5 : ∀ o4 o5 o7, ∃ σ2, kFor (gNm 8) (l2_Engine___init__ C) [some (.ref A.length), some vk, some vp, some vs, o4, o5, none, o7, none] (.tup (sts e.K)) (A ++ [.ins cl_Engine (e.fs (.ref (A.length + 1))), .dt []]) = .ok (.nx σ2) (A ++ [.ins cl_Engine (e.fs (.ref (A.length + 1))), .dt (tab e.N e.K e.R)]) := fun o4 o5 o7 => by
    obtain ⟨σ2, h2, e1, rfl, _⟩ := kFor_inv (s := .tup (sts e.K)) (xs := sts e.K) (g := gNm 8) (b := l2_Engine___init__ C) (σ := [some (.ref A.length), some vk, some vp, some vs, o4, o5, none, o7, none]) (h := A ++ [.ins cl_Engine (e.fs (.ref (A.length + 1))), .dt []])
      (fun i τ h' => h' = A ++ [.ins cl_Engine (e.fs (.ref (A.length + 1))), .dt (tab e.N (e.K.take i) (e.R.take i))] ∧ ∃ o6 o8, τ = [some (.ref A.length), some vk, some vp, some vs, o4, o5, o6, o7, o8]) rfl (fun _ _ _ _ => rfl) ⟨rfl, _, _, rfl⟩ fun i x τ h' hx hI => by
        obtain ⟨rfl, o6, o8, rfl⟩ := hI
        rw [List.getElem?_map] at hx
        obtain ⟨kd, hkd, rfl⟩ := Option.map_eq_some_iff.mp hx
        have hi : i < e.R.length := by rw [E.r1]; exact (List.getElem?_eq_some_iff.mp hkd).1
        obtain ⟨r, hr0⟩ : ∃ r, e.R[i]? = some r := ⟨_, List.getElem?_eq_getElem hi⟩
        have rm : r ∈ e.R := List.mem_of_getElem? hr0
        obtain ⟨d, hd1, hd2⟩ := hs.2 i kd r hkd hr0
        have rl : r.length = e.N.length := E.r2 _ rm
        have tk : e.K.take (i + 1) = e.K.take i ++ [kd] := by rw [List.take_succ, hkd]; rfl
        have tr : e.R.take (i + 1) = e.R.take i ++ [r] := by rw [List.take_succ, hr0]; rfl
        have kn : kd ∉ e.K.take i := by
          have z := (List.take_sublist (i + 1) e.K).nodup E.knd
          rw [tk, List.nodup_append] at z
          exact fun y => z.2.2 kd y kd (by simp) rfl
        have tl : (tab e.N (e.K.take i) (e.R.take i)).length ≤ 12 := by
          have z := tab_length (N := e.N) (K := e.K.take i) (R := e.R.take i) fun r hr => E.r2 r (List.mem_of_mem_take hr)
          have z2 : (e.K.take i).length ≤ 3 := by rw [List.length_take]; have := E.k2; omega
          have z3 := E.n2
          calc _ ≤ _ := z
            _ ≤ 3 * 4 := Nat.mul_le_mul z2 z3
        have inner : ∃ o6', kFor (gNm 6) (l3_Engine___init__ C) [some (.ref A.length), some vk, some vp, some vs, o4, o5, o6, o7, some (.str kd)] (.tup (sts e.N)) (A ++ [.ins cl_Engine (e.fs (.ref (A.length + 1))), .dt (tab e.N (e.K.take i) (e.R.take i))]) = .ok (.nx [some (.ref A.length), some vk, some vp, some vs, o4, o5, o6', o7, some (.str kd)]) (A ++ [.ins cl_Engine (e.fs (.ref (A.length + 1))), .dt (tab e.N (e.K.take i) (e.R.take i) ++ tabRow e.N kd r)]) := by
          obtain ⟨σ2, h2, e1, rfl, o6', rfl⟩ := kFor_inv (s := .tup (sts e.N)) (xs := sts e.N) (g := gNm 6) (b := l3_Engine___init__ C) (σ := [some (.ref A.length), some vk, some vp, some vs, o4, o5, o6, o7, some (.str kd)]) (h := A ++ [.ins cl_Engine (e.fs (.ref (A.length + 1))), .dt (tab e.N (e.K.take i) (e.R.take i))])
            (fun j τ h' => h' = A ++ [.ins cl_Engine (e.fs (.ref (A.length + 1))), .dt (tab e.N (e.K.take i) (e.R.take i) ++ tabRow (e.N.take j) kd (r.take j))] ∧ ∃ o6, τ = [some (.ref A.length), some vk, some vp, some vs, o4, o5, o6, o7, some (.str kd)]) rfl (fun _ _ _ _ => rfl) ⟨by simp [tabRow], _, rfl⟩ fun j x τ h' hx hI => by
              obtain ⟨rfl, o6, rfl⟩ := hI
              rw [List.getElem?_map] at hx
              obtain ⟨nm, hnm, rfl⟩ := Option.map_eq_some_iff.mp hx
              have hj : j < r.length := by rw [rl]; exact (List.getElem?_eq_some_iff.mp hnm).1
              obtain ⟨l, hl0⟩ : ∃ l, r[j]? = some l := ⟨_, List.getElem?_eq_getElem hj⟩
              obtain ⟨w, hw⟩ := hd2 j nm _ hnm hl0
              have tn : e.N.take (j + 1) = e.N.take j ++ [nm] := by rw [List.take_succ, hnm]; rfl
              have tl2 : r.take (j + 1) = r.take j ++ [l] := by rw [List.take_succ, hl0]; rfl
              have nn : nm ∉ e.N.take j := by
                have z := (List.take_sublist (j + 1) e.N).nodup E.nnd
                rw [tn, List.nodup_append] at z
                exact fun y => z.2.2 nm y nm (by simp) rfl
              have fresh : [Sum.inr kd, Sum.inr nm] ∉ (tab e.N (e.K.take i) (e.R.take i) ++ tabRow (e.N.take j) kd (r.take j)).map (·.1) := by
                rw [List.map_append, List.mem_append]
                rintro (z | z)
                · obtain ⟨k2, h1, n2, _, e2⟩ := tab_key z
                  simp at e2
                  exact kn (e2.1 ▸ h1)
                · obtain ⟨n2, h1, e2⟩ := tabRow_key z
                  simp at e2
                  exact nn (e2 ▸ h1)
              have len : (tab e.N (e.K.take i) (e.R.take i) ++ tabRow (e.N.take j) kd (r.take j)).length < 1000 := by
                have z3 := E.n2
                simp only [List.length_append, tabRow, List.length_map, List.length_zip, List.length_take]
                omega
              obtain ⟨c1, c2, c3, c4⟩ := E.r3 r rm l (List.mem_of_getElem? hl0)
              rw [tn, tl2, tabRow_snoc (by simp only [List.length_take]; omega), ← List.append_assoc]
              generalize tab e.N (e.K.take i) (e.R.take i) ++ tabRow (e.N.take j) kd (r.take j) = T at fresh len ⊢
              have ck := n3 (A ++ [.ins cl_Engine (e.fs (.ref (A.length + 1))), .dt T]) (.ref (A.length + 1)) end_get l c1 c2 c3 c4
              refine ⟨_, [some (.ref A.length), some vk, some vp, some vs, o4, o5, some (.str nm), o7, some (.str kd)], _, rfl, ?_, rfl, _, rfl⟩
              have z1 := (hd1 [.ins cl_Engine (e.fs (.ref (A.length + 1))), .dt T]).1
              have z2 := (hw [.ins cl_Engine (e.fs (.ref (A.length + 1))), .dt T])
              have tt : List.lookup ("table" : Str) (e.fs (.ref (A.length + 1))) = some (.ref (A.length + 1)) := rfl
              simp [l3_Engine___init__, v_ixD z1, v_notinD z2.1, v_ixD z2.1, v_listf (seq_of_lst z2.2), k_fldE, oFld_ins, k_methE, oMeth_ins lu_ch, ck, tt, sizeLine_eq, p_dt end_get1 fresh len, end_set1]
          refine ⟨o6', ?_⟩
          rw [e1, List.length_map, show r.take e.N.length = r from by rw [← rl, List.take_length], List.take_length]
        obtain ⟨o6', inner⟩ := inner
        refine ⟨_, [some (.ref A.length), some vk, some vp, some vs, o4, o5, o6', o7, some (.str kd)], _, rfl, ?_, rfl, _, _, rfl⟩
        rw [tk, tr, tab_snoc (by simp only [List.length_take]; rw [E.r1])]
        generalize tab e.N (e.K.take i) (e.R.take i) = T at inner ⊢
        have z1 := (hd1 [.ins cl_Engine (e.fs (.ref (A.length + 1))), .dt T])
        have ta : List.lookup ("attributes" : Str) (e.fs (.ref (A.length + 1))) = some (.fl (sts e.N)) := rfl
        simp [l2_Engine___init__, v_notinD z1.1, v_ixD z1.1, v_lenD z1.2, k_fldE, oFld_ins, ta, inner]
    refine ⟨σ2, ?_⟩
    rw [e1, List.length_map, show e.R.take e.K.length = e.R from by rw [← E.r1, List.take_length], List.take_length]
  obtain ⟨o4, o5, p3⟩ := p3 [("kinds", .fl (sts e.K)), ("passes", .fl e.pt), ("attributes", .fl (sts e.N))]
  obtain ⟨o7, p4⟩ := p4 [("kinds", .fl (sts e.K)), ("passes", .fl e.pt), ("attributes", .fl (sts e.N))] o4 o5 rfl
  obtain ⟨σ2, p5⟩ := p5 o4 o5 o7
  have p2 := p2 [("kinds", .fl (sts e.K)), ("passes", .fl e.pt)] rfl
  have n1 := n1 (A ++ [.ins cl_Engine [("kinds", .fl (sts e.K)), ("passes", .fl e.pt), ("attributes", .fl (sts e.N))]])
  have n2 := n2 (A ++ [.ins cl_Engine [("kinds", .fl (sts e.K)), ("passes", .fl e.pt), ("attributes", .fl (sts e.N))]])
  have p1 := p1 [.ins cl_Engine [("kinds", .fl (sts e.K))]]
  have hl := hs.1 [.ins cl_Engine [("kinds", .fl (sts e.K)), ("passes", .fl e.pt), ("attributes", .fl (sts e.N)), ("table", .ref (A.length + 1))], .dt []]
  have q3 : e.pt.length = e.P.length := by simp [Eng.pt]
  have w1 : oAdd false (.ctp ["style", "insert", "remove", "move"]) (.tup [.str "fence"]) (A ++ [.ins cl_Engine [("kinds", .fl (sts e.K)), ("passes", .fl e.pt), ("attributes", .fl (sts e.N))]]) = .ok (.tup (sts ["style", "insert", "remove", "move", "fence"])) (A ++ [.ins cl_Engine [("kinds", .fl (sts e.K)), ("passes", .fl e.pt), ("attributes", .fl (sts e.N))]]) := by
    simp [oAdd, sizeLine_eq]
  generalize sts ["style", "insert", "remove", "move", "fence"] = ws at w1 p4
  simp only [Eng.fs] at p5 ⊢
  rw [show ((3 : Nat) : Int) = 3 from rfl] at n1
  rw [show ((4 : Nat) : Int) = 4 from rfl] at n2
  simp [f_Engine___init__, trimF, runF, b_Engine___init__, slots, v_listf (hk [.ins cl_Engine []]), k_fldE, oFld_ins, k_fldSE, oFldS_ins, pu0, pu1, pu2, pu3, lu_k, lu_p, lu_a, lu_t, p1, p2, n1, n2, q1, q2, q3, p3, w1, p4, v_lenD hl, p5, trim1_len, sizeLine_eq]
end K09

namespace K09
open PySem PySem.Spec PyProof.Rows L2 Mi
theorem get_ok {k a : Nat} {e : Eng} (E : e.Ok) {A : AH} (hA : A[a]? = some (.ins cl_Engine (e.fs e.tv))) {i j : Nat} {kd n : Str} {r : List (List Str)} {l : List Str} (hk : e.K[i]? = some kd) (hr : e.R[i]? = some r) (hn : e.N[j]? = some n) (hl : r[j]? = some l) :
    (ceN bod pd (k + 1)).call nm_Engine___getitem__ [.ref a, .tup [.str kd, .str n]] A = .ok (.ref A.length) (A ++ [.lst (sts l)]) := by
  have g := v_get_tab E (h := A) hk hr hn hl
  have lt : List.lookup ("table" : Str) (e.fs e.tv) = some e.tv := rfl
  show f_Engine___getitem__ (ceN bod pd k) [.ref a, .tup [.str kd, .str n]] A = _
  generalize ceN bod pd k = C
  generalize e.tv = tv at *
  simp [f_Engine___getitem__, trimF, runF, b_Engine___getitem__, slots, k_fldE, hA, oFld_ins, lt, v_notinD g, v_ixD g, v_listt (show seqOf (.ctp l) A = some (sts l) from rfl), trim_ref (Nat.le_refl A.length)]
/-- the law's dict, wherever it lies -/
structure EngD (v : AV) (h : AH) (e : Eng) : Prop where
  k : dGetA v (.str "kinds") h = some (some (.fl (sts e.K)))
  p : dGetA v (.str "passes") h = some (some (.fl e.pv))
  s : dGetA v (.str "sources") h = some (some e.sv)
  n : dGetA v (.str "names") h = some (some (.fl (sts e.N)))
theorem engD_val {e : Eng} {h : AH} : EngD e.val h e := ⟨rfl, rfl, rfl, rfl⟩
theorem lturn_ok {k : Nat} {e : Eng} {v : AV} (E : e.Ok) {A : AH} (hp : dGetA v (.str "passes") A = some (some (.fl e.pv))) {n : Str} (hn : n ∈ e.N) :
    (ceN bod pd (k + 1)).call nm__law_turn [v, .str n] A = .ok (.int (e.turn n)) A := by
  show f__law_turn (ceN bod pd k) [v, .str n] A = _
  generalize ceN bod pd k = C
  have q3 : e.pv.length = e.P.length := by simp [Eng.pv]
  have q4 : e.P.length < 1000 := by have := E.p2; omega
  have lp : c0__law_turn C [some v, some (.str n), none] A = .ok (.fl (((List.range e.P.length).filter fun i => (e.P[i]?.map fun p => decide (n ∈ p.2)).getD false).map fun i => .int (i : Nat))) A := by
    unfold c0__law_turn
    rw [sLcF_ok (h1 := A) (s := .rng 0 e.P.length) (xs := rngL e.P.length) (g := gNm 2) (by simp [v_ixD hp, q3, k_rngN q4]) src_rngI (by simp [sizeLine_eq]; omega) (fun x => match x with | .int i => (e.P[i.toNat]?.map fun p => decide (n ∈ p.2)).getD false | _ => false) (fun x => x) fun x hx => ?_]
    · rw [List.filter_map, List.map_map]; rfl
    · obtain ⟨i, hi, rfl⟩ := List.mem_map.mp hx
      have hi := List.mem_range.mp hi
      obtain ⟨p, hp2⟩ : ∃ p, e.P[i]? = some p := ⟨_, List.getElem?_eq_getElem hi⟩
      have a1 : L2.atI e.pv (i : Int) = some (.fl [.str p.1, .fl (sts p.2)]) := atI_some (by unfold Eng.pv; rw [List.getElem?_map, hp2]; rfl)
      have a2 : L2.atI [AV.str p.1, .fl (sts p.2)] 1 = some (.fl (sts p.2)) := by simp [L2.atI, L2.ixN]
      have i1 : oInA C (.str n) (.fl (sts p.2)) A = .ok (.bl (decide (n ∈ p.2))) A := v_in (xs := p.2) rfl
      refine ⟨_, rfl, ?_, fun _ => by simp [wipeA]⟩
      simp [wipeA, v_ixD hp, a1, a2, i1, hp2]
  have hd : L2.atI (((List.range e.P.length).filter fun i => (e.P[i]?.map fun p => decide (n ∈ p.2)).getD false).map fun i => AV.int (i : Nat)) 0 = some (.int (e.turn n)) := by
    refine atI_some (i := 0) ?_
    obtain ⟨p, hp, hn2⟩ := List.mem_flatMap.mp hn
    rw [List.getElem?_map, filt_head (q := fun p : Str × List Str => decide (n ∈ p.2)) ⟨p, hp, by simpa using hn2⟩]
    rfl
  generalize (((List.range e.P.length).filter fun i => (e.P[i]?.map fun p => decide (n ∈ p.2)).getD false).map fun i => AV.int (i : Nat)) = ws at lp hd
  simp [f__law_turn, trimF, runF, b__law_turn, slots, lp, hd]
end K09

namespace K09
open PySem PySem.Spec PyProof.Rows L2 Mi
theorem sources_late {k : Nat} {N : List Str} {v : AV} {nm : Str} {ns : List Int} {o : AO} {R : AH} (T : Tp0 ns o) (n2 : N.length ≤ 4) (nin : ∀ x ∈ N, x ∈ menuN) (hv : ∀ o X, dGetA v (.str "names") (o :: (R ++ X)) = some (some (.fl (sts N)))) :
    ∃ (l : List Str) (o' : AO), Tp0 ns o' ∧ 1 ≤ l.length ∧ l.length ≤ 3 ∧ l.Nodup ∧ (∀ s ∈ l, goodSrc N s) ∧ (ceN bod pd (k + 3)).call nm__law_sources [.ref 0, v, .str nm, .bl true] (o :: R) = .ok (.fl (sts l)) (o' :: R) := by
  have e1 := fun (o : AO) (ms : List Str) (fo : List Str) (T : Tp0 ns o) h1 h2 => one_ok (k := k) (v := .ref (R.length + 1)) (ms := ms) (ns := ns) (o := o) (R := R ++ [.lst (sts ms), .lst (sts fo)]) T (fun o => lst_ref tl_get0) h1 h2
  have e2 := fun (o : AO) (X : AH) (T : Tp0 ns o) => pick_ok (k := k + 1) (n := 3) (R := R ++ X) T (by decide) (by decide)
  have key : ∃ (l : List Str) (o' : AO), Tp0 ns o' ∧ 1 ≤ l.length ∧ l.length ≤ 3 ∧ l.Nodup ∧ (∀ s ∈ l, goodSrc N s) ∧ f__law_sources (ceN bod pd (k + 2)) [.ref 0, v, .str nm, .bl true] (o :: R) = .ok (.fl (sts l)) (o' :: R) := by
    generalize ceN bod pd (k + 2) = C at e1 e2 ⊢
    have lp : ∃ o5 o6, kFor (gNm 5) (l0__law_sources C) [some (.ref 0), some v, some (.str nm), some (.bl true), some (.ref (R.length + 1)), none, none, none, none, none] (.tup (sts rels)) (o :: (R ++ [.lst (sts ["style"])])) = .ok (.nx [some (.ref 0), some v, some (.str nm), some (.bl true), some (.ref (R.length + 1)), o5, o6, none, none, none]) (o :: (R ++ [.lst (sts (("style" : Str) :: rels.flatMap fun r => N.map (srcOf r)))])) := by
      obtain ⟨σ2, h2, e1, rfl, o5, o6, rfl⟩ := kFor_inv (s := .tup (sts rels)) (xs := sts rels) (g := gNm 5) (b := l0__law_sources C) (σ := [some (.ref 0), some v, some (.str nm), some (.bl true), some (.ref (R.length + 1)), none, none, none, none, none]) (h := o :: (R ++ [.lst (sts ["style"])]))
        (fun i τ h' => h' = o :: (R ++ [.lst (sts (("style" : Str) :: (rels.take i).flatMap fun r => N.map (srcOf r)))]) ∧ ∃ o5 o6, τ = [some (.ref 0), some v, some (.str nm), some (.bl true), some (.ref (R.length + 1)), o5, o6, none, none, none]) rfl (fun _ _ _ _ => rfl) ⟨rfl, _, _, rfl⟩ fun i x τ h' hx hI => by
          obtain ⟨rfl, o5, o6, rfl⟩ := hI
          rw [List.getElem?_map] at hx
          obtain ⟨r, hri, rfl⟩ := Option.map_eq_some_iff.mp hx
          have hr : r ∈ rels := List.mem_of_getElem? hri
          have tk : rels.take (i + 1) = rels.take i ++ [r] := by rw [List.take_succ, hri]; rfl
          have ln : ∀ j, (sts ((("style" : Str) :: (rels.take i).flatMap fun r => N.map (srcOf r)) ++ (N.take j).map (srcOf r))).length < 1000 := fun j => by
            have z1 : ((rels.take i).flatMap fun r => N.map (srcOf r)).length ≤ 4 * 4 := by
              rw [flen]
              have y : (rels.take i).length ≤ 4 := by rw [List.length_take]; exact Nat.min_le_right _ _
              exact Nat.mul_le_mul y n2
            simp only [List.length_map, List.length_append, List.length_cons, List.length_take]
            omega
          have inner : ∃ o6', kFor (gNm 6) (l1__law_sources C) [some (.ref 0), some v, some (.str nm), some (.bl true), some (.ref (R.length + 1)), some (.str r), o6, none, none, none] (.tup (sts N)) (o :: (R ++ [.lst (sts (("style" : Str) :: (rels.take i).flatMap fun r => N.map (srcOf r)))])) = .ok (.nx [some (.ref 0), some v, some (.str nm), some (.bl true), some (.ref (R.length + 1)), some (.str r), o6', none, none, none]) (o :: (R ++ [.lst (sts ((("style" : Str) :: (rels.take i).flatMap fun r => N.map (srcOf r)) ++ N.map (srcOf r)))])) := by
            generalize (("style" : Str) :: (rels.take i).flatMap fun r => N.map (srcOf r) : List Str) = es at ln ⊢
            obtain ⟨σ2, h2, e1, rfl, o6', rfl⟩ := kFor_inv (s := .tup (sts N)) (xs := sts N) (g := gNm 6) (b := l1__law_sources C) (σ := [some (.ref 0), some v, some (.str nm), some (.bl true), some (.ref (R.length + 1)), some (.str r), o6, none, none, none]) (h := o :: (R ++ [.lst (sts es)]))
              (fun j τ h' => h' = o :: (R ++ [.lst (sts (es ++ (N.take j).map (srcOf r)))]) ∧ ∃ o6, τ = [some (.ref 0), some v, some (.str nm), some (.bl true), some (.ref (R.length + 1)), some (.str r), o6, none, none, none]) rfl (fun _ _ _ _ => rfl) ⟨by simp, _, rfl⟩ fun j x τ h' hx hI => by
                obtain ⟨rfl, o6, rfl⟩ := hI
                rw [List.getElem?_map] at hx
                obtain ⟨n, hnj, rfl⟩ := Option.map_eq_some_iff.mp hx
                have tn : N.take (j + 1) = N.take j ++ [n] := by rw [List.take_succ, hnj]; rfl
                obtain ⟨c1, c2⟩ := src_cat (b := false) (C := C) (h := o :: (R ++ [.lst (sts (es ++ (N.take j).map (srcOf r)))])) hr (nin n (List.mem_of_getElem? hnj))
                have ap := v_app (v := .str (srcOf r n)) (tl_get0 (o := o) (R := R) (x := .lst (sts (es ++ (N.take j).map (srcOf r)))) (X := [])) (ln j)
                have il := is_lst (lst_ref (tl_get0 (o := o) (R := R) (x := .lst (sts (es ++ (N.take j).map (srcOf r)))) (X := [])))
                rw [tl_set0] at ap
                rw [tn, List.map_append, ← List.append_assoc]
                rw [show sts (es ++ (N.take j).map (srcOf r) ++ [n].map (srcOf r)) = sts (es ++ (N.take j).map (srcOf r)) ++ [.str (srcOf r n)] from by simp]
                generalize sts (es ++ (N.take j).map (srcOf r)) = L0 at ap il c1 c2 ⊢
                generalize srcOf r n = z at ap c2 ⊢
                refine ⟨_, [some (.ref 0), some v, some (.str nm), some (.bl true), some (.ref (R.length + 1)), some (.str r), some (.str n), none, none, none], _, rfl, ?_, rfl, _, rfl⟩
                simp [l1__law_sources, c1, c2, il, ap]
            refine ⟨o6', ?_⟩
            rw [e1, List.length_map, List.take_length]
          obtain ⟨o6', inner⟩ := inner
          refine ⟨_, [some (.ref 0), some v, some (.str nm), some (.bl true), some (.ref (R.length + 1)), some (.str r), o6', none, none, none], _, rfl, ?_, rfl, _, _, rfl⟩
          rw [tk, List.flatMap_append, show ([r].flatMap fun r => N.map (srcOf r)) = N.map (srcOf r) from by simp, ← List.cons_append (a := ("style" : Str))]
          have g := hv o [.lst (sts (("style" : Str) :: (rels.take i).flatMap fun r => N.map (srcOf r)))]
          generalize (("style" : Str) :: (rels.take i).flatMap fun r => N.map (srcOf r) : List Str) = es at inner g ⊢
          generalize sts (es ++ N.map (srcOf r)) = L1 at inner ⊢
          simp [l0__law_sources, v_ixD g, inner]
      refine ⟨o5, o6, ?_⟩
      rw [e1, List.length_map, List.take_length]
    obtain ⟨o5, o6, lp⟩ := lp
    generalize hes : (("style" : Str) :: rels.flatMap fun r => N.map (srcOf r) : List Str) = es at lp
    have esg : ∀ s ∈ es, goodSrc N s := fun s hs => by
      rw [← hes] at hs
      rcases List.mem_cons.mp hs with rfl | hs
      · exact .inl rfl
      · obtain ⟨r, hr, hs⟩ := List.mem_flatMap.mp hs
        obtain ⟨n, hn, rfl⟩ := List.mem_map.mp hs
        exact .inr ⟨r, hr, n, hn, rfl⟩
    have es1 : 1 ≤ es.length := by rw [← hes]; simp
    have es2 : es.length < 1073741824 := by
      rw [← hes, List.length_cons, flen, show rels.length = 4 from rfl]
      omega
    obtain ⟨c, o1, hc, T1, ec⟩ := e2 o [.lst (sts es), .lst []] T
    have hc1 : (0 : Int) ≤ 1 + (c : Int) := by omega
    have hc2 : (1 : Int) + (c : Int) < 1000 := by omega
    have lp2 : ∃ (o' : AO) (l : List Str) (o8 o9 : Option AV), Tp0 ns o' ∧ 1 ≤ l.length ∧ l.length ≤ c + 1 ∧ l.Nodup ∧ (∀ s ∈ l, s ∈ es) ∧ kFor (gNm 8) (l2__law_sources C) [some (.ref 0), some v, some (.str nm), some (.bl true), some (.ref (R.length + 1)), o5, o6, some (.ref (R.length + 1 + 1)), none, none] (.rng 0 (c + 1)) (o1 :: (R ++ [.lst (sts es), .lst []])) = .ok (.nx [some (.ref 0), some v, some (.str nm), some (.bl true), some (.ref (R.length + 1)), o5, o6, some (.ref (R.length + 1 + 1)), o8, o9]) (o' :: (R ++ [.lst (sts es), .lst (sts l)])) := by
      obtain ⟨σ2, h2, e3, o', l, o8, o9, rfl, rfl, t1, t2, t3, t4, t5⟩ := kFor_inv (s := .rng 0 (c + 1)) (xs := rngL (c + 1)) (g := gNm 8) (b := l2__law_sources C) (σ := [some (.ref 0), some v, some (.str nm), some (.bl true), some (.ref (R.length + 1)), o5, o6, some (.ref (R.length + 1 + 1)), none, none]) (h := o1 :: (R ++ [.lst (sts es), .lst []]))
        (fun i τ h' => ∃ (o' : AO) (l : List Str) (o8 o9 : Option AV), τ = [some (.ref 0), some v, some (.str nm), some (.bl true), some (.ref (R.length + 1)), o5, o6, some (.ref (R.length + 1 + 1)), o8, o9] ∧ h' = o' :: (R ++ [.lst (sts es), .lst (sts l)]) ∧ Tp0 ns o' ∧ (1 ≤ i → 1 ≤ l.length) ∧ l.length ≤ i ∧ l.Nodup ∧ ∀ s ∈ l, s ∈ es) src_rngI.1 (fun i _ _ _ => src_rngI.2 i) ⟨o1, [], none, none, rfl, rfl, T1, fun z => by omega, Nat.le_refl _, List.nodup_nil, fun _ z => by cases z⟩ fun i x τ h' hx hI => by
          obtain ⟨o', l, o8, o9, rfl, rfl, t1, t2, t3, t4, t5⟩ := hI
          have hi : i < c + 1 := by simpa using (List.getElem?_eq_some_iff.mp hx).1
          obtain ⟨s, o2, t6, hs, es0⟩ := e1 o' es l t1 es1 es2
          have i1 : oNotInA C (.str s) (.ref (R.length + 1 + 1)) (o2 :: (R ++ [.lst (sts es), .lst (sts l)])) = .ok (.bl (!decide (s ∈ l))) (o2 :: (R ++ [.lst (sts es), .lst (sts l)])) := v_notin (xs := l) (seq_of_lst (lst_ref tl_get1))
          by_cases hm : s ∈ l
          · refine ⟨_, [some (.ref 0), some v, some (.str nm), some (.bl true), some (.ref (R.length + 1)), o5, o6, some (.ref (R.length + 1 + 1)), some x, some (.str s)], _, rfl, ?_, o2, l, _, _, rfl, rfl, t6, fun _ => List.length_pos_iff.mpr (List.ne_nil_of_mem hm), by omega, t4, t5⟩
            simp [l2__law_sources, es0, i1, hm]
          · have ap := v_app (v := .str s) (tl_get1 (o := o2) (R := R) (x := .lst (sts es)) (y := .lst (sts l)) (X := [])) (by rw [List.length_map]; omega)
            have il := is_lst (lst_ref (tl_get1 (o := o2) (R := R) (x := .lst (sts es)) (y := .lst (sts l)) (X := [])))
            rw [tl_set1, show sts l ++ [AV.str s] = sts (l ++ [s]) from by simp] at ap
            refine ⟨_, [some (.ref 0), some v, some (.str nm), some (.bl true), some (.ref (R.length + 1)), o5, o6, some (.ref (R.length + 1 + 1)), some x, some (.str s)], o2 :: (R ++ [.lst (sts es), .lst (sts (l ++ [s]))]), rfl, ?_, o2, l ++ [s], _, _, rfl, rfl, t6, fun _ => by simp, by simp; omega, ?_, fun y hy => ?_⟩
            · generalize sts (l ++ [s]) = L1 at ap ⊢
              simp [l2__law_sources, es0, i1, hm, il, ap]
            · rw [List.nodup_append]
              refine ⟨t4, by simp, fun a ha b hb => ?_⟩
              rw [List.mem_singleton] at hb
              subst hb
              exact fun z => hm (z ▸ ha)
            · rcases List.mem_append.mp hy with z | z
              · exact t5 y z
              · rw [List.mem_singleton] at z; rw [z]; exact hs
      simp only [List.length_map, List.length_range] at t2 t3
      exact ⟨o', l, o8, o9, t1, t2 (by omega), t3, t4, t5, e3⟩
    obtain ⟨o', l, o8, o9, t1, t2, t3, t4, t5, lp2⟩ := lp2
    refine ⟨l, o', t1, t2, by omega, t4, fun s hs => esg s (t5 s hs), ?_⟩
    have dv := deepV_lst (n := 0) (tl_get1 (o := o') (R := R) (x := .lst (sts es)) (y := .lst (sts l)) (X := [])) cleans_sts
    rw [tl_set1] at dv
    obtain ⟨ta, tb, tc, rfl, _⟩ := t1
    have tr := trim_tape (o := o) (o' := tp ta tb tc ns) (R := R) (X := [.lst (sts es), .dead]) (v := .fl (sts l)) cleanO_tp clean_sts
    have kr : kRng (.int (1 + (c : Int))) (o1 :: (R ++ [.lst (sts es), .lst []])) = .ok (.rng 0 (c + 1)) (o1 :: (R ++ [.lst (sts es), .lst []])) := by
      rw [k_rng hc1 hc2, show (1 + (c : Int)).toNat = c + 1 from by omega]
    simp only [rels, List.map_cons, List.map_nil] at lp
    simp [f__law_sources, trimF, runF, b__law_sources, slots, sizeLine_eq, lp, ec, kr, lp2, dv, tr]
  exact key
theorem rows_ok {k m : Nat} {W : List Str} {ns : List Int} {C : CE} (hC : C = ceN bod pd (k + 3)) {o o5 : AO} {R : AH} {σ : Sl} (hσ6 : σ[6]? = some (some (.fl (sts W)))) (hσ0 : σ[0]? = some (some (.ref 0))) (hσl : σ.length = 12)
    (pk : C.call nm__law_pick [.ref 0, .int (if (W.length : Int) < 3 then W.length else 3)] (o :: R) = .ok (.int (m : Nat)) (o5 :: R)) (T : Tp0 ns o5) (hm : m + 1 ≤ W.length) (hW : W.length ≤ 4) :
    ∃ (ds : List Str) (o' : AO), Tp0 ns o' ∧ ds.length = m + 1 ∧ (∀ d ∈ ds, d = "down" ∨ d = "up") ∧ c0__law_engine C σ (o :: R) = .ok (.fl (rowsV (R.length + 1) ds)) (o' :: (R ++ lsts ((W.take (m + 1)).map fun n => [n]))) := by
  have e1 := fun (o : AO) (R : AH) (T : Tp0 ns o) => one_ok (k := k + 1) (v := .fl (sts ["down", "up"])) (ms := ["down", "up"]) (ns := ns) (o := o) (R := R) T (fun _ => rfl) (by decide) (by decide)
  have e1 : ∀ (o : AO) (R : AH), Tp0 ns o → ∃ (x : Str) (o' : AO), Tp0 ns o' ∧ x ∈ (["down", "up"] : List Str) ∧ C.call nm__law_one [.ref 0, .fl [.str "down", .str "up"]] (o :: R) = .ok (.str x) (o' :: R) := by
    rw [hC]; exact e1
  clear hC
  obtain ⟨acc, h2, q1, ds, o', t1, t2, t3, t4, t5⟩ := sLcF_inv (it := iSeq (sCut false (sVar 6) oNone (oSome (op2 (oAdd false) (sK (.int 1)) (sCall C nm__law_pick (aCons (sVar 0) (aCons (opN bMin (aCons (sK (.int 3)) (aCons (opN (arg1 (bLenA C)) (aCons (sVar 6) aNil)) aNil))) aNil))))))) (s := .tup ((sts W).take (m + 1))) (xs := (sts W).take (m + 1)) (g := gNm 8) (t := Mi.tYes) (e := sLst false (aCons (sCall C nm__law_one (aCons (sVar 0) (aCons (sLst false (aCons (sK (.str "down")) (aCons (sK (.str "up")) aNil))) aNil))) (aCons (sLst true (aCons (sVar 8) aNil)) aNil))) (vs := [8]) (σ := σ) (h := o :: R) (h1 := o5 :: R)
    (fun i acc h => ∃ (ds : List Str) (o' : AO), Tp0 ns o' ∧ ds.length = i ∧ (∀ d ∈ ds, d = "down" ∨ d = "up") ∧ acc = rowsV (R.length + 1) ds ∧ h = o' :: (R ++ lsts ((W.take i).map fun n => [n])))
    (by
      have c := v_cutto (C := .non) (h := o5 :: R) (xs := sts W) (i := 1 + (m : Int)) (m := m + 1) (by omega)
      simp [hσ6, hσ0, bMin, pk, c])
    rfl (fun _ _ _ _ => rfl) ⟨[], o5, T, rfl, (fun _ z => by cases z), rfl, by simp⟩ (fun i x acc h hx hI => by
      obtain ⟨ds, o', t1, t2, t3, rfl, rfl⟩ := hI
      have hi : i < m + 1 := by
        have z := (List.getElem?_eq_some_iff.mp hx).1
        rw [List.length_take] at z; omega
      rw [List.getElem?_take_of_lt hi, List.getElem?_map] at hx
      obtain ⟨n, hn, rfl⟩ := Option.map_eq_some_iff.mp hx
      obtain ⟨d, o2, t6, hd, ed⟩ := e1 o' (R ++ lsts ((W.take i).map fun n => [n])) t1
      have tk : W.take (i + 1) = W.take i ++ [n] := by rw [List.take_succ, hn]; rfl
      have hl : (lsts ((W.take i).map fun n => [n])).length = i := by
        rw [List.length_map, List.length_map, List.length_take]; omega
      refine ⟨by rw [rowsV_length, sizeLine_eq]; omega, _, rfl, .inr ⟨_, .fl [.str d, .ref (R.length + (lsts ((W.take i).map fun n => [n])).length + 1)], o2 :: (R ++ (lsts ((W.take i).map fun n => [n]) ++ [.lst [.str n]])), rfl, ?_, ds ++ [d], o2, t6, by simp [t2], fun y hy => ?_, ?_, ?_⟩⟩
      · have w0 : ((wipeA σ [8]).set 8 (some (.str n)))[0]? = some (some (.ref 0)) := by
          simp [wipeA, hσ0]
        have w8 : ((wipeA σ [8]).set 8 (some (.str n)))[8]? = some (some (.str n)) := by
          rw [List.getElem?_set_self (by simp [wipeA, hσl])]
        generalize (wipeA σ [8]).set 8 (some (.str n)) = τ at w0 w8
        generalize lsts ((W.take i).map fun n => [n]) = X at ed ⊢
        simp [w0, w8, ed, sizeLine_eq]
      · rcases List.mem_append.mp hy with z | z
        · exact t3 y z
        · rw [List.mem_singleton] at z; subst z
          simpa using hd
      · rw [rowsV_snoc, hl, t2, show R.length + i + 1 = R.length + 1 + i from by omega]
      · rw [tk]; simp)
  refine ⟨ds, o', t1, ?_, t3, ?_⟩
  · rw [t2, List.length_take, List.length_map]; omega
  · unfold c0__law_engine
    rw [q1, t4, t5]
    have z : ((sts W).take (m + 1)).length = m + 1 := by rw [List.length_take, List.length_map]; omega
    rw [z]
/-- the rest of the names goes into the passes -/
theorem more_ok {k m : Nat} {W ds : List Str} {ns : List Int} {C : CE} (hC : C = ceN bod pd (k + 1)) {o : AO} {R : AH} {v1 v2 v3 v4 v5 : AV} (T : Tp0 ns o) (hd : ds.length = m) (hm : 1 ≤ m) (hm2 : m ≤ W.length) (hW : W.length ≤ 4) :
    ∃ (qs : List (List Str)) (o' : AO) (o8 : Option AV), Tp0 ns o' ∧ qs.length = m ∧ (∀ q ∈ qs, q ≠ []) ∧ qs.flatten.Perm W ∧
      kFor (gNm 8) (l0__law_engine C) [some (.ref 0), some v1, some v2, some v3, some v4, some v5, some (.fl (sts W)), some (.fl (rowsV (R.length + 1) ds)), none, none, none, none] (.tup ((sts W).drop m)) (o :: (R ++ lsts ((W.take m).map fun n => [n]))) = .ok (.nx [some (.ref 0), some v1, some v2, some v3, some v4, some v5, some (.fl (sts W)), some (.fl (rowsV (R.length + 1) ds)), o8, none, none, none]) (o' :: (R ++ lsts qs)) := by
  have e1 : ∀ (o : AO) (X : AH), Tp0 ns o → ∃ (v : Nat) (o' : AO), (v : Int) < (ds.length : Nat) ∧ Tp0 ns o' ∧ C.call nm__law_pick [.ref 0, .int (ds.length : Nat)] (o :: X) = .ok (.int v) (o' :: X) := fun o X T => by
    rw [hC]; exact pick_ok T (by omega) (by omega)
  clear hC
  obtain ⟨σ2, h2, q1, qs, o', o8, rfl, rfl, t1, t2, t3, t4⟩ := kFor_inv (s := .tup ((sts W).drop m)) (xs := (sts W).drop m) (g := gNm 8) (b := l0__law_engine C) (σ := [some (.ref 0), some v1, some v2, some v3, some v4, some v5, some (.fl (sts W)), some (.fl (rowsV (R.length + 1) ds)), none, none, none, none]) (h := o :: (R ++ lsts ((W.take m).map fun n => [n])))
    (fun i τ h' => ∃ (qs : List (List Str)) (o' : AO) (o8 : Option AV), τ = [some (.ref 0), some v1, some v2, some v3, some v4, some v5, some (.fl (sts W)), some (.fl (rowsV (R.length + 1) ds)), o8, none, none, none] ∧ h' = o' :: (R ++ lsts qs) ∧ Tp0 ns o' ∧ qs.length = m ∧ (∀ q ∈ qs, q ≠ []) ∧ qs.flatten.Perm (W.take (m + i))) rfl (fun _ _ _ _ => rfl)
    ⟨(W.take m).map fun n => [n], o, none, rfl, rfl, T, by rw [List.length_map, List.length_take]; omega, fun q hq => (by obtain ⟨x, _, rfl⟩ := List.mem_map.mp hq; simp), by
      rw [Nat.add_zero, show ((W.take m).map fun n => [n]).flatten = W.take m from by rw [← List.flatMap_def]; simp]⟩
    (fun i x τ h' hx hI => by
      obtain ⟨qs, o', o8, rfl, rfl, t1, t2, t3, t4⟩ := hI
      rw [List.getElem?_drop, List.getElem?_map] at hx
      obtain ⟨n, hn, rfl⟩ := Option.map_eq_some_iff.mp hx
      obtain ⟨j, o2, hj, t5, ep⟩ := e1 o' (R ++ lsts qs) t1
      have hj : j < ds.length := by omega
      obtain ⟨d, hdj⟩ : ∃ d, ds[j]? = some d := ⟨_, List.getElem?_eq_getElem hj⟩
      obtain ⟨q, hq⟩ : ∃ q, qs[j]? = some q := ⟨_, List.getElem?_eq_getElem (by omega)⟩
      have a1 := atI_some (rowsV_get (b := R.length + 1) hdj)
      have a2 : L2.atI [AV.str d, .ref (R.length + 1 + j)] 1 = some (.ref (R.length + 1 + j)) := by simp [L2.atI, L2.ixN]
      have g : (o2 :: (R ++ lsts qs))[R.length + 1 + j]? = some (.lst (sts q)) := by rw [tl_get, List.getElem?_map, hq]; rfl
      have ql : q.length ≤ 4 := by
        have z1 : q.length ≤ qs.flatten.length := (List.sublist_flatten_of_mem (List.mem_of_getElem? hq)).length_le
        have z2 := t4.length_eq
        rw [List.length_take] at z2
        omega
      have ap := v_app (v := .str n) g (by rw [List.length_map]; omega)
      have il := is_lst (lst_ref g)
      have ls : lsts (qs.set j (q ++ [n])) = (lsts qs).set j (.lst (sts (q ++ [n]))) := List.map_set
      rw [tl_set, show sts q ++ [AV.str n] = sts (q ++ [n]) from by simp, ← ls] at ap
      refine ⟨_, [some (.ref 0), some v1, some v2, some v3, some v4, some v5, some (.fl (sts W)), some (.fl (rowsV (R.length + 1) ds)), some (.str n), none, none, none], o2 :: (R ++ lsts (qs.set j (q ++ [n]))), rfl, ?_, _, o2, _, rfl, rfl, t5, by rw [List.length_set]; exact t2, fun y hy => ?_, ?_⟩
      · generalize lsts (qs.set j (q ++ [n])) = Y at ap ⊢
        generalize lsts qs = X at ap il ep ⊢
        have rl := rowsV_length (ds := ds) (b := R.length + 1)
        generalize rowsV (R.length + 1) ds = rows at rl a1 ⊢
        generalize R.length + 1 + j = p at a1 a2 il ap ⊢
        simp [l0__law_engine, rl, ep, a1, a2, il, ap]
      · rcases List.mem_or_eq_of_mem_set hy with z | rfl
        · exact t3 y z
        · simp
      · rw [show m + (i + 1) = m + i + 1 from by omega, List.take_succ, hn]
        exact (flat_set hq).trans (List.Perm.append_right _ t4))
  refine ⟨qs, o', o8, t1, t2, t3, ?_, q1⟩
  rw [List.length_drop, List.length_map, List.take_of_length_le (by omega)] at t4
  exact t4
end K09

namespace K09
open PySem PySem.Spec PyProof.Rows L2 Mi
/-- the names are gathered -/
theorem gather_ok {C : CE} {P : List (Str × List Str)} {o : AO} {R : AH} {v0 v1 v2 v3 v4 v5 v6 a c : AV} {o8 : Option AV} (hP : P.length ≤ 3) (hN : (P.flatMap (·.2)).length ≤ 4) :
    ∃ o10, kFor (gNm 10) (l1__law_engine C) [some v0, some v1, some v2, some v3, some v4, some v5, some v6, some (.fl (P.map fun p => .fl [.str p.1, .fl (sts p.2)])), o8, some (.ref (R.length + 1 + 1)), none, none] (.tup (P.map fun p => .fl [.str p.1, .fl (sts p.2)])) (o :: (R ++ [.dk [], .dk (engK a (.fl (P.map fun p => .fl [.str p.1, .fl (sts p.2)])) c (.fl []))])) =
      .ok (.nx [some v0, some v1, some v2, some v3, some v4, some v5, some v6, some (.fl (P.map fun p => .fl [.str p.1, .fl (sts p.2)])), o8, some (.ref (R.length + 1 + 1)), o10, none]) (o :: (R ++ [.dk [], .dk (engK a (.fl (P.map fun p => .fl [.str p.1, .fl (sts p.2)])) c (.fl (sts (P.flatMap (·.2)))))])) := by
  obtain ⟨σ2, h2, q1, rfl, o10, rfl⟩ := kFor_inv (s := .tup (P.map fun p => .fl [.str p.1, .fl (sts p.2)])) (xs := P.map fun p => .fl [.str p.1, .fl (sts p.2)]) (g := gNm 10) (b := l1__law_engine C) (σ := [some v0, some v1, some v2, some v3, some v4, some v5, some v6, some (.fl (P.map fun p => .fl [.str p.1, .fl (sts p.2)])), o8, some (.ref (R.length + 1 + 1)), none, none]) (h := o :: (R ++ [.dk [], .dk (engK a (.fl (P.map fun p => .fl [.str p.1, .fl (sts p.2)])) c (.fl []))]))
    (fun i τ h' => h' = o :: (R ++ [.dk [], .dk (engK a (.fl (P.map fun p => .fl [.str p.1, .fl (sts p.2)])) c (.fl (sts ((P.take i).flatMap (·.2)))))]) ∧ ∃ o10, τ = [some v0, some v1, some v2, some v3, some v4, some v5, some v6, some (.fl (P.map fun p => .fl [.str p.1, .fl (sts p.2)])), o8, some (.ref (R.length + 1 + 1)), o10, none]) rfl (fun _ _ _ _ => rfl) ⟨rfl, _, rfl⟩
    (fun i x τ h' hx hI => by
      obtain ⟨rfl, o10, rfl⟩ := hI
      rw [List.getElem?_map] at hx
      obtain ⟨p, hp, rfl⟩ := Option.map_eq_some_iff.mp hx
      have tk : P.take (i + 1) = P.take i ++ [p] := by rw [List.take_succ, hp]; rfl
      have ln : ((P.take i).flatMap (·.2)).length + p.2.length ≤ 4 := by
        have z : ((P.take (i + 1)).flatMap (·.2)).length ≤ (P.flatMap (·.2)).length := by
          conv => rhs; rw [← List.take_append_drop (i + 1) P, List.flatMap_append, List.length_append]
          omega
        rw [tk, List.flatMap_append, List.length_append] at z
        simp only [List.flatMap_cons, List.flatMap_nil, List.append_nil] at z
        omega
      rw [tk, List.flatMap_append, show ([p].flatMap fun x => x.2) = p.2 from by simp]
      generalize (P.take i).flatMap (fun x => x.2) = xs at ln ⊢
      have g := tl_get1 (o := o) (R := R) (x := .dk []) (y := .dk (engK a (.fl (P.map fun p => .fl [.str p.1, .fl (sts p.2)])) c (.fl (sts xs)))) (X := [])
      have gn := g_dk (x := "names") g
      rw [engK_n] at gn
      have pn := put_n (w := .fl (sts (xs ++ p.2))) g
      rw [tl_set1] at pn
      have ad : oAdd false (.fl (sts xs)) (.fl (sts p.2)) (o :: (R ++ [.dk [], .dk (engK a (.fl (P.map fun p => .fl [.str p.1, .fl (sts p.2)])) c (.fl (sts xs)))])) = .ok (.fl (sts (xs ++ p.2))) (o :: (R ++ [.dk [], .dk (engK a (.fl (P.map fun p => .fl [.str p.1, .fl (sts p.2)])) c (.fl (sts xs)))])) := by
        simp only [oAdd, lstOf, List.length_map]
        rw [if_pos (by rw [sizeLine_eq]; omega), newL_f, sts_append]
      have a2 : L2.atI [AV.str p.1, .fl (sts p.2)] 1 = some (.fl (sts p.2)) := by simp [L2.atI, L2.ixN]
      generalize sts (xs ++ p.2) = L1 at ad pn ⊢
      generalize (P.map fun p => AV.fl [.str p.1, .fl (sts p.2)]) = PV at g gn pn ad ⊢
      generalize sts xs = L0 at g gn pn ad ⊢
      refine ⟨_, [some v0, some v1, some v2, some v3, some v4, some v5, some v6, some (.fl PV), o8, some (.ref (R.length + 1 + 1)), some (.fl [.str p.1, .fl (sts p.2)]), none], _, rfl, ?_, rfl, _, rfl⟩
      simp [l1__law_engine, v_ixD gn, a2, ad, pn])
  refine ⟨o10, ?_⟩
  rw [q1, List.length_map, List.take_length]
/-- the sources of all kinds and names are drawn -/
theorem draw_ok {k : Nat} {C : CE} (hC : C = ceN bod pd (k + 3)) {K N : List Str} {ns : List Int} {o : AO} {R : AH} {v1 v2 v5 v6 v7 pv : AV} {o8 o10 : Option AV} (T : Tp0 ns o) (hK : K.length ≤ 3) (knd : K.Nodup) (hN : N.length ≤ 4) (nnd : N.Nodup) (nin : ∀ x ∈ N, x ∈ menuN) :
    ∃ (rs : List (List (List Str))) (o' : AO) (o8' o11 : Option AV), Tp0 ns o' ∧ rs.length = K.length ∧ (∀ r ∈ rs, r.length = N.length ∧ ∀ l ∈ r, 1 ≤ l.length ∧ l.length ≤ 3 ∧ l.Nodup ∧ ∀ s ∈ l, goodSrc N s) ∧
      kFor (gNm 11) (l2__law_engine C) [some (.ref 0), some v1, some v2, some (.bl true), some (.fl (sts K)), some v5, some v6, some v7, o8, some (.ref (R.length + 1 + 1)), o10, none] (.tup (sts K)) (o :: (R ++ [.dk [], .dk (engK (.fl (sts K)) pv (.ref (R.length + 1)) (.fl (sts N)))])) =
        .ok (.nx [some (.ref 0), some v1, some v2, some (.bl true), some (.fl (sts K)), some v5, some v6, some v7, o8', some (.ref (R.length + 1 + 1)), o10, o11]) (o' :: (R ++ .dk (kindD (R.length + 1 + 2) K) :: .dk (engK (.fl (sts K)) pv (.ref (R.length + 1)) (.fl (sts N))) :: dks N rs)) := by
  have e1 : ∀ (o : AO) (R : AH) (v : AV) (nm : Str), Tp0 ns o → (∀ o X, dGetA v (.str "names") (o :: (R ++ X)) = some (some (.fl (sts N)))) → ∃ (l : List Str) (o' : AO), Tp0 ns o' ∧ 1 ≤ l.length ∧ l.length ≤ 3 ∧ l.Nodup ∧ (∀ s ∈ l, goodSrc N s) ∧ C.call nm__law_sources [.ref 0, v, .str nm, .bl true] (o :: R) = .ok (.fl (sts l)) (o' :: R) := fun o R v nm T hv => by
    rw [hC]; exact sources_late T hN nin hv
  clear hC
  generalize hE : engK (.fl (sts K)) pv (.ref (R.length + 1)) (.fl (sts N)) = E
  have En : valA E (.inr "names") = some (.fl (sts N)) := by rw [← hE]; rfl
  have Es : valA E (.inr "sources") = some (.ref (R.length + 1)) := by rw [← hE]; rfl
  clear hE
  obtain ⟨σ2, h2, q1, rs, o', o8', o11, rfl, rfl, t1, t2, t3⟩ := kFor_inv (s := .tup (sts K)) (xs := sts K) (g := gNm 11) (b := l2__law_engine C) (σ := [some (.ref 0), some v1, some v2, some (.bl true), some (.fl (sts K)), some v5, some v6, some v7, o8, some (.ref (R.length + 1 + 1)), o10, none]) (h := o :: (R ++ [.dk [], .dk E]))
    (fun i τ h' => ∃ (rs : List (List (List Str))) (o' : AO) (o8' o11 : Option AV), τ = [some (.ref 0), some v1, some v2, some (.bl true), some (.fl (sts K)), some v5, some v6, some v7, o8', some (.ref (R.length + 1 + 1)), o10, o11] ∧ h' = o' :: (R ++ .dk (kindD (R.length + 1 + 2) (K.take i)) :: .dk E :: dks N rs) ∧ Tp0 ns o' ∧ rs.length = i ∧ ∀ r ∈ rs, r.length = N.length ∧ ∀ l ∈ r, 1 ≤ l.length ∧ l.length ≤ 3 ∧ l.Nodup ∧ ∀ s ∈ l, goodSrc N s) rfl (fun _ _ _ _ => rfl)
    ⟨[], o, o8, none, rfl, rfl, T, rfl, fun _ z => by cases z⟩
    (fun i x τ h' hx hI => by
      obtain ⟨rs, o', o8', o11, rfl, rfl, t1, t2, t3⟩ := hI
      rw [List.getElem?_map] at hx
      obtain ⟨kd, hkd, rfl⟩ := Option.map_eq_some_iff.mp hx
      have hi : i < K.length := (List.getElem?_eq_some_iff.mp hkd).1
      have tk : K.take (i + 1) = K.take i ++ [kd] := by rw [List.take_succ, hkd]; rfl
      have til : (K.take i).length = i := by rw [List.length_take]; omega
      have kn : kd ∉ K.take i := by
        have z := (List.take_sublist (i + 1) K).nodup knd
        rw [tk, List.nodup_append] at z
        exact fun y => z.2.2 kd y kd (by simp) rfl
      have kn2 : (Sum.inr kd : Ky) ∉ (kindD (R.length + 1 + 2) (K.take i)).map (·.1) := by
        rw [kindD_fst]
        intro z
        obtain ⟨y, hy, e⟩ := List.mem_map.mp z
        cases e
        exact kn hy
      have kl : (kindD (R.length + 1 + 2) (K.take i)).length < 1000 := by rw [kindD_length]; omega
      have ks : kindD (R.length + 1 + 2) (K.take (i + 1)) = kindD (R.length + 1 + 2) (K.take i) ++ [(.inr kd, .ref (R.length + 1 + 2 + (dks N rs).length))] := by
        rw [tk, kindD_snoc, til, List.length_map, t2]
      have kg : valA (kindD (R.length + 1 + 2) (K.take (i + 1))) (.inr kd) = some (.ref (R.length + 1 + 2 + (dks N rs).length)) := by
        rw [ks, valA_append kn2]
      rw [ks] at kg ⊢
      generalize hKD : kindD (R.length + 1 + 2) (K.take i) = KD at kn2 kl kg ⊢
      generalize hKE : KD ++ [((.inr kd : Ky), AV.ref (R.length + 1 + 2 + (dks N rs).length))] = KE at kg ⊢
      have inner : ∀ o9, ∃ (r : List (List Str)) (o2 : AO) (o8'' : Option AV), Tp0 ns o2 ∧ r.length = N.length ∧ (∀ l ∈ r, 1 ≤ l.length ∧ l.length ≤ 3 ∧ l.Nodup ∧ ∀ s ∈ l, goodSrc N s) ∧
          kFor (gNm 8) (l3__law_engine C) [some (.ref 0), some v1, some v2, some (.bl true), some (.fl (sts K)), some v5, some v6, some v7, o9, some (.ref (R.length + 1 + 1)), o10, some (.str kd)] (.tup (sts N)) (o' :: (R ++ .dk KE :: .dk E :: (dks N rs ++ [.dk []]))) =
            .ok (.nx [some (.ref 0), some v1, some v2, some (.bl true), some (.fl (sts K)), some v5, some v6, some v7, o8'', some (.ref (R.length + 1 + 1)), o10, some (.str kd)]) (o2 :: (R ++ .dk KE :: .dk E :: (dks N rs ++ [.dk (srcD N r)]))) := fun o9 => by
        generalize dks N rs = Y at kg ⊢
        obtain ⟨σ2, h2, q1, r, o2, o8'', rfl, rfl, u1, u2, u3⟩ := kFor_inv (s := .tup (sts N)) (xs := sts N) (g := gNm 8) (b := l3__law_engine C) (σ := [some (.ref 0), some v1, some v2, some (.bl true), some (.fl (sts K)), some v5, some v6, some v7, o9, some (.ref (R.length + 1 + 1)), o10, some (.str kd)]) (h := o' :: (R ++ .dk KE :: .dk E :: (Y ++ [.dk []])))
          (fun j τ h' => ∃ (r : List (List Str)) (o2 : AO) (o8'' : Option AV), τ = [some (.ref 0), some v1, some v2, some (.bl true), some (.fl (sts K)), some v5, some v6, some v7, o8'', some (.ref (R.length + 1 + 1)), o10, some (.str kd)] ∧ h' = o2 :: (R ++ .dk KE :: .dk E :: (Y ++ [.dk (srcD (N.take j) r)])) ∧ Tp0 ns o2 ∧ r.length = j ∧ ∀ l ∈ r, 1 ≤ l.length ∧ l.length ≤ 3 ∧ l.Nodup ∧ ∀ s ∈ l, goodSrc N s) rfl (fun _ _ _ _ => rfl)
          ⟨[], o', o9, rfl, rfl, t1, rfl, fun _ z => by cases z⟩
          (fun j x τ h' hx hI => by
            obtain ⟨r, o2, o8'', rfl, rfl, u1, u2, u3⟩ := hI
            rw [List.getElem?_map] at hx
            obtain ⟨nm, hnm, rfl⟩ := Option.map_eq_some_iff.mp hx
            have hj : j < N.length := (List.getElem?_eq_some_iff.mp hnm).1
            have tn : N.take (j + 1) = N.take j ++ [nm] := by rw [List.take_succ, hnm]; rfl
            have tjl : (N.take j).length = j := by rw [List.length_take]; omega
            have nn : nm ∉ N.take j := by
              have z := (List.take_sublist (j + 1) N).nodup nnd
              rw [tn, List.nodup_append] at z
              exact fun y => z.2.2 nm y nm (by simp) rfl
            have fr : (Sum.inr nm : Ky) ∉ (srcD (N.take j) r).map (·.1) := fun z => nn (srcD_key z)
            have fl : (srcD (N.take j) r).length < 1000 := by
              unfold srcD; rw [List.length_map, List.length_zip]; omega
            have gv : ∀ o X, dGetA (.ref (R.length + 1 + 1)) (.str "names") (o :: ((R ++ .dk KE :: .dk E :: (Y ++ [.dk (srcD (N.take j) r)])) ++ X)) = some (some (.fl (sts N))) := fun o X => by
              rw [List.append_assoc, g_dk (kvs := E) (by simp only [List.cons_append]; exact tl_get1), En]
            obtain ⟨l, o3, w1, w2, w3, w4, w5, w6⟩ := e1 o2 (R ++ .dk KE :: .dk E :: (Y ++ [.dk (srcD (N.take j) r)])) (.ref (R.length + 1 + 1)) nm u1 gv
            have sn : srcD (N.take (j + 1)) (r ++ [l]) = srcD (N.take j) r ++ [(.inr nm, .fl (sts l))] := by rw [tn, srcD_snoc (by omega)]
            have ge : dGetA (.ref (R.length + 1 + 1)) (.str "sources") (o3 :: (R ++ .dk KE :: .dk E :: (Y ++ [.dk (srcD (N.take j) r)]))) = some (some (.ref (R.length + 1))) := by
              rw [g_dk (kvs := E) tl_get1, Es]
            have gk : dGetA (.ref (R.length + 1)) (.str kd) (o3 :: (R ++ .dk KE :: .dk E :: (Y ++ [.dk (srcD (N.take j) r)]))) = some (some (.ref (R.length + 1 + 2 + Y.length))) := by
              rw [g_dk (kvs := KE) tl_get0, kg]
            have pp := p_dk (v := .fl (sts l)) (x := nm) (tl_get3 (o := o3) (R := R) (x := .dk KE) (y := .dk E) (Y := Y) (z := .dk (srcD (N.take j) r)) (Z := [])) fr fl
            rw [tl_set3, ← sn] at pp
            refine ⟨_, [some (.ref 0), some v1, some v2, some (.bl true), some (.fl (sts K)), some v5, some v6, some v7, some (.str nm), some (.ref (R.length + 1 + 1)), o10, some (.str kd)], o3 :: (R ++ .dk KE :: .dk E :: (Y ++ [.dk (srcD (N.take (j + 1)) (r ++ [l]))])), rfl, ?_, r ++ [l], o3, _, rfl, rfl, w1, by simp [u2], fun y hy => ?_⟩
            · generalize R.length + 1 + 2 + Y.length = p at gk pp ⊢
              generalize srcD (N.take (j + 1)) (r ++ [l]) = S1 at pp ⊢
              generalize srcD (N.take j) r = S0 at gk ge pp w6 ⊢
              simp [l3__law_engine, w6, v_ixD ge, v_ixD gk, pp]
            · rcases List.mem_append.mp hy with z | z
              · exact u3 y z
              · rw [List.mem_singleton] at z; subst z
                exact ⟨w2, w3, w4, w5⟩)
        refine ⟨r, o2, o8'', u1, by simpa using u2, u3, ?_⟩
        rw [q1, List.length_map, List.take_length]
      obtain ⟨r, o2, o8'', u1, u2, u3, inner⟩ := inner o8'
      have ge : ∀ X, dGetA (.ref (R.length + 1 + 1)) (.str "sources") (o' :: (R ++ .dk KD :: .dk E :: X)) = some (some (.ref (R.length + 1))) := fun X => by
        rw [g_dk (kvs := E) tl_get1, Es]
      have gn : ∀ x X, dGetA (.ref (R.length + 1 + 1)) (.str "names") (o' :: (R ++ x :: .dk E :: X)) = some (some (.fl (sts N))) := fun x X => by
        rw [g_dk (kvs := E) tl_get1, En]
      have pp := fun X => p_dk (v := .ref (R.length + 1 + 2 + (dks N rs).length)) (x := kd) (tl_get0 (o := o') (R := R) (x := .dk KD) (X := X)) kn2 kl
      simp only [tl_set0, hKE] at pp
      refine ⟨_, [some (.ref 0), some v1, some v2, some (.bl true), some (.fl (sts K)), some v5, some v6, some v7, o8'', some (.ref (R.length + 1 + 1)), o10, some (.str kd)], o2 :: (R ++ .dk KE :: .dk E :: dks N (rs ++ [r])), rfl, ?_, rs ++ [r], o2, _, _, rfl, by rw [← hKE], u1, by simp [t2], fun y hy => ?_⟩
      · rw [show dks N (rs ++ [r]) = dks N rs ++ [.dk (srcD N r)] from by simp [dks]]
        generalize dks N rs = Y at pp inner ⊢
        have hl : R.length + (Y.length + 1 + 1) + 1 = R.length + 1 + 2 + Y.length := by omega
        generalize R.length + 1 + 2 + Y.length = p at hl pp inner ⊢
        simp [l2__law_engine, v_ixD (ge _), v_ixD (gn _ _), hl, pp, inner]
      · rcases List.mem_append.mp hy with z | z
        · exact t3 y z
        · rw [List.mem_singleton] at z; subst z
          exact ⟨u2, u3⟩)
  refine ⟨rs, o', o8', o11, t1, by simpa using t2, t3, ?_⟩
  rw [q1, List.length_map, List.take_length]
/-- the law's engine, late sources too, an object -/
theorem engine_obj {k km nm : Nat} {ns : List Int} {o : AO} {R : AH} (T : Tp0 ns o) (hkm : 1 ≤ km ∧ km ≤ 3) (hnm : 1 ≤ nm ∧ nm ≤ 4) :
    ∃ (e : Eng) (o' : AO) (X Y : AH), e.Ok ∧ Tp0 ns o' ∧ e.K.length ≤ km ∧ e.N.length ≤ nm ∧ (ceN bod pd (k + 4)).call nm__law_engine [.ref 0, .int km, .int nm, .bl true] (o :: R) = .ok (.ref (R.length + 1 + X.length)) (o' :: (R ++ (X ++ .dk (engK (.fl (sts e.K)) (.fl e.pv) e.sv (.fl (sts e.N))) :: Y))) := by
  obtain ⟨c1, o1, hc1, T1, p1⟩ := pick_ok (k := k + 2) (n := km) (R := R) T (by omega) (by omega)
  obtain ⟨K, o2, T2, kl, knd, kin, p2⟩ := kinds_ok (k := k) (n := c1 + 1) (R := R) T1 (by omega)
  obtain ⟨c3, o3, hc3, T3, p3⟩ := pick_ok (k := k + 2) (n := nm) (R := R) T2 (by omega) (by omega)
  obtain ⟨W, o4, T4, wl, wnd, win, p4⟩ := some_ok (k := k + 1) (menu := menuN) (n := c3 + 1) (R := R) T3 rfl menuN_nd (by omega)
  have wl4 : W.length ≤ 4 := by omega
  obtain ⟨m, o5, hm, T5, p5⟩ := pick_ok (k := k + 2) (n := if (W.length : Int) < 3 then W.length else 3) (R := R) T4 (by split <;> omega) (by split <;> omega)
  have hm1 : m + 1 ≤ W.length := by split at hm <;> omega
  have hm3 : m + 1 ≤ 3 := by split at hm <;> omega
  have r1 := fun σ a b c => rows_ok (k := k) (m := m) (W := W) rfl (σ := σ) a b c p5 T5 hm1 wl4
  have mo := fun (o : AO) (v1 v2 v3 v4 v5 : AV) (T : Tp0 ns o) (ds : List Str) (hd : ds.length = m + 1) => more_ok (k := k + 2) (W := W) (R := R) (v1 := v1) (v2 := v2) (v3 := v3) (v4 := v4) (v5 := v5) rfl T hd (by omega) hm1 wl4
  have dr := fun (o : AO) (R : AH) (v1 v2 v5 v6 v7 pv : AV) (o8 o10 : Option AV) (N : List Str) (T : Tp0 ns o) h1 h2 h3 => draw_ok (k := k) (K := K) (N := N) (R := R) (v1 := v1) (v2 := v2) (v5 := v5) (v6 := v6) (v7 := v7) (pv := pv) (o8 := o8) (o10 := o10) rfl T (by omega) knd h1 h2 h3
  have key : ∃ (e : Eng) (o' : AO) (X Y : AH), e.Ok ∧ Tp0 ns o' ∧ e.K.length ≤ km ∧ e.N.length ≤ nm ∧ f__law_engine (ceN bod pd (k + 3)) [.ref 0, .int km, .int nm, .bl true] (o :: R) = .ok (.ref (R.length + 1 + X.length)) (o' :: (R ++ (X ++ .dk (engK (.fl (sts e.K)) (.fl e.pv) e.sv (.fl (sts e.N))) :: Y))) := by
    rw [show ((c1 + 1 : Nat) : Int) = 1 + (c1 : Int) from by omega] at p2
    rw [show ((c3 + 1 : Nat) : Int) = 1 + (c3 : Int) from by omega] at p4
    generalize ceN bod pd (k + 3) = C at p1 p2 p3 p4 p5 r1 mo dr ⊢
    obtain ⟨ds, o6, T6, hd, hdir, r1⟩ := r1 [some (.ref 0), some (.int km), some (.int nm), some (.bl true), some (.fl (sts K)), some (.fl (sts menuN)), some (.fl (sts W)), none, none, none, none, none] rfl rfl rfl
    obtain ⟨qs, o7, o8, T7, ql, qne, qp, mo⟩ := mo o6 (.int km) (.int nm) (.bl true) (.fl (sts K)) (.fl (sts menuN)) T6 ds hd
    have nl : qs.flatten.length = W.length := qp.length_eq
    have nin : ∀ x ∈ qs.flatten, x ∈ menuN := fun x hx => win x (qp.mem_iff.mp hx)
    have nnd : qs.flatten.Nodup := qp.nodup_iff.mpr wnd
    have dz : (ds.zip qs).flatMap (·.2) = qs.flatten := zip_flat (by omega)
    have dp := deep_rows ds qs (o7 :: R) 39 (by omega) (by omega)
    rw [List.length_cons] at dp
    obtain ⟨o10, ga⟩ := gather_ok (C := C) (P := ds.zip qs) (o := o7) (R := R ++ List.replicate ds.length .dead) (v0 := .ref 0) (v1 := .int km) (v2 := .int nm) (v3 := .bl true) (v4 := .fl (sts K)) (v5 := .fl (sts menuN)) (v6 := .fl (sts W)) (a := .fl (sts K)) (c := .ref ((R ++ List.replicate ds.length AO.dead).length + 1)) (o8 := o8) (by rw [List.length_zip]; omega) (by rw [dz]; omega)
    rw [dz] at ga
    obtain ⟨rs, o9, o8', o11, T9, rl, rg, dr⟩ := dr o7 (R ++ List.replicate ds.length .dead) (.int km) (.int nm) (.fl (sts menuN)) (.fl (sts W)) (.fl ((ds.zip qs).map fun p => .fl [.str p.1, .fl (sts p.2)])) (.fl ((ds.zip qs).map fun p => .fl [.str p.1, .fl (sts p.2)])) o8 o10 qs.flatten T7 (by omega) nnd nin
    have de := deep_engO (e := ⟨K, ds.zip qs, rs⟩) (o := o9) (R := R ++ List.replicate ds.length .dead) (n := 40) rl (fun r hr => by rw [show Eng.N ⟨K, ds.zip qs, rs⟩ = qs.flatten from dz]; exact (rg r hr).1) (by simp only; omega)
    rw [show Eng.N ⟨K, ds.zip qs, rs⟩ = qs.flatten from dz] at de
    have de : deepO 40 ((R ++ List.replicate ds.length AO.dead).length + 1 + 1) (o9 :: ((R ++ List.replicate ds.length .dead) ++ .dk (kindD ((R ++ List.replicate ds.length AO.dead).length + 1 + 2) K) :: .dk (engK (.fl (sts K)) (.fl ((ds.zip qs).map fun p => .fl [.str p.1, .fl (sts p.2)])) (.ref ((R ++ List.replicate ds.length AO.dead).length + 1)) (.fl (sts qs.flatten))) :: dks qs.flatten rs)) = some (o9 :: ((R ++ List.replicate ds.length .dead) ++ .dead :: .dk (engK (.fl (sts K)) (.fl ((ds.zip qs).map fun p => .fl [.str p.1, .fl (sts p.2)])) (Eng.sv ⟨K, ds.zip qs, rs⟩) (.fl (sts qs.flatten))) :: List.replicate K.length .dead)) := de
    refine ⟨⟨K, ds.zip qs, rs⟩, o9, List.replicate ds.length .dead ++ [.dead], List.replicate K.length .dead, ⟨by simp only; omega, by simp only; omega, knd, kin, by simp only [List.length_zip]; omega, by simp only [List.length_zip]; omega, fun p hp => hdir p.1 (List.of_mem_zip hp).1, fun p hp => qne p.2 (List.of_mem_zip hp).2, ?_, ?_, ?_, rl, ?_, ?_⟩, T9, by simp only; omega, ?_, ?_⟩
    · show ((ds.zip qs).flatMap (·.2)).length ≤ 4
      rw [dz]; omega
    · show ((ds.zip qs).flatMap (·.2)).Nodup
      rw [dz]; exact nnd
    · show ∀ x ∈ (ds.zip qs).flatMap (·.2), x ∈ menuN
      rw [dz]; exact nin
    · show ∀ r ∈ rs, r.length = ((ds.zip qs).flatMap (·.2)).length
      rw [dz]; exact fun r hr => (rg r hr).1
    · show ∀ r ∈ rs, ∀ l ∈ r, 1 ≤ l.length ∧ l.length ≤ 4 ∧ l.Nodup ∧ ∀ s ∈ l, goodSrc ((ds.zip qs).flatMap (·.2)) s
      rw [dz]
      exact fun r hr l hl => ⟨((rg r hr).2 l hl).1, by have := ((rg r hr).2 l hl).2.1; omega, ((rg r hr).2 l hl).2.2⟩
    · show ((ds.zip qs).flatMap (·.2)).length ≤ nm
      rw [dz]; omega
    · rw [show Eng.N ⟨K, ds.zip qs, rs⟩ = qs.flatten from dz, show Eng.pv ⟨K, ds.zip qs, rs⟩ = (ds.zip qs).map fun p => .fl [.str p.1, .fl (sts p.2)] from rfl]
      have sh : ∀ z : AO, R ++ ((List.replicate ds.length AO.dead ++ [.dead]) ++ z :: List.replicate K.length .dead) = (R ++ List.replicate ds.length AO.dead) ++ .dead :: z :: List.replicate K.length .dead := fun z => by simp
      have si : R.length + 1 + (List.replicate ds.length AO.dead ++ [AO.dead]).length = (R ++ List.replicate ds.length AO.dead).length + 1 + 1 := by simp; omega
      rw [sh, si]
      have dp2 : deepV 40 (.fl (rowsV (R.length + 1) ds)) (o7 :: (R ++ lsts qs)) = (.fl ((ds.zip qs).map fun p => .fl [.str p.1, .fl (sts p.2)]), o7 :: (R ++ List.replicate ds.length .dead)) := by
        rw [deepV_fl]
        have z : deepL 39 (rowsV (R.length + 1) ds) (o7 :: (R ++ lsts qs)) = _ := dp
        rw [z]; rfl
      have cf := v_cutfrom (h := o6 :: (R ++ lsts ((W.take (m + 1)).map fun n => [n]))) (xs := sts W) (i := ((rowsV (R.length + 1) ds).length : Nat)) (m := m + 1) (by rw [rowsV_length]; omega)
      have rlen := rowsV_length (ds := ds) (b := R.length + 1)
      simp only [menuN, List.map_cons, List.map_nil] at p4 r1 mo ga dr
      generalize Eng.sv ⟨K, ds.zip qs, rs⟩ = ev at de ⊢
      generalize ((ds.zip qs).map fun p => AV.fl [.str p.1, .fl (sts p.2)]) = PV at dp2 ga dr de ⊢
      generalize R ++ List.replicate ds.length .dead = R2 at dp2 ga dr de ⊢
      generalize lsts ((W.take (m + 1)).map fun n => [n]) = X1 at r1 mo cf
      generalize lsts qs = X2 at mo dp2
      generalize rowsV (R.length + 1) ds = rows at r1 mo dp2 cf rlen
      generalize qs.flatten = NN at ga dr de ⊢
      generalize hws : (sts W).drop (m + 1) = wd at mo cf
      have ke := fun d h => k_eng (a := .fl (sts K)) (b := .fl PV) (c := .ref (R2.length + 1)) (d := d) (h := h)
      simp [f__law_engine, trimF, runF, b__law_engine, slots, sizeLine_eq, p1, p2, p3, p4, r1, cf, mo, dp2, ke, ga, dr, de]
  exact key
end K09

namespace K09
open PySem PySem.Spec PyProof.Rows L2 Mi
theorem or_ok {k a c : Nat} {x y : List Str} {A : AH} (ha : A[a]? = some (mkO cl_Marks x)) (hc : A[c]? = some (mkO cl_Marks y)) (z : x.length + y.length < 64) : (ceN bod pd (k + 2)).call nm_Marks___or__ [.ref a, .ref c] A = .ok (.ref A.length) (A ++ [mkO cl_Marks (alp (x ++ y))]) := by
  have mk := marks_mk (k := k) (xs := x ++ y) (A := A) (by rw [List.length_append]; exact z)
  show f_Marks___or__ (ceN bod pd (k + 1)) [.ref a, .ref c] A = _
  generalize ceN bod pd (k + 1) = C at mk ⊢
  have is := mis_ok hc
  have l1 : List.lookup ("names" : Str) [(("names" : Str), AV.fl (sts x))] = some (.fl (sts x)) := rfl
  have l2 : List.lookup ("names" : Str) [(("names" : Str), AV.fl (sts y))] = some (.fl (sts y)) := rfl
  have ad : oAdd false (.fl (sts x)) (.fl (sts y)) A = .ok (.fl (sts (x ++ y))) A := by
    have q := v_addL (x := .fl (sts x)) (y := .fl (sts y)) (h := A) rfl rfl (by simp; omega)
    rw [← List.map_append] at q
    exact q
  have st : ∀ σ, kStar aNil σ (.fl (sts (x ++ y))) A = .ok (sts (x ++ y)) A := fun σ => k_starS rfl
  have tr := trim_ref (h := A) (X := A ++ [mkO cl_Marks (alp (x ++ y))]) (Nat.le_refl A.length)
  generalize sts (x ++ y) = L1 at ad st mk
  simp [f_Marks___or__, trimF, runF, b_Marks___or__, slots, k_fldE, ha, hc, oFld_ins, is, ad, st, mk, tr]
/-- a book and its engine in the arena -/
structure BkAt (A : AH) (b : Bk) (a ea : Nat) (rv : AV) (t : AV) : Prop where
  bk : A[a]? = some (.ins cl_Book (b.fs ea rv))
  en : A[ea]? = some (.ins cl_Engine (b.e.fs t))
theorem BkAt.app {A X : AH} {b : Bk} {a ea : Nat} {rv t : AV} (h : BkAt A b a ea rv t) : BkAt (A ++ X) b a ea rv t := ⟨get_app h.bk, get_app h.en⟩
def EvOk (b : Bk) (e : Str) : Prop := e = "fence" ∨ e ∈ words ∨ e ∈ b.e.N
theorem words_ok : ∀ x ∈ words, okS x := by decide +kernel
theorem EvOk.str {b : Bk} (B : b.Ok) {e : Str} (h : EvOk b e) : okS e := by
  rcases h with rfl | h | h
  · show PyData.strOk ("fence" : Str) = true
    decide +kernel
  · exact words_ok e h
  · exact (menu_name e (List.mem_append_right _ (B.eng.nin e h))).2.2.1
theorem EvOk.of {b : Bk} {e p : Str} (h : p ∈ plc b.e.N e) : EvOk b e := by
  have z := plc_ev h
  rcases List.mem_append.mp z with z | z
  · rcases List.mem_append.mp z with z | z
    · exact .inr (.inl z)
    · exact .inr (.inr z)
  · exact .inl (List.mem_singleton.mp z)
theorem places_ok {k a ea : Nat} {b : Bk} (B : b.Ok) {rv t : AV} {A : AH} (h : BkAt A b a ea rv t) {e : Str} (he : EvOk b e) :
    ∃ w, (ceN bod pd (k + 1)).call nm_Book_places [.ref a, .str e] A = .ok w A ∧ (∀ h, kIs w h = .ok (.tup (sts (plc b.e.N e))) h) ∧ (∀ C h (x : Str), oInA C (.str x) w h = .ok (.bl (decide (x ∈ plc b.e.N e))) h) ∧ ∀ n, clean n w = true := by
  have oe := he.str B
  have of : okS ("fence" : Str) := by show PyData.strOk ("fence" : Str) = true; decide +kernel
  have or_ : okS ("remove" : Str) := by show PyData.strOk ("remove" : Str) = true; decide +kernel
  have le : List.lookup ("engine" : Str) (b.fs ea rv) = some (.ref ea) := rfl
  have la : List.lookup ("attributes" : Str) (b.e.fs t) = some (.fl (sts b.e.N)) := rfl
  have hb := h.bk
  have hn := h.en
  have q1 := fun C => v_eqS (C := C) (x := e) (y := "fence") (h := A) oe of
  have q2 := fun C => v_eqS (C := C) (x := e) (y := "remove") (h := A) oe or_
  have q3 := fun C => v_inC (C := C) (xs := ["style", "insert", "remove", "move"]) (x := e) (h := A)
  have q4 := fun C => v_inE (C := C) (xs := b.e.N) (x := e) (h := A)
  have cu : bCut false (.ctp ["own", "parent", "next", "up"]) (some 1) none A = .ok (.tup [.str "parent", .str "next", .str "up"]) A := rfl
  by_cases h1 : e = "fence"
  · subst h1
    refine ⟨.tup [.str "up"], ?_, fun h => by rw [plc_f]; rfl, fun C h x => by rw [plc_f]; exact v_in (xs := ["up"]) rfl, fun n => rfl⟩
    show f_Book_places (ceN bod pd k) [.ref a, .str "fence"] A = _
    simp [f_Book_places, trimF, runF, b_Book_places, slots, q1, sizeLine_eq]
  · by_cases h2 : e = "remove"
    · subst h2
      refine ⟨.tup [.str "parent", .str "next", .str "up"], ?_, fun h => by rw [plc_r]; rfl, fun C h x => by rw [plc_r]; exact v_in (xs := ["parent", "next", "up"]) rfl, fun n => rfl⟩
      show f_Book_places (ceN bod pd k) [.ref a, .str "remove"] A = _
      simp [f_Book_places, trimF, runF, b_Book_places, slots, q1, q2, h1, cu, sizeLine_eq]
    · by_cases h3 : e ∈ words
      · have ep : plc b.e.N e = eplc := by unfold plc; rw [if_neg h1, if_neg h2, if_pos h3]
        have h3' : e ∈ (["style", "insert", "remove", "move"] : List Str) := h3
        refine ⟨.ctp ["own", "parent", "next", "up"], ?_, fun h => by rw [ep]; rfl, fun C h x => by rw [ep]; exact v_inC, fun n => rfl⟩
        show f_Book_places (ceN bod pd k) [.ref a, .str e] A = _
        have q5 : ∀ C, oInA C (.str e) (.ctp ["style", "insert", "remove", "move"]) A = .ok (.bl true) A := fun C => by rw [q3 C, decide_eq_true h3']
        simp [f_Book_places, trimF, runF, b_Book_places, slots, q1, q2, h1, h2, q5, sizeLine_eq]
      · have h4 : e ∈ b.e.N := by
          rcases he with z | z | z
          · exact (h1 z).elim
          · exact (h3 z).elim
          · exact z
        have ep : plc b.e.N e = cplc := plc_N B.eng.nin h4
        have h3' : e ∉ (["style", "insert", "remove", "move"] : List Str) := h3
        refine ⟨.ctp ["own", "parent", "next", "children"], ?_, fun h => by rw [ep]; rfl, fun C h x => by rw [ep]; exact v_inC, fun n => rfl⟩
        show f_Book_places (ceN bod pd k) [.ref a, .str e] A = _
        have q5 : ∀ C, oInA C (.str e) (.ctp ["style", "insert", "remove", "move"]) A = .ok (.bl false) A := fun C => by rw [q3 C, decide_eq_false h3']
        generalize sts b.e.N = NN at *
        simp [f_Book_places, trimF, runF, b_Book_places, slots, q1, q2, h1, h2, q5, k_fldE, hb, hn, oFld_ins, le, la, q4, h4, sizeLine_eq]
theorem has_ok {k a ea : Nat} {b : Bk} (B : b.Ok) {rv t : AV} {A : AH} (h : BkAt A b a ea rv t) {kd e p : Str} (hk : kd ∈ b.e.K) (hp : p ∈ plc b.e.N e) : (ceN bod pd (k + 2)).call nm_Book_has_rule [.ref a, .tup [.str kd, .str e, .str p]] A = .ok (.bl true) A := by
  obtain ⟨w, e1, _, e2, _⟩ := places_ok (k := k) B h (EvOk.of hp)
  show f_Book_has_rule (ceN bod pd (k + 1)) [.ref a, .tup [.str kd, .str e, .str p]] A = _
  generalize ceN bod pd (k + 1) = C at e1 ⊢
  have le : List.lookup ("engine" : Str) (b.fs ea rv) = some (.ref ea) := rfl
  have lk : List.lookup ("kinds" : Str) (b.e.fs t) = some (.fl (sts b.e.K)) := rfl
  have lp : (List.lookup ("places" : Str) (b.fs ea rv)).isNone = true := rfl
  have hb := h.bk
  have hn := h.en
  have q1 : oInA C (.str kd) (.fl (sts b.e.K)) A = .ok (.bl true) A := by rw [v_inE, decide_eq_true hk]
  have q2 : oInA C (.str p) w A = .ok (.bl true) A := by rw [e2, decide_eq_true hp]
  generalize sts b.e.K = KK at *
  simp [f_Book_has_rule, trimF, runF, b_Book_has_rule, slots, k_fldE, k_methE, hb, hn, oFld_ins, oMeth_ins lp, le, lk, q1, e1, q2]
theorem rget_ok {k a ea rr : Nat} {b : Bk} (B : b.Ok) {t : AV} {A : AH} (h : BkAt A b a ea (.ref rr) t) {R : Rul} (hr : A[rr]? = some (.dt (encR AV.ctp R))) (RO : RulOk b R) {kd e p : Str} (hk : kd ∈ b.e.K) (hp : p ∈ plc b.e.N e) :
    (ceN bod pd (k + 3)).call nm_Book___getitem__ [.ref a, .tup [.str kd, .str e, .str p]] A = .ok (.ref A.length) (A ++ [mkO cl_Marks (alp (getR R (kd, e, p)))]) := by
  have e1 := has_ok (k := k) B h hk hp
  obtain ⟨g1, g2, _⟩ := RO.get (kd, e, p)
  have gl := nd_len g1 g2
  have mk := marks_mk (k := k + 1) (xs := getR R (kd, e, p)) (A := A) (by have := B.m2; omega)
  show f_Book___getitem__ (ceN bod pd (k + 2)) [.ref a, .tup [.str kd, .str e, .str p]] A = _
  generalize ceN bod pd (k + 2) = C at e1 mk ⊢
  have lh : (List.lookup ("has_rule" : Str) (b.fs ea (.ref rr))).isNone = true := rfl
  have lr : List.lookup ("rules" : Str) (b.fs ea (.ref rr)) = some (.ref rr) := rfl
  have hb := h.bk
  obtain ⟨hd, hg⟩ := hasR_ref (f := AV.ctp) hr
  have hg := hg (kd, e, p)
  have st : ∀ σ, kStar aNil σ ((valA (encR AV.ctp R) (enK (kd, e, p))).getD (.tup [])) A = .ok (sts (getR R (kd, e, p))) A := fun σ => k_starS ctp_seq
  have g3 := k_g3 (z := .tup []) hg
  have tr := trim_ref (h := A) (X := A ++ [mkO cl_Marks (alp (getR R (kd, e, p)))]) (Nat.le_refl A.length)
  dsimp only at g3
  generalize (valA (encR AV.ctp R) (enK (kd, e, p))).getD (.tup []) = w at *
  simp [f_Book___getitem__, trimF, runF, b_Book___getitem__, slots, k_fldE, k_methE, hb, oFld_ins, oMeth_ins lh, lr, e1, k_g1 hd, g3, st, mk, tr, sizeLine_eq]
theorem isway_ok {k a ea : Nat} {b : Bk} (B : b.Ok) {rv t : AV} {A : AH} (h : BkAt A b a ea rv t) {m : Str} : (ceN bod pd (k + 1)).call nm_Book_is_way [.ref a, .str m] A = .ok (.bl (b.Rd.any fun p => decide (m ∈ p.2))) A := by
  show f_Book_is_way (ceN bod pd k) [.ref a, .str m] A = _
  generalize ceN bod pd k = C
  have hb := h.bk
  have lr : List.lookup ("reads" : Str) (b.fs ea rv) = some (.fl b.rd) := rfl
  have rl3 : b.Rd.length ≤ 3 := by rw [B.rl]; exact B.eng.p2
  have c0 : c0_Book_is_way C [some (.ref a), some (.str m), none, none] A = .ok (.fl ((b.Rd.map fun p => decide (m ∈ p.2)).map .bl)) A := by
    unfold c0_Book_is_way
    refine sLcF_ys (s := .tup b.rd) (xs := b.rd) (by simp [k_fldE, hb, oFld_ins, lr]) src_tupI (by simp [Bk.rd]) (by simp; omega) fun i x y hx hy => ?_
    unfold Bk.rd at hx
    rw [List.map_map, List.getElem?_map] at hy
    rw [List.getElem?_map] at hx
    obtain ⟨p, hp, rfl⟩ := Option.map_eq_some_iff.mp hx
    rw [hp] at hy
    cases hy
    refine ⟨_, rfl, ?_⟩
    have q := v_inC (C := C) (xs := p.2) (x := m) (h := A)
    simp [q]
  have an : bAny (.fl ((b.Rd.map fun p => decide (m ∈ p.2)).map .bl)) A = .ok (.bl (b.Rd.any fun p => decide (m ∈ p.2))) A := by
    unfold bAny
    rw [lst_fl]
    dsimp only
    rw [blsL_map]
    simp [List.any_map]
  generalize ((b.Rd.map fun p => decide (m ∈ p.2)).map AV.bl) = L0 at *
  simp [f_Book_is_way, trimF, runF, b_Book_is_way, slots, c0, an]
theorem rset_ok {k a ea rr c : Nat} {b : Bk} (B : b.Ok) {t : AV} {A : AH} (h : BkAt A b a ea (.ref rr) t) {R : Rul} (hr : A[rr]? = some (.dt (encR AV.ctp R))) (RO : RulOk b R) {kd e p : Str} {l : List Str} (hl : RulOk1 b (kd, e, p) l) (hc : A[c]? = some (mkO cl_Marks l)) :
    (ceN bod pd (k + 3)).call nm_Book___setitem__ [.ref a, .tup [.str kd, .str e, .str p], .ref c] A = .ok .non (A.set rr (.dt (encR AV.ctp (putR R (kd, e, p) l)))) := by
  obtain ⟨h1, h2, h3, h4, h5⟩ := hl
  have e1 := has_ok (k := k) B h h1 h2
  have e2 := fun {m : Str} => isway_ok (k := k + 1) B h (m := m)
  show f_Book___setitem__ (ceN bod pd (k + 2)) [.ref a, .tup [.str kd, .str e, .str p], .ref c] A = _
  generalize ceN bod pd (k + 2) = C at e1 e2 ⊢
  have lh : (List.lookup ("has_rule" : Str) (b.fs ea (.ref rr))).isNone = true := rfl
  have lw : (List.lookup ("is_way" : Str) (b.fs ea (.ref rr))).isNone = true := rfl
  have lr : List.lookup ("rules" : Str) (b.fs ea (.ref rr)) = some (.ref rr) := rfl
  have lm : List.lookup ("marks" : Str) (b.fs ea (.ref rr)) = some (.fl (sts b.M)) := rfl
  have ln : List.lookup ("names" : Str) [(("names" : Str), AV.fl (sts l))] = some (.fl (sts l)) := rfl
  have hb := h.bk
  have oe := (EvOk.of h2).str B
  have of : okS ("fence" : Str) := by show PyData.strOk ("fence" : Str) = true; decide +kernel
  have q1 := v_eqS (C := C) (x := e) (y := "fence") (h := A) oe of
  have a1 : L2.atI [AV.str kd, .str e, .str p] 1 = some (.str e) := by simp [L2.atI, L2.ixN]
  have ca := clean_at0 h.bk
  have cc := clean_at0 hc
  have lp : kFor (gNm 3) (l0_Book___setitem__ C) [some (.ref a), some (.tup [.str kd, .str e, .str p]), some (.ref c), none] (.tup (sts l)) A = .ok (.nx [some (.ref a), some (.tup [.str kd, .str e, .str p]), some (.ref c), none]) A := by
    refine kFor_same (xs := l) (enc := AV.str) src_tupI fun m hm => ⟨_, rfl, ?_⟩
    have ni : oNotInA C (.str m) (.fl (sts b.M)) A = .ok (.bl false) A := by rw [v_notinE, decide_eq_true (h4 m hm)]; rfl
    generalize sts b.M = MM at *
    by_cases hf : e = "fence"
    · have w : (b.Rd.any fun p => decide (m ∈ p.2)) = false := List.any_eq_false.mpr fun p hp => by simpa using h5 hf m hm p hp
      have e3 := e2 (m := m)
      rw [w] at e3
      rw [decide_eq_true hf] at q1
      simp [l0_Book___setitem__, k_fldE, k_methE, hb, oFld_ins, oMeth_ins lw, lm, ni, a1, q1, e3, trimG_nx, ca, cc]
    · rw [decide_eq_false hf] at q1
      simp [l0_Book___setitem__, k_fldE, k_methE, hb, oFld_ins, oMeth_ins lw, lm, ni, a1, q1, trimG_nx, ca, cc]
  have tp : bTuple (.fl (sts l)) A = .ok (.ctp l) A := v_tup rfl
  have pu := p_dtE (f := AV.ctp) (k := kd) (e := e) (p := p) (l := l) hr (by have := RO.len B; omega)
  simp [f_Book___setitem__, trimF, runF, b_Book___setitem__, slots, k_fldE, k_methE, hb, hc, oFld_ins, oMeth_ins lh, lr, ln, e1, lp, tp, pu]
end K09

namespace K09
open PySem PySem.Spec PyProof.Rows L2 Mi
theorem batoms_ok {k a ea rr : Nat} {b : Bk} (B : b.Ok) {t : AV} {A : AH} (h : BkAt A b a ea (.ref rr) t) {R : Rul} (hr : A[rr]? = some (.dt (encR AV.ctp R))) :
    (ceN bod pd (k + 2)).call nm_Book_atoms [.ref a] A = .ok (.ref A.length) (A ++ [.lst (t4 (b.atoms (getR R)))]) := by
  have e1 := fun {X : AH} {e : Str} (he : EvOk b e) => places_ok (k := k) B (h.app (X := X)) he
  show f_Book_atoms (ceN bod pd (k + 1)) [.ref a] A = _
  generalize ceN bod pd (k + 1) = C at e1 ⊢
  have le : List.lookup ("engine" : Str) (b.fs ea (.ref rr)) = some (.ref ea) := rfl
  have lr : List.lookup ("rules" : Str) (b.fs ea (.ref rr)) = some (.ref rr) := rfl
  have lm : List.lookup ("marks" : Str) (b.fs ea (.ref rr)) = some (.fl (sts b.M)) := rfl
  have lk : List.lookup ("kinds" : Str) (b.e.fs t) = some (.fl (sts b.e.K)) := rfl
  have la : List.lookup ("attributes" : Str) (b.e.fs t) = some (.fl (sts b.e.N)) := rfl
  have lp : (List.lookup ("places" : Str) (b.fs ea (.ref rr))).isNone = true := rfl
  have ca : clean (A.length + 1) (.ref a) = true := clean_at h.bk
  -- one place
  have p2 : ∀ (kd e : Str) (acc : List K4) (ps : List Str), acc.length ≤ 800 → ps.length ≤ 4 → kFor (gNm 4) (l2_Book_atoms C) [some (.ref a), some (.ref A.length), some (.str kd), some (.str e), none, none, none] (.tup (sts ps)) (A ++ [.lst (t4 acc)]) = .ok (.nx [some (.ref a), some (.ref A.length), some (.str kd), some (.str e), none, none, none]) (A ++ [.lst (t4 (acc ++ ps.flatMap (atP b (getR R) kd e)))]) := fun kd e acc ps hacc hps => by
    have z := kFor_acc (s := .tup (sts ps)) (xs := ps) (enc := AV.str) (g := gNm 4) (b := l2_Book_atoms C) (σ := [some (.ref a), some (.ref A.length), some (.str kd), some (.str e), none, none, none]) (A := A) (a0 := t4 acc) (fun p => t4 (atP b (getR R) kd e p)) (fun X => src_tupI) (fun ys p zs hx => by
      refine ⟨_, rfl, ?_⟩
      have yl := len_pre hx
      have hf := flatMap_len (F := atP b (getR R) kd e) (c := 4) (ys := ys) fun p _ => atP_len B
      have pl := atP_len B (f := getR R) (k := kd) (e := e) (p := p)
      simp only [t4_flat]
      rw [← t4_app]
      have al : (acc ++ ys.flatMap (atP b (getR R) kd e)).length ≤ 820 := by rw [List.length_append]; omega
      generalize acc ++ ys.flatMap (atP b (getR R) kd e) = acc2 at *
      have hB := (h.app (X := [.lst (t4 acc2)])).bk
      have hR := get_app (G := [.lst (t4 acc2)]) hr
      obtain ⟨hd, hg⟩ := hasR_ref (f := AV.ctp) hR
      have g3 := k_g3 (z := .tup []) (hg (kd, e, p))
      have ge : (A ++ [AO.lst (t4 acc2)])[A.length]? = some (.lst (t4 acc2)) := end_get
      have ex := v_ext (v := .fl (t4 (atP b (getR R) kd e p))) ge rfl (by rw [List.length_map, List.length_map]; omega)
      have il := is_lst (lst_ref ge)
      rw [end_set, ← t4_app] at ex
      rw [← t4_app]
      have wi := fun (m : Str) => ctp_in (C := C) (R := R) (k := (kd, e, p)) (h := A ++ [.lst (t4 acc2)]) (m := m)
      have wc := ctp_clean (R := R) (k := (kd, e, p)) (n := A.length + 1)
      dsimp only at g3
      generalize (valA (encR AV.ctp R) (enK (kd, e, p))).getD (.tup []) = w at *
      have c0 : c0_Book_atoms C [some (.ref a), some (.ref A.length), some (.str kd), some (.str e), some (.str p), some w, none] (A ++ [.lst (t4 acc2)]) = .ok (.fl (t4 (atP b (getR R) kd e p))) (A ++ [.lst (t4 acc2)]) := by
        unfold c0_Book_atoms
        exact atP_comp B.m2 (by simp [k_fldE, hB, oFld_ins, lm]) fun m => ⟨by simp [wi], by simp [sizeLine_eq]⟩
      have c1 := cleans_t4 (n := A.length + 1) (xs := acc2 ++ atP b (getR R) kd e p)
      generalize t4 (acc2 ++ atP b (getR R) kd e p) = L2 at *
      generalize t4 (atP b (getR R) kd e p) = L1 at *
      generalize t4 acc2 = L0 at *
      simp [l2_Book_atoms, k_fldE, hB, oFld_ins, lr, k_g1 hd, g3, c0, il, ex, trimG_acc0, ca, c1, sizeLine_eq])
    rw [z, t4_flat, ← t4_app]
  have p1 : ∀ (kd : Str) (acc : List K4) (es : List Str), acc.length ≤ 600 → es.length ≤ 8 → (∀ e ∈ es, EvOk b e) → kFor (gNm 3) (l1_Book_atoms C) [some (.ref a), some (.ref A.length), some (.str kd), none, none, none, none] (.tup (sts es)) (A ++ [.lst (t4 acc)]) = .ok (.nx [some (.ref a), some (.ref A.length), some (.str kd), none, none, none, none]) (A ++ [.lst (t4 (acc ++ es.flatMap (atE b (getR R) kd)))]) := fun kd acc es hacc hes hev => by
    have z := kFor_acc (s := .tup (sts es)) (xs := es) (enc := AV.str) (g := gNm 3) (b := l1_Book_atoms C) (σ := [some (.ref a), some (.ref A.length), some (.str kd), none, none, none, none]) (A := A) (a0 := t4 acc) (fun e => t4 (atE b (getR R) kd e)) (fun X => src_tupI) (fun ys e zs hx => by
      refine ⟨_, rfl, ?_⟩
      have yl := len_pre hx
      have hf := flatMap_len (F := atE b (getR R) kd) (c := 16) (ys := ys) fun p _ => atE_len B
      simp only [t4_flat]
      rw [← t4_app]
      have al : (acc ++ ys.flatMap (atE b (getR R) kd)).length ≤ 800 := by rw [List.length_append]; omega
      generalize acc ++ ys.flatMap (atE b (getR R) kd) = acc2 at *
      have q2 := p2 kd e acc2 (plc b.e.N e) al plc_len
      obtain ⟨w, f1, f2, _, f3⟩ := e1 (X := [.lst (t4 acc2)]) (hev e (mem_left hx))
      have hB := (h.app (X := [.lst (t4 acc2)])).bk
      rw [← t4_app, show atE b (getR R) kd e = (plc b.e.N e).flatMap (atP b (getR R) kd e) from rfl]
      have c1 := cleans_t4 (n := A.length + 1) (xs := acc2 ++ (plc b.e.N e).flatMap (atP b (getR R) kd e))
      generalize t4 (acc2 ++ (plc b.e.N e).flatMap (atP b (getR R) kd e)) = L2 at *
      generalize sts (plc b.e.N e) = PP at *
      generalize t4 acc2 = L0 at *
      simp [l1_Book_atoms, k_methE, hB, oMeth_ins lp, f1, f2, q2, trimG_acc0, ca, c1])
    rw [z, t4_flat, ← t4_app]
  have p0 : kFor (gNm 2) (l0_Book_atoms C) [some (.ref a), some (.ref A.length), none, none, none, none, none] (.tup (sts b.e.K)) (A ++ [.lst []]) = .ok (.nx [some (.ref a), some (.ref A.length), none, none, none, none, none]) (A ++ [.lst (t4 (b.atoms (getR R)))]) := by
    have z := kFor_acc (s := .tup (sts b.e.K)) (xs := b.e.K) (enc := AV.str) (g := gNm 2) (b := l0_Book_atoms C) (σ := [some (.ref a), some (.ref A.length), none, none, none, none, none]) (A := A) (a0 := []) (fun kd => t4 (atK b (getR R) kd)) (fun X => src_tupI) (fun ys kd zs hx => by
      refine ⟨_, rfl, ?_⟩
      have yl := len_pre hx
      have hf := flatMap_len (F := atK b (getR R)) (c := 128) (ys := ys) fun p _ => atK_len B
      have k2 := B.eng.k2
      simp only [t4_flat, List.nil_append]
      have al : (ys.flatMap (atK b (getR R))).length ≤ 600 := by omega
      generalize ys.flatMap (atK b (getR R)) = acc2 at *
      have q1 := p1 kd acc2 (words ++ b.e.N) al (ev_len B) fun e he => by
        rcases List.mem_append.mp he with z | z
        · exact .inr (.inl z)
        · exact .inr (.inr z)
      have hB := (h.app (X := [.lst (t4 acc2)])).bk
      have hE := (h.app (X := [.lst (t4 acc2)])).en
      have tp : bTuple (.fl (sts b.e.N)) (A ++ [.lst (t4 acc2)]) = .ok (.ctp b.e.N) (A ++ [.lst (t4 acc2)]) := v_tup rfl
      have ad : oAdd false (.ctp ["style", "insert", "remove", "move"]) (.ctp b.e.N) (A ++ [.lst (t4 acc2)]) = .ok (.tup (sts (words ++ b.e.N))) (A ++ [.lst (t4 acc2)]) := by
        show (if (["style", "insert", "remove", "move"] : List Str) ≠ [] ∧ b.e.N ≠ [] ∧ (["style", "insert", "remove", "move"] : List Str).length + b.e.N.length ≤ sizeLine then Mi.R.ok (AV.tup (sts words ++ sts b.e.N)) (A ++ [.lst (t4 acc2)]) else Mi.R.bad) = _
        rw [if_pos ⟨by simp, fun z => by have := B.eng.n1; rw [z] at this; simp at this, by have := B.eng.n2; simp [sizeLine_eq]; omega⟩, ← List.map_append]
      rw [← t4_app, show atK b (getR R) kd = (words ++ b.e.N).flatMap (atE b (getR R) kd) from rfl]
      have c1 := cleans_t4 (n := A.length + 1) (xs := acc2 ++ (words ++ b.e.N).flatMap (atE b (getR R) kd))
      generalize t4 (acc2 ++ (words ++ b.e.N).flatMap (atE b (getR R) kd)) = L2 at *
      generalize sts (words ++ b.e.N) = PP at *
      generalize t4 acc2 = L0 at *
      generalize sts b.e.N = NN at *
      simp [l0_Book_atoms, k_fldE, hB, hE, oFld_ins, le, la, tp, ad, q1, trimG_acc0, ca, c1])
    rw [z, t4_flat, List.nil_append]
    rfl
  have hB := (h.app (X := [.lst []])).bk
  have hE := (h.app (X := [.lst []])).en
  have tr := trim_ref (h := A) (X := A ++ [.lst (t4 (b.atoms (getR R)))]) (Nat.le_refl A.length)
  generalize t4 (b.atoms (getR R)) = L0 at *
  generalize sts b.e.K = KK at *
  simp [f_Book_atoms, trimF, runF, b_Book_atoms, slots, k_fldE, hB, hE, oFld_ins, le, lk, p0, tr, sizeLine_eq]
end K09

namespace K09
open PySem PySem.Spec PyProof.Rows L2 Mi
theorem words_cases {e : Str} (h : e ∈ words) : e = "style" ∨ e = "insert" ∨ e = "remove" ∨ e = "move" := by simpa [words] using h
theorem menuN_ne {x : Str} (h : x ∈ menuN) : x ≠ "style" ∧ x ≠ "remove" ∧ x ≠ "insert" ∧ x ≠ "move" := by
  have z : ∀ y ∈ menuN, y ≠ "style" ∧ y ≠ "remove" ∧ y ≠ "insert" ∧ y ≠ "move" := by decide +kernel
  exact z x h
def plcD : List (Ky × AV) := [(.inr "style", .fl [.str "own", .str "parent", .str "next", .str "up"]), (.inr "remove", .fl [.str "parent", .str "next", .str "up"]), (.inr "insert", .fl [.str "own", .str "parent", .str "next", .str "up"]), (.inr "move", .fl [.str "own", .str "parent", .str "next", .str "up"])]
theorem lplaces_ok {k : Nat} {b : Bk} (B : b.Ok) {A : AH} {e : Str} (he : e ∈ words ∨ e ∈ b.e.N) : (ceN bod pd (k + 1)).call nm__law_places [.str e] A = .ok (.fl (sts (plc b.e.N e))) A := by
  show f__law_places (ceN bod pd k) [.str e] A = _
  generalize ceN bod pd k = C
  have kd : ∀ a c h, kDisp true [(.str "style", a), (.str "remove", c)] h = .ok (.ref h.length) (h ++ [.dk [(.inr "style", a), (.inr "remove", c)]]) := fun a c h => rfl
  have g1 : ∀ a c h, dGetA (.ref A.length) (.str "style") (A ++ .dk ((.inr "style", a) :: c) :: h) = some (some a) := fun a c h => by rw [g_dk end_get]; rfl
  have pu1 : ∀ a c v, dPutA (.ref A.length) (.str "insert") v (A ++ [.dk [(.inr "style", a), (.inr "remove", c)]]) = some (A ++ [.dk [(.inr "style", a), (.inr "remove", c), (.inr "insert", v)]]) := fun a c v => by
    rw [p_dk end_get (by simp; decide +kernel) (by simp), end_set]; rfl
  have pu2 : ∀ a c d v, dPutA (.ref A.length) (.str "move") v (A ++ [.dk [(.inr "style", a), (.inr "remove", c), (.inr "insert", d)]]) = some (A ++ [.dk [(.inr "style", a), (.inr "remove", c), (.inr "insert", d), (.inr "move", v)]]) := fun a c d v => by
    rw [p_dk end_get (by simp; decide +kernel) (by simp), end_set]; rfl
  have hd : ∀ kv, isDic (.ref A.length) (A ++ [.dk kv]) = true := fun kv => by simp [isDic]
  have g3 : ∀ kv z, kG3 (.ref A.length) (.str e) z (A ++ [.dk kv]) = .ok ((valA kv (.inr e)).getD z) (A ++ [.dk kv]) := fun kv z => k_g3 (g_dk end_get)
  have tr : ∀ kv l, trimR 0 A (.ok (.fl (sts l)) (A ++ [.dk kv])) = .ok (.fl (sts l)) A := fun kv l => trim_app clean_sts
  have fin : ∀ (l : List Str), (valA plcD (.inr e)).getD (.fl [.str "own", .str "parent", .str "next", .str "children"]) = .fl (sts l) → f__law_places C [.str e] A = .ok (.fl (sts l)) A := fun l hl => by
    have t := tr plcD l
    rw [← hl] at t ⊢
    unfold plcD at t ⊢
    simp [f__law_places, trimF, runF, b__law_places, slots, kd, v_ixD (g1 _ _ _), pu1, pu2, k_g1 (hd _), g3, sizeLine_eq]
    exact t
  rcases he with he | he
  · rcases words_cases he with rfl | rfl | rfl | rfl
    · rw [plc_s]; exact fin _ rfl
    · rw [plc_i]; exact fin _ rfl
    · rw [plc_r]; exact fin _ rfl
    · rw [plc_m]; exact fin _ rfl
  · rw [plc_N B.eng.nin he]
    refine fin _ ?_
    obtain ⟨n1, n2, n3, n4⟩ := menuN_ne (B.eng.nin e he)
    rw [valA_none (by simp [plcD, n1, n2, n3, n4])]
    rfl
theorem tv_rows {b : Bk} : b.tv = .fl (b.Rd.map fun p => .fl (sts p.2)) := rfl
theorem lways_ok {k : Nat} {b : Bk} (B : b.Ok) {rv : AV} {A : AH} : (ceN bod pd (k + 1)).call nm__law_ways [bkv b rv] A = .ok (.fl (sts b.ways)) A := by
  show f__law_ways (ceN bod pd k) [bkv b rv] A = _
  generalize ceN bod pd k = C
  have rl3 : b.Rd.length ≤ 3 := by rw [B.rl]; exact B.eng.p2
  have gm := gb_m (b := b) (rv := rv) (h := A)
  have gt := gb_t (b := b) (rv := rv) (h := A)
  have c1 : ∀ m : Str, c1__law_ways C [some (bkv b rv), some (.str m), none] A = .ok (.fl ((b.Rd.filter fun p => decide (m ∈ p.2)).map fun p => .fl (sts p.2))) A := fun m => by
    unfold c1__law_ways
    rw [sLcF_ok (h1 := A) (s := .tup (b.Rd.map fun p => .fl (sts p.2))) (xs := b.Rd.map fun p => AV.fl (sts p.2)) (g := gNm 2) (by
      generalize bkv b rv = bv at *
      simp [v_ixD gt, tv_rows]) src_tupI (by rw [List.length_map, sizeLine_eq]; omega) (fun x => match oInA C (.str m) x A with | .ok (.bl t) _ => t | _ => false) (fun x => x) fun x hx => ?_]
    · rw [List.filter_map, List.map_id']
      congr 3
      refine List.filter_congr fun p _ => ?_
      simp only [Function.comp]
      rw [v_inE]
    · obtain ⟨p, _, rfl⟩ := List.mem_map.mp hx
      have q := v_inE (C := C) (xs := p.2) (x := m) (h := A)
      refine ⟨_, rfl, ?_, fun _ => by simp [wipeA]⟩
      rw [q]
      dsimp only
      generalize sts p.2 = L0 at *
      generalize bkv b rv = bv at *
      simp [wipeA, q]
  have c0 : c0__law_ways C [some (bkv b rv), none, none] A = .ok (.fl (sts b.ways)) A := by
    unfold c0__law_ways
    rw [sLcF_ok (h1 := A) (s := .tup (sts b.M)) (xs := sts b.M) (g := gNm 1) (by
      generalize bkv b rv = bv at *
      simp [v_ixD gm]) src_tupI (by rw [List.length_map, sizeLine_eq]; have := B.m2; omega) (fun x => match x with | .str m => decide ((b.Rd.filter fun p => decide (m ∈ p.2)).length > 0) | _ => false) (fun x => x) fun x hx => ?_]
    · rw [List.map_id']
      unfold sts
      rw [List.filter_map]
      rfl
    · obtain ⟨m, _, rfl⟩ := List.mem_map.mp hx
      have q := c1 m
      refine ⟨_, rfl, ?_, fun _ => by simp [wipeA]⟩
      show _ = R.ok (decide ((b.Rd.filter fun p => decide (m ∈ p.2)).length > 0)) A
      generalize bkv b rv = bv at *
      simp [wipeA, q]
  generalize bkv b rv = bv at *
  simp [f__law_ways, trimF, runF, b__law_ways, slots, c0]
theorem ladd_ok {k : Nat} {b : Bk} (B : b.Ok) {o : AO} {P Z : AH} {R : Rul} (RO : RulOk b R) {kd e p : Str} {ms : List Str} (h1 : RulOk1 b (kd, e, p) ms) :
    (ceN bod pd (k + 1)).call nm__law_add [bkv b (.ref (P.length + 1)), .str kd, .str e, .str p, .fl (sts ms)] (BA o P R Z) = .ok .non (BA o P (addR R (kd, e, p) ms) Z) := by
  show f__law_add (ceN bod pd k) [bkv b (.ref (P.length + 1)), .str kd, .str e, .str p, .fl (sts ms)] (BA o P R Z) = _
  generalize ceN bod pd k = C
  obtain ⟨g1, g2, g3⟩ := RO.get (kd, e, p)
  have gl := nd_len g1 g2
  have ml := nd_len h1.2.2.1 h1.2.2.2.1
  have m4 := B.m2
  have gr := gb_r (b := b) (rv := .ref (P.length + 1)) (h := BA o P R Z)
  obtain ⟨hd, hg⟩ := hasR_ref (f := fR) (ba_get (o := o) (P := P) (R := R) (Z := Z))
  have g4 := hasR_get (k := kd) (e := e) (p := p) ⟨hd, hg⟩
  have g4 : kG3 (.ref (P.length + 1)) (.tup [.str kd, .str e, .str p]) (.fl []) (BA o P R Z) = .ok (.fl (sts (getR R (kd, e, p)))) (BA o P R Z) := g4
  have c0 : c0__law_add C [some (bkv b (.ref (P.length + 1))), some (.str kd), some (.str e), some (.str p), some (.fl (sts ms)), some (.fl (sts (getR R (kd, e, p)))), none] (BA o P R Z) = .ok (.fl (sts (ms.filter fun m => decide (m ∉ getR R (kd, e, p))))) (BA o P R Z) := by
    unfold c0__law_add
    rw [sLcF_ok (h1 := BA o P R Z) (s := .tup (sts ms)) (xs := sts ms) (g := gNm 6) (by simp) src_tupI (by rw [List.length_map, sizeLine_eq]; omega) (fun x => match x with | .str m => decide (m ∉ getR R (kd, e, p)) | _ => false) (fun x => x) fun x hx => ?_]
    · rw [List.map_id']
      unfold sts
      rw [List.filter_map]
      rfl
    · obtain ⟨m, _, rfl⟩ := List.mem_map.mp hx
      have q := v_notinE (C := C) (xs := getR R (kd, e, p)) (x := m) (h := BA o P R Z)
      refine ⟨_, rfl, ?_, fun _ => by simp [wipeA]⟩
      show _ = Mi.R.ok (decide (m ∉ getR R (kd, e, p))) _
      generalize sts (getR R (kd, e, p)) = L0 at *
      generalize BA o P R Z = A at *
      generalize bkv b (.ref (P.length + 1)) = bv at *
      simp [wipeA, q]
  have ad : oAdd false (.fl (sts (getR R (kd, e, p)))) (.fl (sts (ms.filter fun m => decide (m ∉ getR R (kd, e, p))))) (BA o P R Z) = .ok (fR (getR R (kd, e, p) ++ ms.filter fun m => decide (m ∉ getR R (kd, e, p)))) (BA o P R Z) := by
    have q := v_addL (x := .fl (sts (getR R (kd, e, p)))) (y := .fl (sts (ms.filter fun m => decide (m ∉ getR R (kd, e, p))))) (h := BA o P R Z) rfl rfl (by
      have := List.length_filter_le (fun m => decide (m ∉ getR R (kd, e, p))) ms
      rw [List.length_map, List.length_map]; omega)
    rw [← List.map_append] at q
    exact q
  have pu := p_dtE (f := fR) (k := kd) (e := e) (p := p) (l := getR R (kd, e, p) ++ ms.filter fun m => decide (m ∉ getR R (kd, e, p))) (ba_get (o := o) (P := P) (R := R) (Z := Z)) (by have := RO.len B; omega)
  rw [ba_set, show putR R (kd, e, p) (getR R (kd, e, p) ++ ms.filter fun m => decide (m ∉ getR R (kd, e, p))) = addR R (kd, e, p) ms from rfl] at pu
  have tr := trim_len (v := .non) (show (BA o P (addR R (kd, e, p) ms) Z).length = (BA o P R Z).length by rw [ba_len, ba_len])
  generalize fR (getR R (kd, e, p) ++ ms.filter fun m => decide (m ∉ getR R (kd, e, p))) = L3 at *
  generalize sts (ms.filter fun m => decide (m ∉ getR R (kd, e, p))) = L2 at *
  generalize sts (getR R (kd, e, p)) = L1 at *
  generalize sts ms = L0 at *
  generalize BA o P (addR R (kd, e, p) ms) Z = A2 at *
  generalize BA o P R Z = A at *
  generalize bkv b (.ref (P.length + 1)) = bv at *
  simp [f__law_add, trimF, runF, b__law_add, slots, v_ixD gr, k_g1 hd, g4, c0, ad, pu, tr, sizeLine_eq]
end K09

namespace K09
open PySem PySem.Spec PyProof.Rows L2 Mi
theorem clean_bkv {b : Bk} {rv : AV} {n : Nat} (h : clean n rv = true) : clean n (bkv b rv) = true := by
  have e : clean n b.e.val = true := clean_val
  have e2 : cleans n [.fl (sts b.e.K), .fl b.e.pv, b.e.sv, .fl (sts b.e.N)] = true := by simpa [Eng.val] using e
  have ce : clean n b.ev = true := by
    unfold Bk.ev
    simp only [clean]
    exact cleans_iff.mpr fun v hv => by obtain ⟨p, _, rfl⟩ := List.mem_map.mp hv; exact clean_sts
  have ct : clean n b.tv = true := by
    unfold Bk.tv
    simp only [clean]
    exact cleans_iff.mpr fun v hv => by obtain ⟨p, _, rfl⟩ := List.mem_map.mp hv; exact clean_sts
  simp only [cleans_cons, cleans_nil, Bool.and_true, Bool.and_eq_true] at e2
  obtain ⟨e3, e4, e5, e6⟩ := e2
  unfold bkv
  simp only [clean_fk, cleans_cons, cleans_nil, Bool.and_true, Bool.and_eq_true]
  exact ⟨e3, e4, e5, e6, h, clean_sts, ce, ct⟩
theorem plc_pos {b : Bk} (B : b.Ok) {e : Str} (he : e ∈ words ∨ e ∈ b.e.N) : 1 ≤ (plc b.e.N e).length := by
  rcases he with he | he
  · rcases words_cases he with rfl | rfl | rfl | rfl
    · rw [plc_s]; decide
    · rw [plc_i]; decide
    · rw [plc_r]; decide
    · rw [plc_m]; decide
  · rw [plc_N B.eng.nin he]; decide
theorem ev_add {b : Bk} (B : b.Ok) {h : AH} : oAdd false (.fl [.str "style", .str "insert", .str "remove", .str "move"]) (.fl (sts b.e.N)) h = .ok (.fl (sts (words ++ b.e.N))) h := by
  have q := v_addL (x := .fl (sts words)) (y := .fl (sts b.e.N)) (h := h) rfl rfl (by have := B.eng.n2; simp [words]; omega)
  rw [← List.map_append] at q
  exact q
theorem lany_ok {k : Nat} {b : Bk} (B : b.Ok) {ns : List Int} {o : AO} {X : AH} {rv : AV} (T : Tp0 ns o) :
    ∃ (kd e p m : Str) (o' : AO), kd ∈ b.e.K ∧ (e ∈ words ∨ e ∈ b.e.N) ∧ p ∈ plc b.e.N e ∧ m ∈ b.M ∧ Tp0 ns o' ∧ (ceN bod pd (k + 3)).call nm__law_any_atom [.ref 0, bkv b rv] (o :: X) = .ok (.tup [.str kd, .str e, .str p, .str m]) (o' :: X) := by
  obtain ⟨e, o1, T1, he, d1⟩ := one_ok (k := k) (v := .fl (sts (words ++ b.e.N))) (ms := words ++ b.e.N) (R := X) T (fun _ => rfl) (by simp [words]) (by have := ev_len B; omega)
  have he : e ∈ words ∨ e ∈ b.e.N := List.mem_append.mp he
  have d2 := lplaces_ok (k := k + 1) B (A := o1 :: X) he
  obtain ⟨p, o2, T2, hp, d3⟩ := one_ok (k := k) (v := .fl (sts (plc b.e.N e))) (ms := plc b.e.N e) (R := X) T1 (fun _ => rfl) (plc_pos B he) (by have := plc_len (N := b.e.N) (e := e); omega)
  obtain ⟨kd, o3, T3, hk, d4⟩ := one_ok (k := k) (v := .fl (sts b.e.K)) (ms := b.e.K) (R := X) T2 (fun _ => rfl) B.eng.k1 (by have := B.eng.k2; omega)
  obtain ⟨m, o4, T4, hm, d5⟩ := one_ok (k := k) (v := .fl (sts b.M)) (ms := b.M) (R := X) T3 (fun _ => rfl) B.m1 (by have := B.m2; omega)
  refine ⟨kd, e, p, m, o4, hk, he, hp, hm, T4, ?_⟩
  show f__law_any_atom (ceN bod pd (k + 2)) [.ref 0, bkv b rv] (o :: X) = _
  generalize ceN bod pd (k + 2) = C at *
  have gn := gb_n (b := b) (rv := rv) (h := o :: X)
  have gk := gb_k (b := b) (rv := rv) (h := o2 :: X)
  have gm := gb_m (b := b) (rv := rv) (h := o3 :: X)
  have ad := ev_add B (h := o :: X)
  have tr := trim_len (h := o :: X) (h' := o4 :: X) (v := .tup [.str kd, .str e, .str p, .str m]) (by simp)
  generalize sts (words ++ b.e.N) = L0 at *
  generalize sts (plc b.e.N e) = L1 at *
  generalize sts b.e.K = L2 at *
  generalize sts b.M = L3 at *
  generalize sts b.e.N = L4 at *
  generalize bkv b rv = bv at *
  simp [f__law_any_atom, trimF, runF, b__law_any_atom, slots, v_ixD gn, v_ixD gk, v_ixD gm, ad, d1, d2, d3, d4, d5, tr, sizeLine_eq]
theorem c_more {k : Nat} : (ceN bod pd (k + 1)).call nm__law_more = f__law_more (ceN bod pd k) := rfl
theorem lmore_ok {k : Nat} {b : Bk} (B : b.Ok) {ns : List Int} {o : AO} {P Z : AH} {R : Rul} (T : Tp0 ns o) (RO : RulOk b R) {n : Nat} (hn : n < 100) :
    ∃ (o' : AO) (R' : Rul), Tp0 ns o' ∧ RulOk b R' ∧ (ceN bod pd (k + 4)).call nm__law_more [.ref 0, bkv b (.ref (P.length + 1)), .int (n : Nat)] (BA o P R Z) = .ok .non (BA o' P R' Z) := by
  have la := fun {o : AO} {R : Rul} (RO : RulOk b R) {kd e p : Str} {ms : List Str} h1 => ladd_ok (k := k + 2) B (o := o) (P := P) (Z := Z) RO (kd := kd) (e := e) (p := p) (ms := ms) h1
  have ly := fun {o : AO} {X : AH} (T : Tp0 ns o) => lany_ok (k := k) B (X := X) (rv := .ref (P.length + 1)) T
  have key : ∃ (o' : AO) (R' : Rul), Tp0 ns o' ∧ RulOk b R' ∧ f__law_more (ceN bod pd (k + 3)) [.ref 0, bkv b (.ref (P.length + 1)), .int (n : Nat)] (BA o P R Z) = .ok .non (BA o' P R' Z) := by
    generalize ceN bod pd (k + 3) = C at la ly ⊢
    have cb : clean (P.length + 1 + Z.length + 1) (bkv b (.ref (P.length + 1))) = true := clean_bkv (clean_lt (by omega))
    obtain ⟨σ2, h2, e, o', R', T', RO', q1, q2⟩ := kFor_inv (s := .rng 0 n) (xs := rngL n) (g := gNm 3) (b := l0__law_more C) (σ := [some (.ref 0), some (bkv b (.ref (P.length + 1))), some (.int (n : Nat)), none, none]) (h := BA o P R Z)
      (fun i σ h => ∃ (o' : AO) (R' : Rul), Tp0 ns o' ∧ RulOk b R' ∧ σ = [some (.ref 0), some (bkv b (.ref (P.length + 1))), some (.int (n : Nat)), none, none] ∧ h = BA o' P R' Z) (by simp) (fun _ _ _ _ => at_rng) ⟨o, R, T, RO, rfl, rfl⟩ (fun i x σ h hx q => by
        obtain ⟨o1, R1, T1, RO1, rfl, rfl⟩ := q
        obtain ⟨kd, e, p, m, o2, hk, he, hp, hm, T2, d1⟩ := ly (X := P ++ .dt (encR fR R1) :: Z) T1
        have h1 : RulOk1 b (kd, e, p) [m] := ⟨hk, hp, by simp, by simpa using hm, fun ef => by
          have ef : e = "fence" := ef
          subst ef
          rcases he with he | he
          · exact absurd he (by decide +kernel)
          · exact absurd rfl (menuN_ev _ (B.eng.nin _ he)).1⟩
        have a1 := la (o := o2) RO1 h1
        have d1 : C.call nm__law_any_atom [.ref 0, bkv b (.ref (P.length + 1))] (BA o1 P R1 Z) = .ok (.tup [.str kd, .str e, .str p, .str m]) (BA o2 P R1 Z) := d1
        refine ⟨_, _, _, rfl, ?_, o2, addR R1 (kd, e, p) [m], T2, RO1.add h1, rfl, rfl⟩
        have i1 : L2.atI [AV.str kd, .str e, .str p, .str m] 1 = some (.str e) := by simp
        have i2 : L2.atI [AV.str kd, .str e, .str p, .str m] 2 = some (.str p) := by simp
        have i3 : L2.atI [AV.str kd, .str e, .str p, .str m] 3 = some (.str m) := by simp
        have a1 : C.call nm__law_add [bkv b (.ref (P.length + 1)), .str kd, .str e, .str p, .fl [.str m]] (BA o2 P R1 Z) = .ok .non (BA o2 P (addR R1 (kd, e, p) [m]) Z) := a1
        have tg := trimG_ba (o := o1) (o' := o2) (P := P) (Z := Z) (R := R1) (R' := addR R1 (kd, e, p) [m]) (js := [3, 4]) (σ1 := [some (.ref 0), some (bkv b (.ref (P.length + 1))), some (.int (n : Nat)), some x, some (.tup [.str kd, .str e, .str p, .str m])]) (tp_clean T2) (by simp [cb])
        generalize BA o1 P R1 Z = A1 at *
        generalize BA o2 P R1 Z = A2 at *
        generalize BA o2 P (addR R1 (kd, e, p) [m]) Z = A3 at *
        generalize bkv b (.ref (P.length + 1)) = bv at *
        simp [l0__law_more, d1, i1, i2, i3, a1, sizeLine_eq]
        exact tg)
    refine ⟨o', R', T', RO', ?_⟩
    rw [q1, q2] at e
    have tr := trim_len (v := .non) (show (BA o' P R' Z).length = (BA o P R Z).length by rw [ba_len, ba_len])
    generalize BA o' P R' Z = A2 at *
    generalize BA o P R Z = A at *
    generalize bkv b (.ref (P.length + 1)) = bv at *
    simp [f__law_more, trimF, runF, b__law_more, slots, k_rngN (show n < 1000 by omega), e, tr]
  obtain ⟨o', R', T', RO', e⟩ := key
  refine ⟨o', R', T', RO', ?_⟩
  rw [c_more]
  exact e
theorem notways {b : Bk} {m : Str} (hm : m ∈ b.M) (h : m ∉ b.ways) (p : List Str × List Str) (hp : p ∈ b.Rd) : m ∉ p.2 := by
  intro hin
  apply h
  unfold Bk.ways
  refine List.mem_filter.mpr ⟨hm, ?_⟩
  have z : p ∈ b.Rd.filter fun p => decide (m ∈ p.2) := List.mem_filter.mpr ⟨hp, decide_eq_true hin⟩
  exact decide_eq_true (List.length_pos_of_mem z)
theorem lfence_ok {k : Nat} {b : Bk} (B : b.Ok) {ns : List Int} {o : AO} {P Z : AH} {R : Rul} (T : Tp0 ns o) (RO : RulOk b R) :
    ∃ (o' : AO) (R' : Rul), Tp0 ns o' ∧ RulOk b R' ∧ (ceN bod pd (k + 3)).call nm__law_fence [.ref 0, bkv b (.ref (P.length + 1))] (BA o P R Z) = .ok .non (BA o' P R' Z) := by
  have w1 := lways_ok (k := k + 1) B (rv := .ref (P.length + 1)) (A := BA o P R Z)
  obtain ⟨ms, hms⟩ : ∃ ms, ms = b.M.filter fun m => decide (m ∉ b.ways) := ⟨_, rfl⟩
  have msub : ∀ m ∈ ms, m ∈ b.M ∧ m ∉ b.ways := fun m hm => by rw [hms] at hm; simpa using List.mem_filter.mp hm
  have ml : ms.length ≤ 4 := by rw [hms]; exact Nat.le_trans (List.length_filter_le _ _) B.m2
  have gm := gb_m (b := b) (rv := .ref (P.length + 1)) (h := BA o P R Z)
  have c0 : ∀ C, c0__law_fence C [some (.ref 0), some (bkv b (.ref (P.length + 1))), some (.fl (sts b.ways)), none, none] (BA o P R Z) = .ok (.fl (sts ms)) (BA o P R Z) := fun C => by
    unfold c0__law_fence
    rw [sLcF_ok (h1 := BA o P R Z) (s := .tup (sts b.M)) (xs := sts b.M) (g := gNm 4) (by
      generalize bkv b (.ref (P.length + 1)) = bv at *
      simp [v_ixD gm]) src_tupI (by rw [List.length_map, sizeLine_eq]; have := B.m2; omega) (fun x => match x with | .str m => decide (m ∉ b.ways) | _ => false) (fun x => x) fun x hx => ?_]
    · rw [List.map_id', hms]
      unfold sts
      rw [List.filter_map]
      rfl
    · obtain ⟨m, _, rfl⟩ := List.mem_map.mp hx
      have q := v_notinE (C := C) (xs := b.ways) (x := m) (h := BA o P R Z)
      refine ⟨_, rfl, ?_, fun _ => by simp [wipeA]⟩
      show _ = Mi.R.ok (decide (m ∉ b.ways)) _
      generalize sts b.ways = L0 at *
      generalize BA o P R Z = A at *
      generalize bkv b (.ref (P.length + 1)) = bv at *
      simp [wipeA, q]
  cases hz : ms with
  | nil =>
    subst hz
    refine ⟨o, R, T, RO, ?_⟩
    show f__law_fence (ceN bod pd (k + 2)) [.ref 0, bkv b (.ref (P.length + 1))] (BA o P R Z) = _
    generalize ceN bod pd (k + 2) = C at *
    have c0 := c0 C
    generalize sts b.ways = L0 at *
    generalize BA o P R Z = A at *
    generalize bkv b (.ref (P.length + 1)) = bv at *
    simp [f__law_fence, trimF, runF, b__law_fence, slots, w1, c0]
  | cons m0 mt =>
    have mpos : 1 ≤ ms.length := by rw [hz]; simp
    obtain ⟨v, o1, hv, T1, d1⟩ := pick_ok (k := k + 1) (n := 3) (R := P ++ .dt (encR fR R) :: Z) T (by decide) (by decide)
    obtain ⟨kd, o2, T2, hk, d2⟩ := one_ok (k := k) (v := .fl (sts b.e.K)) (ms := b.e.K) (R := P ++ .dt (encR fR R) :: Z) T1 (fun _ => rfl) B.eng.k1 (by have := B.eng.k2; omega)
    obtain ⟨m, o3, T3, hm, d3⟩ := one_ok (k := k) (v := .fl (sts ms)) (ms := ms) (R := P ++ .dt (encR fR R) :: Z) T2 (fun _ => rfl) mpos (by omega)
    have h1 : RulOk1 b (kd, "fence", "up") [m] := ⟨hk, by show ("up" : Str) ∈ plc b.e.N "fence"; rw [plc_f]; simp, by simp, by simpa using (msub m hm).1, fun _ x hx => by
      rw [List.mem_singleton.mp hx]
      exact notways (msub m hm).1 (msub m hm).2⟩
    have a1 := ladd_ok (k := k + 1) B (o := o3) (P := P) (Z := Z) RO h1
    have d1 : (ceN bod pd (k + 2)).call nm__law_pick [.ref 0, .int 3] (BA o P R Z) = .ok (.int (v : Nat)) (BA o1 P R Z) := d1
    have d2 : (ceN bod pd (k + 2)).call nm__law_one [.ref 0, .fl (sts b.e.K)] (BA o1 P R Z) = .ok (.str kd) (BA o2 P R Z) := d2
    have d3 : (ceN bod pd (k + 2)).call nm__law_one [.ref 0, .fl (sts ms)] (BA o2 P R Z) = .ok (.str m) (BA o3 P R Z) := d3
    have a1 : (ceN bod pd (k + 2)).call nm__law_add [bkv b (.ref (P.length + 1)), .str kd, .str "fence", .str "up", .fl [.str m]] (BA o3 P R Z) = .ok .non (BA o3 P (addR R (kd, "fence", "up") [m]) Z) := a1
    have gk := gb_k (b := b) (rv := .ref (P.length + 1)) (h := BA o1 P R Z)
    have tp := fun t => trimP_chg (b := t) (show (BA o1 P R Z).length = (BA o P R Z).length by rw [ba_len, ba_len])
    have tr1 := trim_len (v := .non) (show (BA o1 P R Z).length = (BA o P R Z).length by rw [ba_len, ba_len])
    have tr2 := trim_len (v := .non) (show (BA o3 P (addR R (kd, "fence", "up") [m]) Z).length = (BA o P R Z).length by rw [ba_len, ba_len])
    have lpos : 0 < (sts ms).length := by rw [List.length_map]; omega
    by_cases hv1 : v = 1
    · refine ⟨o3, addR R (kd, "fence", "up") [m], T3, RO.add h1, ?_⟩
      show f__law_fence (ceN bod pd (k + 2)) [.ref 0, bkv b (.ref (P.length + 1))] (BA o P R Z) = _
      generalize ceN bod pd (k + 2) = C at *
      have c0 := c0 C
      have tp := tp true
      subst hv1
      generalize sts b.ways = L0 at *
      generalize sts ms = L1 at *
      generalize sts b.e.K = L2 at *
      generalize BA o3 P (addR R (kd, "fence", "up") [m]) Z = A4 at *
      generalize BA o3 P R Z = A3 at *
      generalize BA o2 P R Z = A2 at *
      generalize BA o1 P R Z = A1 at *
      generalize BA o P R Z = A at *
      generalize bkv b (.ref (P.length + 1)) = bv at *
      simp [f__law_fence, trimF, runF, b__law_fence, slots, w1, c0, lpos, d1, tp, v_ixD gk, d2, d3, a1, tr2, sizeLine_eq]
    · refine ⟨o1, R, T1, RO, ?_⟩
      show f__law_fence (ceN bod pd (k + 2)) [.ref 0, bkv b (.ref (P.length + 1))] (BA o P R Z) = _
      generalize ceN bod pd (k + 2) = C at *
      have c0 := c0 C
      have tp := tp false
      have hv2 : ¬ (v : Int) = 1 := by omega
      generalize sts b.ways = L0 at *
      generalize sts ms = L1 at *
      generalize sts b.e.K = L2 at *
      generalize BA o3 P (addR R (kd, "fence", "up") [m]) Z = A4 at *
      generalize BA o3 P R Z = A3 at *
      generalize BA o2 P R Z = A2 at *
      generalize BA o1 P R Z = A1 at *
      generalize BA o P R Z = A at *
      generalize bkv b (.ref (P.length + 1)) = bv at *
      simp [f__law_fence, trimF, runF, b__law_fence, slots, w1, c0, lpos, d1, hv2, tp, tr1, sizeLine_eq]
end K09

namespace K09
open PySem PySem.Spec PyProof.Rows L2 Mi
theorem kFor_nil {g : SG} {b : SS} {σ : Sl} {h : AH} : kFor g b σ (.tup []) h = .ok (.nx σ) h := rfl
/-- a loop of adds -/
theorem adds_for {g : SG} {f : SS} {σ : Sl} {b : Bk} {o : AO} {P Z : AH} {R : Rul} (RO : RulOk b R) {evs : List Str}
    (st : ∀ R, RulOk b R → ∀ e ∈ evs, ∃ σ1 R', g (.str e) σ = some σ1 ∧ RulOk b R' ∧ f σ1 (BA o P R Z) = .ok (.nx σ) (BA o P R' Z)) : ∃ R', RulOk b R' ∧ kFor g f σ (.tup (sts evs)) (BA o P R Z) = .ok (.nx σ) (BA o P R' Z) := by
  obtain ⟨σ2, h2, e, R', RO', q1, q2⟩ := kFor_inv (s := .tup (sts evs)) (xs := sts evs) (g := g) (b := f) (σ := σ) (h := BA o P R Z) (fun i τ h => ∃ R', RulOk b R' ∧ τ = σ ∧ h = BA o P R' Z) (by simp) (fun _ _ _ _ => rfl) ⟨R, RO, rfl, rfl⟩ (fun i x τ h hx q => by
    obtain ⟨R1, RO1, rfl, rfl⟩ := q
    rw [List.getElem?_map] at hx
    obtain ⟨e, he, rfl⟩ := Option.map_eq_some_iff.mp hx
    obtain ⟨σ1, R', e1, RO', e2⟩ := st R1 RO1 e (List.mem_of_getElem? he)
    exact ⟨σ1, _, _, e1, e2, R', RO', rfl, rfl⟩)
  exact ⟨R', RO', by rw [e, q1, q2]⟩
theorem nsrc_gen {k : Nat} {b : Bk} (B : b.Ok) {o : AO} {P Z : AH} {R : Rul} (co : ∀ n, cleanO n o = true) (RO : RulOk b R) {kd : Str} (hk : kd ∈ b.e.K) {own : Bool} {ms : List Str} (nd : ms.Nodup) (sub : ∀ m ∈ ms, m ∈ b.M)
    {r x lst : Str} {parts W1 W2 : List Str} (hr : okS r) (h0 : L2.atI (sts parts) 0 = some (.str r)) (hm : L2.atI (sts parts) (-1) = some (.str lst)) (h1 : (W1 ≠ [] ∨ r = "parent") → L2.atI (sts parts) 1 = some (.str x) ∧ x ∈ b.e.N)
    (g1 : ∀ h, kG3 (.fk [.inr "children", .inr "before"] [.fl [.str "parent"], .fl [.str "next"]]) (.str r) (.fl []) h = .ok (.fl (sts W1)) h) (hL1 : W1 = [] ∨ W1 = [("parent" : Str)] ∨ W1 = [("next" : Str)])
    (g2 : ∀ h, kG3 (.fk [.inr "style", .inr "own", .inr "children"] [.fl [.str "style", .str "insert"], .fl [.str lst, .str "insert"], .fl [.str "insert"]]) (.str r) (.fl [.str "insert", .str "move"]) h = .ok (.fl (sts W2)) h) (hL2 : ∀ e ∈ W2, ("own" : Str) ∈ plc b.e.N e ∧ e ≠ "fence") :
    ∃ R', RulOk b R' ∧ (ceN bod pd (k + 2)).call nm__law_natural_source [bkv b (.ref (P.length + 1)), .str kd, .bl own, .fl (sts parts), .fl (sts ms)] (BA o P R Z) = .ok .non (BA o P R' Z) := by
  have la := fun {R : Rul} (RO : RulOk b R) {kd e p : Str} {ms : List Str} h1 => ladd_ok (k := k) B (o := o) (P := P) (Z := Z) RO (kd := kd) (e := e) (p := p) (ms := ms) h1
  have lw := fun {R : Rul} => lways_ok (k := k) B (rv := .ref (P.length + 1)) (A := BA o P R Z)
  have wnd : b.ways.Nodup := B.mnd.filter _
  have wsub : ∀ m ∈ b.ways, m ∈ b.M := fun m hm => (List.mem_filter.mp hm).1
  have cb : clean (P.length + 1 + Z.length + 1) (bkv b (.ref (P.length + 1))) = true := clean_bkv (clean_lt (by omega))
  have tl : ∀ R R' js σ1, cleanS (P.length + 1 + Z.length + 1) (wipeA σ1 js) = true → trimG js (BA o P R Z) (.ok (.nx σ1) (BA o P R' Z)) = .ok (.nx (wipeA σ1 js)) (BA o P R' Z) := fun R R' js σ1 c => trimG_ba (co _) c
  have key : ∃ R', RulOk b R' ∧ f__law_natural_source (ceN bod pd (k + 1)) [bkv b (.ref (P.length + 1)), .str kd, .bl own, .fl (sts parts), .fl (sts ms)] (BA o P R Z) = .ok .non (BA o P R' Z) := by
    generalize ceN bod pd (k + 1) = C at la lw ⊢
    -- the places of W1
    have s1 : ∃ R1, RulOk b R1 ∧ kFor (gNm 5) (l0__law_natural_source C) [some (bkv b (.ref (P.length + 1))), some (.str kd), some (.bl own), some (.fl (sts parts)), some (.fl (sts ms)), none, none, none] (.tup (sts W1)) (BA o P R Z) = .ok (.nx [some (bkv b (.ref (P.length + 1))), some (.str kd), some (.bl own), some (.fl (sts parts)), some (.fl (sts ms)), none, none, none]) (BA o P R1 Z) := by
      refine adds_for RO fun R RO pl hpl => ?_
      obtain ⟨hx, hxN⟩ := h1 (.inl (List.ne_nil_of_mem hpl))
      have ev : ∀ e ∈ (["insert", "remove", "move", x] : List Str), pl ∈ plc b.e.N e ∧ e ≠ "fence" := fun e he => by
        have hp : pl = "parent" ∨ pl = "next" := by
          rcases hL1 with z | z | z
          · rw [z] at hpl; cases hpl
          · rw [z] at hpl; exact .inl (List.mem_singleton.mp hpl)
          · rw [z] at hpl; exact .inr (List.mem_singleton.mp hpl)
        have he : e = "insert" ∨ e = "remove" ∨ e = "move" ∨ e = x := by simpa using he
        rcases he with rfl | rfl | rfl | rfl
        · rw [plc_i]; exact ⟨by rcases hp with rfl | rfl <;> decide, by decide⟩
        · rw [plc_r]; exact ⟨by rcases hp with rfl | rfl <;> decide, by decide⟩
        · rw [plc_m]; exact ⟨by rcases hp with rfl | rfl <;> decide, by decide⟩
        · rw [plc_N B.eng.nin hxN]; exact ⟨by rcases hp with rfl | rfl <;> decide, (menuN_ev _ (B.eng.nin _ hxN)).1⟩
      obtain ⟨R2, RO2, e2⟩ := adds_for (g := gNm 6) (f := l1__law_natural_source C) (σ := [some (bkv b (.ref (P.length + 1))), some (.str kd), some (.bl own), some (.fl (sts parts)), some (.fl (sts ms)), some (.str pl), none, none]) (o := o) (P := P) (Z := Z) (evs := ["insert", "remove", "move", x]) RO fun R RO e he => by
        have o1 : RulOk1 b (kd, e, pl) ms := ⟨hk, (ev e he).1, nd, sub, fun z => ((ev e he).2 z).elim⟩
        have a1 := la RO o1
        refine ⟨_, addR R (kd, e, pl) ms, rfl, RO.add o1, ?_⟩
        have t1 := tl R (addR R (kd, e, pl) ms) [6] [some (bkv b (.ref (P.length + 1))), some (.str kd), some (.bl own), some (.fl (sts parts)), some (.fl (sts ms)), some (.str pl), some (.str e), none] (by simp [cb])
        generalize BA o P (addR R (kd, e, pl) ms) Z = A2 at *
        generalize BA o P R Z = A1 at *
        generalize bkv b (.ref (P.length + 1)) = bv at *
        generalize sts parts = PP at *
        generalize sts ms = MM at *
        simp [l1__law_natural_source, a1]
        exact t1
      refine ⟨_, R2, rfl, RO2, ?_⟩
      have t1 := tl R R2 [5, 6] [some (bkv b (.ref (P.length + 1))), some (.str kd), some (.bl own), some (.fl (sts parts)), some (.fl (sts ms)), some (.str pl), none, none] (by simp [cb])
      have e2 : kFor (gNm 6) (l1__law_natural_source C) [some (bkv b (.ref (P.length + 1))), some (.str kd), some (.bl own), some (.fl (sts parts)), some (.fl (sts ms)), some (.str pl), none, none] (.tup [.str "insert", .str "remove", .str "move", .str x]) (BA o P R Z) = _ := e2
      generalize BA o P R2 Z = A2 at *
      generalize BA o P R Z = A1 at *
      generalize bkv b (.ref (P.length + 1)) = bv at *
      generalize sts parts = PP at *
      generalize sts ms = MM at *
      simp [l0__law_natural_source, hx, e2, sizeLine_eq]
      exact t1
    obtain ⟨R1, RO1, s1⟩ := s1
    -- the parent's
    have q0 : ∀ h, oEq C (.str r) (.str "parent") h = .ok (.bl (decide (r = "parent"))) h := fun h => v_eqS hr (by show PyData.strOk ("parent" : Str) = true; decide +kernel)
    have s3 : ∀ R1, RulOk b R1 → ∃ R3, RulOk b R3 ∧ kFor (gNm 6) (l2__law_natural_source C) [some (bkv b (.ref (P.length + 1))), some (.str kd), some (.bl own), some (.fl (sts parts)), some (.fl (sts ms)), none, none, some (.fk [.inr "style", .inr "own", .inr "children"] [.fl [.str "style", .str "insert"], .fl [.str lst, .str "insert"], .fl [.str "insert"]])] (.tup (sts W2)) (BA o P R1 Z) = .ok (.nx [some (bkv b (.ref (P.length + 1))), some (.str kd), some (.bl own), some (.fl (sts parts)), some (.fl (sts ms)), none, none, some (.fk [.inr "style", .inr "own", .inr "children"] [.fl [.str "style", .str "insert"], .fl [.str lst, .str "insert"], .fl [.str "insert"]])]) (BA o P R3 Z) := fun R1 RO1 => by
      refine adds_for RO1 fun R RO e he => ?_
      have o1 : RulOk1 b (kd, e, "own") ms := ⟨hk, (hL2 e he).1, nd, sub, fun z => ((hL2 e he).2 z).elim⟩
      have a1 := la RO o1
      have t1 := fun R' => tl R R' [6] [some (bkv b (.ref (P.length + 1))), some (.str kd), some (.bl own), some (.fl (sts parts)), some (.fl (sts ms)), none, some (.str e), some (.fk [.inr "style", .inr "own", .inr "children"] [.fl [.str "style", .str "insert"], .fl [.str lst, .str "insert"], .fl [.str "insert"]])] (by simp [cb])
      cases own with
      | true =>
        refine ⟨_, addR R (kd, e, "own") ms, rfl, RO.add o1, ?_⟩
        have t1 := t1 (addR R (kd, e, "own") ms)
        generalize BA o P (addR R (kd, e, "own") ms) Z = A2 at *
        generalize BA o P R Z = A1 at *
        generalize bkv b (.ref (P.length + 1)) = bv at *
        generalize sts parts = PP at *
        generalize sts ms = MM at *
        simp [l2__law_natural_source, a1]
        exact t1
      | false =>
        refine ⟨_, R, rfl, RO, ?_⟩
        have t1 := t1 R
        generalize BA o P R Z = A1 at *
        generalize bkv b (.ref (P.length + 1)) = bv at *
        generalize sts parts = PP at *
        generalize sts ms = MM at *
        simp [l2__law_natural_source]
        exact t1
    have k1 : ∀ h, kDisp false [(.str "children", .fl [.str "parent"]), (.str "before", .fl [.str "next"])] h = .ok (.fk [.inr "children", .inr "before"] [.fl [.str "parent"], .fl [.str "next"]]) h := fun h => rfl
    have k2 : ∀ h, kDisp false [(.str "style", .fl [.str "style", .str "insert"]), (.str "own", .fl [.str lst, .str "insert"]), (.str "children", .fl [.str "insert"])] h = .ok (.fk [.inr "style", .inr "own", .inr "children"] [.fl [.str "style", .str "insert"], .fl [.str lst, .str "insert"], .fl [.str "insert"]]) h := fun h => rfl
    have d1 : ∀ ks vs h, isDic (.fk ks vs) h = true := fun _ _ _ => rfl
    have ne : oNeg (.int 1) (BA o P R Z) = .ok (.int (-1)) (BA o P R Z) := rfl
    by_cases hp : r = "parent"
    · obtain ⟨hx, hxN⟩ := h1 (.inr hp)
      have o1 : RulOk1 b (kd, x, "children") ms := ⟨hk, by show ("children" : Str) ∈ plc b.e.N x; rw [plc_N B.eng.nin hxN]; decide, nd, sub, fun z => ((menuN_ev x (B.eng.nin x hxN)).1 z).elim⟩
      have o2 : RulOk1 b (kd, x, "own") b.ways := ⟨hk, by show ("own" : Str) ∈ plc b.e.N x; rw [plc_N B.eng.nin hxN]; decide, wnd, wsub, fun z => ((menuN_ev x (B.eng.nin x hxN)).1 z).elim⟩
      have a1 := la RO1 o1
      have RO2 := RO1.add o1
      have a2 := la RO2 o2
      have lw2 := lw (R := addR R1 (kd, x, "children") ms)
      obtain ⟨R3, RO3, s3⟩ := s3 _ (RO2.add o2)
      refine ⟨R3, RO3, ?_⟩
      have tr := trim_len (v := .non) (show (BA o P R3 Z).length = (BA o P R Z).length by rw [ba_len, ba_len])
      have q0 := q0 (BA o P R1 Z)
      rw [decide_eq_true hp] at q0
      have ne2 : ∀ h, oNeg (.int 1) h = .ok (.int (-1)) h := fun h => rfl
      have g1 := g1 (BA o P R Z)
      have g2 := g2 (BA o P (addR (addR R1 (kd, x, "children") ms) (kd, x, "own") b.ways) Z)
      generalize BA o P (addR (addR R1 (kd, x, "children") ms) (kd, x, "own") b.ways) Z = A4 at *
      generalize BA o P (addR R1 (kd, x, "children") ms) Z = A3 at *
      generalize BA o P R3 Z = A5 at *
      generalize BA o P R1 Z = A2 at *
      generalize BA o P R Z = A1 at *
      generalize bkv b (.ref (P.length + 1)) = bv at *
      generalize sts parts = PP at *
      generalize sts ms = MM at *
      generalize sts b.ways = WW at *
      generalize sts W1 = LL1 at *
      generalize sts W2 = LL2 at *
      simp [f__law_natural_source, trimF, runF, b__law_natural_source, slots, k1, k2, k_g1 (d1 _ _ _), h0, hm, hx, g1, g2, s1, q0, a1, lw2, a2, s3, tr, ne2, sizeLine_eq]
    · obtain ⟨R3, RO3, s3⟩ := s3 _ RO1
      refine ⟨R3, RO3, ?_⟩
      have tr := trim_len (v := .non) (show (BA o P R3 Z).length = (BA o P R Z).length by rw [ba_len, ba_len])
      have q0 := q0 (BA o P R1 Z)
      rw [decide_eq_false hp] at q0
      have ne2 : ∀ h, oNeg (.int 1) h = .ok (.int (-1)) h := fun h => rfl
      have g1 := g1 (BA o P R Z)
      have g2 := g2 (BA o P R1 Z)
      generalize BA o P R3 Z = A5 at *
      generalize BA o P R1 Z = A2 at *
      generalize BA o P R Z = A1 at *
      generalize bkv b (.ref (P.length + 1)) = bv at *
      generalize sts parts = PP at *
      generalize sts ms = MM at *
      generalize sts W1 = LL1 at *
      generalize sts W2 = LL2 at *
      simp [f__law_natural_source, trimF, runF, b__law_natural_source, slots, k1, k2, k_g1 (d1 _ _ _), h0, hm, g1, g2, s1, q0, s3, tr, ne2, sizeLine_eq]
  obtain ⟨R', RO', e⟩ := key
  refine ⟨R', RO', ?_⟩
  rw [show (ceN bod pd (k + 2)).call nm__law_natural_source = f__law_natural_source (ceN bod pd (k + 1)) from rfl]
  exact e
end K09

namespace K09
open PySem PySem.Spec PyProof.Rows L2 Mi
theorem nsrc_ok {k : Nat} {b : Bk} (B : b.Ok) {o : AO} {P Z : AH} {R : Rul} (co : ∀ n, cleanO n o = true) (RO : RulOk b R) {kd : Str} (hk : kd ∈ b.e.K) {own : Bool} {ms : List Str} (nd : ms.Nodup) (sub : ∀ m ∈ ms, m ∈ b.M) {s : Str} (hs : goodSrc b.e.N s) :
    ∃ R', RulOk b R' ∧ (ceN bod pd (k + 2)).call nm__law_natural_source [bkv b (.ref (P.length + 1)), .str kd, .bl own, .fl (sts (Txt.split s ".")), .fl (sts ms)] (BA o P R Z) = .ok .non (BA o P R' Z) := by
  have ev1 : ("own" : Str) ∈ plc b.e.N "insert" ∧ ("insert" : Str) ≠ "fence" := ⟨by rw [plc_i]; decide, by decide⟩
  have ev2 : ("own" : Str) ∈ plc b.e.N "move" ∧ ("move" : Str) ≠ "fence" := ⟨by rw [plc_m]; decide, by decide⟩
  have ev3 : ("own" : Str) ∈ plc b.e.N "style" ∧ ("style" : Str) ≠ "fence" := ⟨by rw [plc_s]; decide, by decide⟩
  rcases hs with rfl | ⟨r, hr, x, hx, rfl⟩
  · rw [show Txt.split "style" "." = [("style" : Str)] from by decide +kernel]
    exact nsrc_gen B co RO hk nd sub (r := "style") (x := "style") (lst := "style") (parts := ["style"]) (W1 := []) (W2 := ["style", "insert"]) (by show PyData.strOk ("style" : Str) = true; decide +kernel) rfl rfl (fun h => by
      rcases h with h | h
      · exact (h rfl).elim
      · exact absurd h (by decide +kernel)) (fun h => rfl) (.inl rfl) (fun h => rfl) (fun e he => by
      have he : e = "style" ∨ e = "insert" := by simpa using he
      rcases he with rfl | rfl
      · exact ev3
      · exact ev1)
  · obtain ⟨f1, f2, f3, f4, f5, f6, f7, f8⟩ := src_facts r hr x (B.eng.nin x hx)
    rw [f4]
    have ev4 : ("own" : Str) ∈ plc b.e.N x ∧ x ≠ "fence" := ⟨by rw [plc_N B.eng.nin hx]; decide, (menuN_ev x (B.eng.nin x hx)).1⟩
    have hr4 : r = "own" ∨ r = "parent" ∨ r = "children" ∨ r = "before" := by simpa [rels] using hr
    rcases hr4 with rfl | rfl | rfl | rfl
    · exact nsrc_gen B co RO hk nd sub (r := "own") (x := x) (lst := x) (parts := ["own", x]) (W1 := []) (W2 := [x, "insert"]) (by show PyData.strOk ("own" : Str) = true; decide +kernel) rfl rfl (fun _ => ⟨rfl, hx⟩) (fun h => rfl) (.inl rfl) (fun h => rfl) (fun e he => by
        have he : e = x ∨ e = "insert" := by simpa using he
        rcases he with rfl | rfl
        · exact ev4
        · exact ev1)
    · exact nsrc_gen B co RO hk nd sub (r := "parent") (x := x) (lst := x) (parts := ["parent", x]) (W1 := []) (W2 := ["insert", "move"]) (by show PyData.strOk ("parent" : Str) = true; decide +kernel) rfl rfl (fun _ => ⟨rfl, hx⟩) (fun h => rfl) (.inl rfl) (fun h => rfl) (fun e he => by
        have he : e = "insert" ∨ e = "move" := by simpa using he
        rcases he with rfl | rfl
        · exact ev1
        · exact ev2)
    · exact nsrc_gen B co RO hk nd sub (r := "children") (x := x) (lst := x) (parts := ["children", x]) (W1 := ["parent"]) (W2 := ["insert"]) (by show PyData.strOk ("children" : Str) = true; decide +kernel) rfl rfl (fun _ => ⟨rfl, hx⟩) (fun h => rfl) (.inr (.inl rfl)) (fun h => rfl) (fun e he => by
        have he : e = "insert" := by simpa using he
        rw [he]; exact ev1)
    · exact nsrc_gen B co RO hk nd sub (r := "before") (x := x) (lst := x) (parts := ["before", x]) (W1 := ["next"]) (W2 := ["insert", "move"]) (by show PyData.strOk ("before" : Str) = true; decide +kernel) rfl rfl (fun _ => ⟨rfl, hx⟩) (fun h => rfl) (.inr (.inr rfl)) (fun h => rfl) (fun e he => by
        have he : e = "insert" ∨ e = "move" := by simpa using he
        rcases he with rfl | rfl
        · exact ev1
        · exact ev2)
theorem lnat_ok {k : Nat} {b : Bk} (B : b.Ok) {o : AO} {P Z : AH} {R : Rul} (co : ∀ n, cleanO n o = true) (RO : RulOk b R) :
    ∃ R', RulOk b R' ∧ (ceN bod pd (k + 3)).call nm__law_natural [bkv b (.ref (P.length + 1))] (BA o P R Z) = .ok .non (BA o P R' Z) := by
  have la := fun {R : Rul} (RO : RulOk b R) {kd e p : Str} {ms : List Str} h1 => ladd_ok (k := k + 1) B (o := o) (P := P) (Z := Z) RO (kd := kd) (e := e) (p := p) (ms := ms) h1
  have lw := fun {R : Rul} => lways_ok (k := k + 1) B (rv := .ref (P.length + 1)) (A := BA o P R Z)
  have lt := fun {R : Rul} {n : Str} (hn : n ∈ b.e.N) => lturn_ok (k := k + 1) (e := b.e) (v := bkv b (.ref (P.length + 1))) B.eng (A := BA o P R Z) gb_p hn
  have ln := fun {R : Rul} (RO : RulOk b R) {kd : Str} hk {own : Bool} {ms : List Str} nd sub {s : Str} hs => nsrc_ok (k := k) B (o := o) (P := P) (Z := Z) co RO (kd := kd) hk (own := own) (ms := ms) nd sub (s := s) hs
  have wnd : b.ways.Nodup := B.mnd.filter _
  have wsub : ∀ m ∈ b.ways, m ∈ b.M := fun m hm => (List.mem_filter.mp hm).1
  have cb : clean (P.length + 1 + Z.length + 1) (bkv b (.ref (P.length + 1))) = true := clean_bkv (clean_lt (by omega))
  have tl : ∀ R R' js σ1, cleanS (P.length + 1 + Z.length + 1) (wipeA σ1 js) = true → trimG js (BA o P R Z) (.ok (.nx σ1) (BA o P R' Z)) = .ok (.nx (wipeA σ1 js)) (BA o P R' Z) := fun R R' js σ1 c => trimG_ba (co _) c
  have okK : ∀ x ∈ b.e.K, okS x := fun x hx => (menu_name x (List.mem_append_left _ (B.eng.kin x hx))).2.2.1
  have key : ∃ R', RulOk b R' ∧ f__law_natural (ceN bod pd (k + 2)) [bkv b (.ref (P.length + 1))] (BA o P R Z) = .ok .non (BA o P R' Z) := by
    generalize ceN bod pd (k + 2) = C at la lw lt ln ⊢
    have p4 : ∀ (kd ot rd : Str) (ms : List Str) (l : List Str), kd ∈ b.e.K → ot ∈ b.e.K → ms.Nodup → (∀ m ∈ ms, m ∈ b.M) → (∀ s ∈ l, goodSrc b.e.N s) → ∀ R, RulOk b R → ∃ R', RulOk b R' ∧ kFor (gNm 6) (l4__law_natural C) [some (bkv b (.ref (P.length + 1))), some (.str kd), none, some (.str ot), some (.str rd), some (.fl (sts ms)), none] (.tup (sts l)) (BA o P R Z) = .ok (.nx [some (bkv b (.ref (P.length + 1))), some (.str kd), none, some (.str ot), some (.str rd), some (.fl (sts ms)), none]) (BA o P R' Z) := fun kd ot rd ms l hk ho nd sub hg R RO => by
      refine adds_for RO fun R RO s hs => ?_
      obtain ⟨R', RO', a1⟩ := ln RO hk (own := decide (ot = kd)) nd sub (hg s hs)
      have eq := v_eqS (C := C) (x := ot) (y := kd) (h := BA o P R Z) (okK ot ho) (okK kd hk)
      have sp : mSplit (.str s) [.str "."] (BA o P R Z) = .ok (.fl (sts (Txt.split s "."))) (BA o P R Z) := by
        unfold mSplit
        dsimp only
        rw [if_pos ⟨by decide +kernel, by have := (goodSrc_ok B.eng.nin (hg s hs)).2; rw [sizeLine_eq]; omega⟩]
      have is : isStr (.str s) (BA o P R Z) = true := rfl
      refine ⟨_, R', rfl, RO', ?_⟩
      have t1 := tl R R' [6] [some (bkv b (.ref (P.length + 1))), some (.str kd), none, some (.str ot), some (.str rd), some (.fl (sts ms)), some (.str s)] (by simp [cb])
      generalize BA o P R' Z = A2 at *
      generalize BA o P R Z = A1 at *
      generalize bkv b (.ref (P.length + 1)) = bv at *
      generalize sts (Txt.split s ".") = PP at *
      generalize sts ms = MM at *
      simp [l4__law_natural, eq, is, sp, a1]
      exact t1
    have p3 : ∀ (kd ot : Str) (j : Nat) (r : List (List Str)), kd ∈ b.e.K → b.e.K[j]? = some ot → b.e.R[j]? = some r → ∀ R, RulOk b R → ∃ R', RulOk b R' ∧ kFor (gNm 4) (l3__law_natural C) [some (bkv b (.ref (P.length + 1))), some (.str kd), none, some (.str ot), none, none, none] (.tup (sts b.e.N)) (BA o P R Z) = .ok (.nx [some (bkv b (.ref (P.length + 1))), some (.str kd), none, some (.str ot), none, none, none]) (BA o P R' Z) := fun kd ot j r hk ho hr R RO => by
      refine adds_for RO fun R RO rd hrd => ?_
      obtain ⟨i, hi, rfl⟩ := List.getElem_of_mem hrd
      have rm := List.mem_of_getElem? hr
      have rl := B.eng.r2 r rm
      obtain ⟨l, hl⟩ : ∃ l, r[i]? = some l := ⟨_, List.getElem?_eq_getElem (by omega)⟩
      have hn : b.e.N[i]? = some b.e.N[i] := List.getElem?_eq_getElem hi
      have lg := (B.eng.r3 r rm l (List.mem_of_getElem? hl)).2.2.2
      have tn := Eng.turn_lt (List.getElem_mem hi)
      obtain ⟨p, hp⟩ : ∃ p, b.Rd[b.e.turn b.e.N[i]]? = some p := ⟨_, List.getElem?_eq_getElem (by rw [B.rl]; exact tn)⟩
      obtain ⟨n1, _, s1, _⟩ := B.rm p (List.mem_of_getElem? hp)
      obtain ⟨R', RO', a1⟩ := p4 kd ot b.e.N[i] p.1 l hk (List.mem_of_getElem? ho) n1 s1 lg R RO
      have t0 := lt (R := R) hrd
      have g0 := gb_e (b := b) (rv := .ref (P.length + 1)) (h := BA o P R Z)
      have gs := gb_s (b := b) (rv := .ref (P.length + 1)) (h := BA o P R Z)
      have g1 := g_sv (h := BA o P R Z) B.eng.knd ho hr
      have g2 := g_svn (h := BA o P R Z) B.eng.nnd hn hl
      have ix : L2.atI (b.Rd.map fun p => AV.fl (sts p.1)) (b.e.turn b.e.N[i] : Nat) = some (.fl (sts p.1)) := atI_some (by rw [List.getElem?_map, hp]; rfl)
      have ev : ∀ (j : Int), oIxA C b.ev (.int j) (BA o P R Z) = (match L2.atI (b.Rd.map fun p => AV.fl (sts p.1)) j with | some w => .ok w (BA o P R Z) | none => .bad) := fun j => v_ixfl
      have ev := ev (b.e.turn b.e.N[i] : Nat)
      rw [ix] at ev
      dsimp only at ev
      refine ⟨_, R', rfl, RO', ?_⟩
      have t1 := tl R R' [4, 5, 6] [some (bkv b (.ref (P.length + 1))), some (.str kd), none, some (.str ot), some (.str b.e.N[i]), some (.fl (sts p.1)), none] (by simp [cb])
      generalize b.e.N[i] = rd at *
      generalize BA o P R' Z = A2 at *
      generalize BA o P R Z = A1 at *
      generalize bkv b (.ref (P.length + 1)) = bv at *
      generalize b.ev = ee at *
      generalize b.e.sv = sv at *
      generalize AV.fk (b.e.N.map .inr) (r.map fun l => .fl (sts l)) = sd at *
      generalize sts p.1 = MM at *
      generalize sts l = LL at *
      simp [l3__law_natural, v_ixD g0, v_ixD gs, v_ixD g1, v_ixD g2, t0, ev, a1]
      exact t1
    have p2 : ∀ (kd : Str), kd ∈ b.e.K → ∀ R, RulOk b R → ∃ R', RulOk b R' ∧ kFor (gNm 3) (l2__law_natural C) [some (bkv b (.ref (P.length + 1))), some (.str kd), none, none, none, none, none] (.tup (sts b.e.K)) (BA o P R Z) = .ok (.nx [some (bkv b (.ref (P.length + 1))), some (.str kd), none, none, none, none, none]) (BA o P R' Z) := fun kd hk R RO => by
      refine adds_for RO fun R RO ot hot => ?_
      obtain ⟨j, hj, rfl⟩ := List.getElem_of_mem hot
      have ho : b.e.K[j]? = some b.e.K[j] := List.getElem?_eq_getElem hj
      obtain ⟨r, hr⟩ : ∃ r, b.e.R[j]? = some r := ⟨_, List.getElem?_eq_getElem (by rw [B.eng.r1]; exact hj)⟩
      obtain ⟨R', RO', a1⟩ := p3 kd b.e.K[j] j r hk ho hr R RO
      have gn := gb_n (b := b) (rv := .ref (P.length + 1)) (h := BA o P R Z)
      refine ⟨_, R', rfl, RO', ?_⟩
      have t1 := tl R R' [3, 4, 5, 6] [some (bkv b (.ref (P.length + 1))), some (.str kd), none, some (.str b.e.K[j]), none, none, none] (by simp [cb])
      generalize b.e.K[j] = ot at *
      generalize BA o P R' Z = A2 at *
      generalize BA o P R Z = A1 at *
      generalize bkv b (.ref (P.length + 1)) = bv at *
      generalize sts b.e.N = NN at *
      simp [l2__law_natural, v_ixD gn, a1]
      exact t1
    have p1 : ∀ (kd : Str), kd ∈ b.e.K → ∀ R, RulOk b R → ∃ R', RulOk b R' ∧ kFor (gNm 2) (l1__law_natural C) [some (bkv b (.ref (P.length + 1))), some (.str kd), none, none, none, none, none] (.tup (sts words)) (BA o P R Z) = .ok (.nx [some (bkv b (.ref (P.length + 1))), some (.str kd), none, none, none, none, none]) (BA o P R' Z) := fun kd hk R RO => by
      refine adds_for RO fun R RO w hw => ?_
      have o1 : RulOk1 b (kd, w, "up") b.ways := ⟨hk, by
        show ("up" : Str) ∈ plc b.e.N w
        rcases words_cases hw with rfl | rfl | rfl | rfl
        · rw [plc_s]; decide
        · rw [plc_i]; decide
        · rw [plc_r]; decide
        · rw [plc_m]; decide, wnd, wsub, fun z => by
        have z : w = "fence" := z
        subst z
        exact absurd hw (by decide +kernel)⟩
      have a1 := la RO o1
      have a0 := lw (R := R)
      refine ⟨_, addR R (kd, w, "up") b.ways, rfl, RO.add o1, ?_⟩
      have t1 := tl R (addR R (kd, w, "up") b.ways) [2] [some (bkv b (.ref (P.length + 1))), some (.str kd), some (.str w), none, none, none, none] (by simp [cb])
      generalize BA o P (addR R (kd, w, "up") b.ways) Z = A2 at *
      generalize BA o P R Z = A1 at *
      generalize bkv b (.ref (P.length + 1)) = bv at *
      generalize sts b.ways = WW at *
      simp [l1__law_natural, a0, a1]
      exact t1
    have p0 : ∃ R', RulOk b R' ∧ kFor (gNm 1) (l0__law_natural C) [some (bkv b (.ref (P.length + 1))), none, none, none, none, none, none] (.tup (sts b.e.K)) (BA o P R Z) = .ok (.nx [some (bkv b (.ref (P.length + 1))), none, none, none, none, none, none]) (BA o P R' Z) := by
      refine adds_for RO fun R RO kd hk => ?_
      obtain ⟨R1, RO1, a1⟩ := p1 kd hk R RO
      obtain ⟨R2, RO2, a2⟩ := p2 kd hk R1 RO1
      have gk := gb_k (b := b) (rv := .ref (P.length + 1)) (h := BA o P R1 Z)
      refine ⟨_, R2, rfl, RO2, ?_⟩
      have t1 := tl R R2 [1, 2, 3, 4, 5, 6] [some (bkv b (.ref (P.length + 1))), some (.str kd), none, none, none, none, none] (by simp [cb])
      have a1 : kFor (gNm 2) (l1__law_natural C) [some (bkv b (.ref (P.length + 1))), some (.str kd), none, none, none, none, none] (.tup [.str "style", .str "insert", .str "remove", .str "move"]) (BA o P R Z) = _ := a1
      generalize BA o P R2 Z = A3 at *
      generalize BA o P R1 Z = A2 at *
      generalize BA o P R Z = A1 at *
      generalize bkv b (.ref (P.length + 1)) = bv at *
      generalize sts b.e.K = KK at *
      simp [l0__law_natural, a1, v_ixD gk, a2, sizeLine_eq]
      exact t1
    obtain ⟨R', RO', p0⟩ := p0
    refine ⟨R', RO', ?_⟩
    have gk := gb_k (b := b) (rv := .ref (P.length + 1)) (h := BA o P R Z)
    have tr := trim_len (v := .non) (show (BA o P R' Z).length = (BA o P R Z).length by rw [ba_len, ba_len])
    generalize BA o P R' Z = A2 at *
    generalize BA o P R Z = A1 at *
    generalize bkv b (.ref (P.length + 1)) = bv at *
    generalize sts b.e.K = KK at *
    simp [f__law_natural, trimF, runF, b__law_natural, slots, v_ixD gk, p0, tr]
  obtain ⟨R', RO', e⟩ := key
  refine ⟨R', RO', ?_⟩
  rw [show (ceN bod pd (k + 3)).call nm__law_natural = f__law_natural (ceN bod pd (k + 2)) from rfl]
  exact e
end K09

namespace K09
open PySem PySem.Spec PyProof.Rows L2 Mi
def bkL (b : Bk) (rv : AV) : List (Ky × AV) := [(.inr "kinds", .fl (sts b.e.K)), (.inr "passes", .fl b.e.pv), (.inr "sources", b.e.sv), (.inr "names", .fl (sts b.e.N)), (.inr "rules", rv), (.inr "marks", .fl (sts b.M)), (.inr "enters", b.ev), (.inr "through", b.tv)]
def mOf (c : Nat) (m0 m1 m2 : Str) : List Str := match c with | 0 => [m1, m0] | 1 => [m0] | _ => [m0, m1, m2]
def enOf (c : Nat) (m0 m1 : Str) (k : Nat) : Str := if c = 2 then (if k = 0 then m0 else m1) else m0
def thOf (c : Nat) (m0 m1 m2 : Str) (k : Nat) : Str := match c with | 0 => m1 | 1 => m0 | 2 => m2 | _ => if k = 0 then m1 else m2
def rdOf (n c : Nat) (m0 m1 m2 : Str) : List (List Str × List Str) := if n = 1 ∧ c = 2 then [([m0, m1], [m2])] else if n = 1 ∧ c = 3 then [([m0], [m2, m1])] else (List.range n).map fun k => ([enOf c m0 m1 k], [thOf c m0 m1 m2 k])
theorem dput_rfl {o : AO} {X Z : AH} {kv kv' : List (Ky × AV)} {x : Str} {v : AV} (z : kv.length < 1000) (e : putD kv (.inr x) v = kv') : dPutA (.ref (X.length + 1)) (.str x) v (o :: (X ++ .dk kv :: Z)) = some (o :: (X ++ .dk kv' :: Z)) := by
  simp only [dPutA, tl_get0, Mi.keyOf]
  rw [if_pos (by rw [sizeLine_eq]; omega), tl_set0, e]
theorem reads_book {e : Eng} (E : e.Ok) {m0 m1 m2 : Str} (h01 : m0 ≠ m1) (h02 : m0 ≠ m2) (h12 : m1 ≠ m2) (i0 : m0 ∈ menuM) (i1 : m1 ∈ menuM) (i2 : m2 ∈ menuM) {c : Nat} (hc : c < 4) : Bk.Ok ⟨e, mOf c m0 m1 m2, rdOf e.P.length c m0 m1 m2⟩ := by
  have hn : e.P.length = 1 ∨ e.P.length = 2 ∨ e.P.length = 3 := by have := E.p1; have := E.p2; omega
  have hc4 : c = 0 ∨ c = 1 ∨ c = 2 ∨ c = 3 := by omega
  have r2 : List.range 2 = [0, 1] := rfl
  have r3 : List.range 3 = [0, 1, 2] := rfl
  have r1 : List.range 1 = [0] := rfl
  have g01 := Ne.symm h01
  have g02 := Ne.symm h02
  have g12 := Ne.symm h12
  rcases hn with hn | hn | hn <;> rcases hc4 with rfl | rfl | rfl | rfl <;>
    exact ⟨E, by simp [mOf], by simp [mOf], by simp [mOf, h01, h02, h12, g01], by simp [mOf, i0, i1, i2], by simp [rdOf, hn], by simp [rdOf, hn, r1, r2, r3, mOf, enOf, thOf, h01, h02, h12, g12, g02, g01], by simp [rdOf, hn, r1, r2, r3, mOf, enOf, thOf, h01, h02, h12, g12, g02, g01]⟩
theorem reads_ok {k : Nat} {e : Eng} (E : e.Ok) {ns : List Int} {o : AO} {X Y : AH} (T : Tp0 ns o) :
    ∃ (o' : AO) (b : Bk), Tp0 ns o' ∧ b.e = e ∧ b.Ok ∧ (ceN bod pd (k + 4)).call nm__law_reads [.ref 0, .ref (X.length + 1)] (o :: (X ++ .dk (engK (.fl (sts e.K)) (.fl e.pv) e.sv (.fl (sts e.N))) :: Y)) = .ok .non (o' :: (X ++ .dk (bkL b (.ref (X.length + (Y.length + 1) + 1))) :: (Y ++ [.dt []]))) := by
  obtain ⟨ms, o1, T1, ml, mnd, mmem, d1⟩ := mnames_ok (k := k) (n := 3) (R := X ++ .dk (engK (.fl (sts e.K)) (.fl e.pv) e.sv (.fl (sts e.N))) :: Y) T (by decide)
  rw [show ((3 : Nat) : Int) = 3 from rfl] at d1
  obtain ⟨c, o2, hc, T2, d2⟩ := pick_ok (k := k + 2) (n := 4) (R := X ++ .dk (engK (.fl (sts e.K)) (.fl e.pv) e.sv (.fl (sts e.N))) :: Y) T1 (by decide) (by decide)
  match ms, ml with
  | [m0, m1, m2], _ =>
    have hc : c < 4 := by omega
    have nd3 : m0 ≠ m1 ∧ m0 ≠ m2 ∧ m1 ≠ m2 := by
      simp at mnd
      exact ⟨mnd.1.1, mnd.1.2, mnd.2⟩
    have B := reads_book E nd3.1 nd3.2.1 nd3.2.2 (mmem m0 (by simp)) (mmem m1 (by simp)) (mmem m2 (by simp)) hc
    refine ⟨o2, ⟨e, mOf c m0 m1 m2, rdOf e.P.length c m0 m1 m2⟩, T2, rfl, B, ?_⟩
    rw [show (ceN bod pd (k + 4)).call nm__law_reads = f__law_reads (ceN bod pd (k + 3)) from rfl]
    generalize ceN bod pd (k + 3) = C at d1 d2 ⊢
    have gp : dGetA (.ref (X.length + 1)) (.str "passes") (o :: (X ++ .dk (engK (.fl (sts e.K)) (.fl e.pv) e.sv (.fl (sts e.N))) :: Y)) = some (some (.fl e.pv)) := by rw [g_dk tl_get0]; rfl
    have pvl : e.pv.length = e.P.length := by simp [Eng.pv]
    have n3 : e.P.length ≤ 3 := E.p2
    obtain ⟨n, hn⟩ : ∃ n, n = e.P.length := ⟨_, rfl⟩
    rw [← hn] at pvl n3 ⊢
    have c0 : ∀ A, c0__law_reads C [some (.ref 0), some (.ref (X.length + 1)), some (.int (n : Nat)), some (.fl [.str m0, .str m1, .str m2]), some (.int (c : Nat)), none] A = .ok (.fl ((List.range n).map fun k => .fl [.str (enOf c m0 m1 k)])) A := fun A => by
      unfold c0__law_reads
      refine sLcF_ys (s := .rng 0 n) (xs := rngL n) (by simp [k_rngN (show n < 1000 by omega)]) src_rngI (by simp) (by simp; omega) fun i x y hx hy => ?_
      have hi : i < n := by have := (List.getElem?_eq_some_iff.mp hx).1; simpa using this
      rw [List.getElem?_map, List.getElem?_range hi] at hx hy
      cases hx
      cases hy
      refine ⟨_, rfl, ?_⟩
      by_cases h2 : c = 2
      · subst h2
        have hi3 : i = 0 ∨ i = 1 ∨ i = 2 := by omega
        rcases hi3 with rfl | rfl | rfl <;> simp [wipeA, bMin, enOf, L2.atI, L2.ixN, sizeLine_eq]
      · have h3 : ¬ (c : Int) = 2 := by omega
        simp [wipeA, enOf, h2, h3, sizeLine_eq]
    have c1 : ∀ A, c1__law_reads C [some (.ref 0), some (.ref (X.length + 1)), some (.int (n : Nat)), some (.fl [.str m0, .str m1, .str m2]), some (.int (c : Nat)), none] A = .ok (.fl ((List.range n).map fun k => .fl [.str (thOf c m0 m1 m2 k)])) A := fun A => by
      unfold c1__law_reads
      refine sLcF_ys (s := .rng 0 n) (xs := rngL n) (by simp [k_rngN (show n < 1000 by omega)]) src_rngI (by simp) (by simp; omega) fun i x y hx hy => ?_
      have hi : i < n := by have := (List.getElem?_eq_some_iff.mp hx).1; simpa using this
      rw [List.getElem?_map, List.getElem?_range hi] at hx hy
      cases hx
      cases hy
      refine ⟨_, rfl, ?_⟩
      have hi3 : i = 0 ∨ i = 1 ∨ i = 2 := by omega
      have hc4 : c = 0 ∨ c = 1 ∨ c = 2 ∨ c = 3 := by omega
      rcases hc4 with rfl | rfl | rfl | rfl <;> rcases hi3 with rfl | rfl | rfl <;> simp [wipeA, bMin, thOf, L2.atI, L2.ixN, sizeLine_eq]
    have ac : L2.atI [AV.fl [.str m1, .str m0], .fl [.str m0], .fl [.str m0, .str m1, .str m2], .fl [.str m0, .str m1, .str m2]] (c : Int) = some (.fl (sts (mOf c m0 m1 m2))) := by
      have hc4 : c = 0 ∨ c = 1 ∨ c = 2 ∨ c = 3 := by omega
      rcases hc4 with rfl | rfl | rfl | rfl <;> rfl
    obtain ⟨r, hr⟩ : ∃ r, r = X.length + (Y.length + 1) + 1 := ⟨_, rfl⟩
    rw [← hr]
    have kvF : ∃ f : AV → AV → List (Ky × AV), f = fun ev tv => [(.inr "kinds", .fl (sts e.K)), (.inr "passes", .fl e.pv), (.inr "sources", e.sv), (.inr "names", .fl (sts e.N)), (.inr "rules", .ref r), (.inr "marks", .fl (sts (mOf c m0 m1 m2))), (.inr "enters", ev), (.inr "through", tv)] := ⟨_, rfl⟩
    obtain ⟨F, hF⟩ := kvF
    have s1 : dPutA (.ref (X.length + 1)) (.str "rules") (.ref r) (o2 :: (X ++ .dk (engK (.fl (sts e.K)) (.fl e.pv) e.sv (.fl (sts e.N))) :: (Y ++ [.dt []]))) = some (o2 :: (X ++ .dk [(.inr "kinds", .fl (sts e.K)), (.inr "passes", .fl e.pv), (.inr "sources", e.sv), (.inr "names", .fl (sts e.N)), (.inr "rules", .ref r)] :: (Y ++ [.dt []]))) := dput_rfl (by simp [engK]) rfl
    have s2 : ∀ v, dPutA (.ref (X.length + 1)) (.str "marks") v (o2 :: (X ++ .dk [(.inr "kinds", .fl (sts e.K)), (.inr "passes", .fl e.pv), (.inr "sources", e.sv), (.inr "names", .fl (sts e.N)), (.inr "rules", .ref r)] :: (Y ++ [.dt []]))) = some (o2 :: (X ++ .dk [(.inr "kinds", .fl (sts e.K)), (.inr "passes", .fl e.pv), (.inr "sources", e.sv), (.inr "names", .fl (sts e.N)), (.inr "rules", .ref r), (.inr "marks", v)] :: (Y ++ [.dt []]))) := fun v => dput_rfl (by simp) rfl
    have s3 : ∀ m v, dPutA (.ref (X.length + 1)) (.str "enters") v (o2 :: (X ++ .dk [(.inr "kinds", .fl (sts e.K)), (.inr "passes", .fl e.pv), (.inr "sources", e.sv), (.inr "names", .fl (sts e.N)), (.inr "rules", .ref r), (.inr "marks", m)] :: (Y ++ [.dt []]))) = some (o2 :: (X ++ .dk [(.inr "kinds", .fl (sts e.K)), (.inr "passes", .fl e.pv), (.inr "sources", e.sv), (.inr "names", .fl (sts e.N)), (.inr "rules", .ref r), (.inr "marks", m), (.inr "enters", v)] :: (Y ++ [.dt []]))) := fun m v => dput_rfl (by simp) rfl
    have s4 : ∀ v w, dPutA (.ref (X.length + 1)) (.str "through") w (o2 :: (X ++ .dk [(.inr "kinds", .fl (sts e.K)), (.inr "passes", .fl e.pv), (.inr "sources", e.sv), (.inr "names", .fl (sts e.N)), (.inr "rules", .ref r), (.inr "marks", .fl (sts (mOf c m0 m1 m2))), (.inr "enters", v)] :: (Y ++ [.dt []]))) = some (o2 :: (X ++ .dk (F v w) :: (Y ++ [.dt []]))) := fun v w => by
      rw [hF]; exact dput_rfl (by simp) rfl
    have s5 : ∀ v w u, dPutA (.ref (X.length + 1)) (.str "enters") u (o2 :: (X ++ .dk (F v w) :: (Y ++ [.dt []]))) = some (o2 :: (X ++ .dk (F u w) :: (Y ++ [.dt []]))) := fun v w u => by
      rw [hF]; exact dput_rfl (by simp) rfl
    have s6 : ∀ v w u, dPutA (.ref (X.length + 1)) (.str "through") u (o2 :: (X ++ .dk (F v w) :: (Y ++ [.dt []]))) = some (o2 :: (X ++ .dk (F v u) :: (Y ++ [.dt []]))) := fun v w u => by
      rw [hF]; exact dput_rfl (by simp) rfl
    have fin : ∀ (Rd : List (List Str × List Str)) v w, v = AV.fl (Rd.map fun p => .fl (sts p.1)) → w = AV.fl (Rd.map fun p => .fl (sts p.2)) → bkL ⟨e, mOf c m0 m1 m2, Rd⟩ (.ref r) = F v w := fun Rd v w hv hw => by
      rw [hF, hv, hw]; rfl
    have a0 : L2.atI [AV.str m0, .str m1, .str m2] 0 = some (.str m0) := rfl
    have a1 : L2.atI [AV.str m0, .str m1, .str m2] 1 = some (.str m1) := by simp [L2.atI, L2.ixN]
    have a2 : L2.atI [AV.str m0, .str m1, .str m2] 2 = some (.str m2) := by simp [L2.atI, L2.ixN]
    have d1 : C.call nm__law_mark_names [.ref 0, .int 3] (o :: (X ++ .dk (engK (.fl (sts e.K)) (.fl e.pv) e.sv (.fl (sts e.N))) :: Y)) = .ok (.fl [.str m0, .str m1, .str m2]) (o1 :: (X ++ .dk (engK (.fl (sts e.K)) (.fl e.pv) e.sv (.fl (sts e.N))) :: Y)) := d1
    have hr2 : X.length + (Y.length + 1) + 1 = r := hr.symm
    by_cases hn1 : n = 1 ∧ c = 2
    · rw [show rdOf n c m0 m1 m2 = [([m0, m1], [m2])] from by unfold rdOf; rw [if_pos hn1]]
      obtain ⟨h1, h2⟩ := hn1
      have q1 : (n : Int) = 1 := by omega
      have q2 : (c : Int) = 2 := by omega
      have q3 : ¬ (c : Int) = 3 := by omega
      rw [fin _ (.fl [.fl [.str m0, .str m1]]) (.fl ((List.range n).map fun k => .fl [.str (thOf c m0 m1 m2 k)])) rfl (by subst h1 h2; rfl)]
      generalize engK (.fl (sts e.K)) (.fl e.pv) e.sv (.fl (sts e.N)) = kv0 at *
      generalize sts e.K = KK at *
      generalize sts e.N = NN at *
      generalize e.pv = pv at *
      generalize e.sv = sv at *
      generalize sts (mOf c m0 m1 m2) = MM at *
      generalize ((List.range n).map fun k => AV.fl [.str (thOf c m0 m1 m2 k)]) = TT at *
      generalize ((List.range n).map fun k => AV.fl [.str (enOf c m0 m1 k)]) = EE at *
      simp only [q1, q2] at c0 c1 ac d2
      simp [f__law_reads, trimF, runF, b__law_reads, slots, v_ixD gp, pvl, d1, d2, s1, hr2, a0, a1, a2, ac, s2, c0, s3, c1, s4, q1, q2, s5, sizeLine_eq]
    · by_cases hn2 : n = 1 ∧ c = 3
      · rw [show rdOf n c m0 m1 m2 = [([m0], [m2, m1])] from by unfold rdOf; rw [if_neg hn1, if_pos hn2]]
        obtain ⟨h1, h2⟩ := hn2
        have q1 : (n : Int) = 1 := by omega
        have q2 : ¬ (c : Int) = 2 := by omega
        have q3 : (c : Int) = 3 := by omega
        rw [fin _ (.fl ((List.range n).map fun k => .fl [.str (enOf c m0 m1 k)])) (.fl [.fl [.str m2, .str m1]]) (by subst h1 h2; rfl) rfl]
        generalize engK (.fl (sts e.K)) (.fl e.pv) e.sv (.fl (sts e.N)) = kv0 at *
        generalize sts e.K = KK at *
        generalize sts e.N = NN at *
        generalize e.pv = pv at *
        generalize e.sv = sv at *
        generalize sts (mOf c m0 m1 m2) = MM at *
        generalize ((List.range n).map fun k => AV.fl [.str (thOf c m0 m1 m2 k)]) = TT at *
        generalize ((List.range n).map fun k => AV.fl [.str (enOf c m0 m1 k)]) = EE at *
        simp only [q1, q3] at c0 c1 ac d2
        simp [f__law_reads, trimF, runF, b__law_reads, slots, v_ixD gp, pvl, d1, d2, s1, hr2, a0, a1, a2, ac, s2, c0, s3, c1, s4, q1, q3, s6, sizeLine_eq]
      · rw [show rdOf n c m0 m1 m2 = (List.range n).map fun k => ([enOf c m0 m1 k], [thOf c m0 m1 m2 k]) from by unfold rdOf; rw [if_neg hn1, if_neg hn2]]
        have q1 : (n : Int) = 1 → ¬ (c : Int) = 2 := fun z => by omega
        have q2 : (n : Int) = 1 → ¬ (c : Int) = 3 := fun z => by omega
        rw [fin _ (.fl ((List.range n).map fun k => .fl [.str (enOf c m0 m1 k)])) (.fl ((List.range n).map fun k => .fl [.str (thOf c m0 m1 m2 k)])) (by rw [List.map_map]; rfl) (by rw [List.map_map]; rfl)]
        generalize engK (.fl (sts e.K)) (.fl e.pv) e.sv (.fl (sts e.N)) = kv0 at *
        generalize sts e.K = KK at *
        generalize sts e.N = NN at *
        generalize e.pv = pv at *
        generalize e.sv = sv at *
        generalize sts (mOf c m0 m1 m2) = MM at *
        generalize ((List.range n).map fun k => AV.fl [.str (thOf c m0 m1 m2 k)]) = TT at *
        generalize ((List.range n).map fun k => AV.fl [.str (enOf c m0 m1 k)]) = EE at *
        by_cases q0 : (n : Int) = 1
        · have q3 := q1 q0
          have q4 := q2 q0
          simp only [q0] at c0 c1
          simp [f__law_reads, trimF, runF, b__law_reads, slots, v_ixD gp, pvl, d1, d2, s1, hr2, a0, a1, a2, ac, s2, c0, s3, c1, s4, q0, q3, q4, sizeLine_eq]
        · simp [f__law_reads, trimF, runF, b__law_reads, slots, v_ixD gp, pvl, d1, d2, s1, hr2, a0, a1, a2, ac, s2, c0, s3, c1, s4, q0, sizeLine_eq]
end K09

namespace K09
open PySem PySem.Spec PyProof.Rows L2 Mi
theorem madeD_ok {k : Nat} {e : Eng} (E : e.Ok) {A : AH} {v : AV} (gk : dGetA v (.str "kinds") A = some (some (.fl (sts e.K)))) (gp : dGetA v (.str "passes") A = some (some (.fl e.pv))) (gs : dGetA v (.str "sources") A = some (some e.sv)) :
    (ceN bod pd (k + 4)).call nm__law_made_engine [v] A = .ok (.ref A.length) (A ++ [.ins cl_Engine (e.fs e.tv)]) := by
  have in1 := init_ok (k := k) (e := e) (A := A) (vk := .fl (sts e.K)) (vp := .fl e.rv) (vs := e.sv) (rows := e.rv) E (fun _ => rfl) (fun _ => rfl) rv_rows (sv_srcs E)
  show f__law_made_engine (ceN bod pd (k + 3)) [v] A = _
  generalize ceN bod pd (k + 3) = C at in1 ⊢
  have c0 : c0__law_made_engine C [some v, none] A = .ok (.fl e.rv) A := by
    unfold c0__law_made_engine
    refine sLcF_ys (s := .tup e.pv) (xs := e.pv) (by simp [v_ixD gp]) src_tupI (by simp [Eng.rv, Eng.pv]) (by have := E.p2; simp [Eng.rv]; omega) fun i x y hx hy => ?_
    unfold Eng.pv at hx
    unfold Eng.rv at hy
    rw [List.getElem?_map] at hx hy
    obtain ⟨p, hp, rfl⟩ := Option.map_eq_some_iff.mp hx
    rw [hp] at hy
    cases hy
    have a2 : L2.atI [AV.str p.1, .fl (sts p.2)] 1 = some (.fl (sts p.2)) := by simp [L2.atI, L2.ixN]
    have vl := v_listf (C := C) (v := .fl (sts p.2)) (h := A) rfl
    refine ⟨_, rfl, ?_⟩
    show _ = R.ok (AV.tup [.str p.1, .fl (sts p.2)]) A
    generalize sts p.2 = L0 at *
    simp [wipeA, a2, vl, sizeLine_eq]
  have mk := k_mk in1
  have dO : deepO 40 A.length (A ++ [.ins cl_Engine (e.fs (.ref (A.length + 1))), .dt (tab e.N e.K e.R)]) = some (A ++ [.ins cl_Engine (e.fs e.tv), .dead]) := deepO_eng (n := 35)
  have tr := trim1_keep (A := A) (c := cl_Engine) (fs := e.fs e.tv) fun n => clean_fs
  have vl := v_listf (C := C) (v := .fl (sts e.K)) (h := A) rfl
  generalize e.sv = sv at *
  generalize e.rv = rv at *
  generalize sts e.K = KK at *
  simp [f__law_made_engine, trimF, runF, b__law_made_engine, slots, v_ixD gk, v_ixD gs, vl, c0, mk, dO, tr]
theorem lmade_ok {k : Nat} {b : Bk} (B : b.Ok) {A : AH} {R : Rul} (RO : RulOk b R) {rv : AV} (hrv : (∃ r, rv = .ref r ∧ A[r]? = some (.dt []) ∧ R = []) ∨ rv = .ft ((encR fR R).map (·.1)) ((encR fR R).map (·.2))) :
    (ceN bod pd (k + 5)).call nm__law_made [bkv b rv] A = .ok (.ref (A.length + 1)) (BB cl_Engine cl_Book A b (mkR R)) := by
  have m1 := madeD_ok (k := k) (e := b.e) B.eng (A := A) (v := bkv b rv) gb_k gb_p gb_s
  have rl3 : b.Rd.length ≤ 3 := by rw [B.rl]; exact B.eng.p2
  have m2 := k_mk (binit_ok (k := k + 1) (ea := A.length) B (A := A ++ [.ins cl_Engine (b.e.fs b.e.tv)]) (vM := .fl (sts b.M)) (vR := .fl (b.Rd.map fun p => .tup [.fl (sts p.1), .fl (sts p.2)])) (t := b.e.tv) (rows := b.Rd.map fun p => .tup [.fl (sts p.1), .fl (sts p.2)]) end_get (fun X => rfl) (fun X => rfl) (fun m => clean_sts) (fun m => cleans_iff.mpr fun v hv => by obtain ⟨p, _, rfl⟩ := List.mem_map.mp hv; simp) (by simp) (fun i p hp => ⟨.fl (sts p.1), .fl (sts p.2), by rw [List.getElem?_map, hp]; rfl, fun X => ⟨rfl, rfl⟩⟩))
  rw [show (A ++ [AO.ins cl_Engine (b.e.fs b.e.tv)]).length = A.length + 1 from by simp, show ∀ x y : AO, (A ++ [AO.ins cl_Engine (b.e.fs b.e.tv)]) ++ [x, y] = A ++ [AO.ins cl_Engine (b.e.fs b.e.tv), x, y] from fun x y => by simp] at m2
  have m2 : kMk (ceN bod pd (k + 4)) cl_Book nm_Book___init__ [.ref A.length, .fl (sts b.M), .fl (b.Rd.map fun p => .tup [.fl (sts p.1), .fl (sts p.2)])] (A ++ [.ins cl_Engine (b.e.fs b.e.tv)]) = .ok (.ref (A.length + 1)) (BB cl_Engine cl_Book A b []) := m2
  have bk : ∀ R X, BkAt (BB cl_Engine cl_Book A b R ++ X) b (A.length + 1) A.length (.ref (A.length + 2)) b.e.tv := fun R X => ⟨get_app bb_b, get_app bb_e⟩
  have br : ∀ R X, (BB cl_Engine cl_Book A b R ++ X)[A.length + 2]? = some (.dt (encR AV.ctp R)) := fun R X => get_app bb_r
  have rg := fun {R : Rul} (RO : RulOk b R) {X : AH} {kd e p : Str} hk hp => rget_ok (k := k + 1) B (bk R X) (br R X) RO (kd := kd) (e := e) (p := p) hk hp
  have rs := fun {R : Rul} (RO : RulOk b R) {X : AH} {kd e p : Str} {l : List Str} {c : Nat} hl hc => rset_ok (k := k + 1) (c := c) B (bk R X) (br R X) RO (kd := kd) (e := e) (p := p) (l := l) hl hc
  have ro := fun {a c : Nat} {x y : List Str} {A : AH} ha hc z => or_ok (k := k + 2) (a := a) (c := c) (x := x) (y := y) (A := A) ha hc z
  have mk := fun {xs : List Str} {A : AH} hz => marks_mk (k := k + 3) (xs := xs) (A := A) hz
  have dg : (ceN bod pd (k + 4)).dn cl_Book .get = some nm_Book___getitem__ := by rw [ce_dn]; rfl
  have ds : (ceN bod pd (k + 4)).dn cl_Book .set = some nm_Book___setitem__ := by rw [ce_dn]; rfl
  have dor : (ceN bod pd (k + 4)).dn cl_Marks .or = some nm_Marks___or__ := by rw [ce_dn]; rfl
  rw [show (ceN bod pd (k + 5)).call nm__law_made = f__law_made (ceN bod pd (k + 4)) from rfl]
  generalize ceN bod pd (k + 4) = C at m1 m2 rg rs ro mk dg ds dor ⊢
  have gp := gb_p (b := b) (rv := rv) (h := A)
  have ge := gb_e (b := b) (rv := rv) (h := A)
  have gt := gb_t (b := b) (rv := rv) (h := A)
  have gm : ∀ h, dGetA (bkv b rv) (.str "marks") h = some (some (.fl (sts b.M))) := fun h => gb_m
  have gr : ∀ h, dGetA (bkv b rv) (.str "rules") h = some (some rv) := fun h => gb_r
  have c0 : c0__law_made C [some (bkv b rv), none, none, none, none, none] A = .ok (.fl (b.Rd.map fun p => .tup [.fl (sts p.1), .fl (sts p.2)])) A := by
    unfold c0__law_made
    have pvl : b.e.pv.length = b.Rd.length := by simp [Eng.pv, B.rl]
    refine sLcF_ys (s := .rng 0 b.Rd.length) (xs := rngL b.Rd.length) (by
      generalize bkv b rv = bv at *
      simp [v_ixD gp, pvl, k_rngN (show b.Rd.length < 1000 by omega)]) src_rngI (by simp) (by simp; omega) fun i x y hx hy => ?_
    have hi : i < b.Rd.length := by have := (List.getElem?_eq_some_iff.mp hx).1; simpa using this
    obtain ⟨p, hp⟩ : ∃ p, b.Rd[i]? = some p := ⟨_, List.getElem?_eq_getElem hi⟩
    rw [List.getElem?_map, List.getElem?_range hi] at hx
    rw [List.getElem?_map, hp] at hy
    cases hx
    cases hy
    have i1 : oIxA C b.ev (.int (i : Nat)) A = .ok (.fl (sts p.1)) A := by
      unfold Bk.ev
      rw [v_ixfl, atI_some (by rw [List.getElem?_map, hp]; rfl)]
    have i2 : oIxA C b.tv (.int (i : Nat)) A = .ok (.fl (sts p.2)) A := by
      unfold Bk.tv
      rw [v_ixfl, atI_some (by rw [List.getElem?_map, hp]; rfl)]
    have l1 := v_listf (C := C) (v := .fl (sts p.1)) (h := A) rfl
    have l2 := v_listf (C := C) (v := .fl (sts p.2)) (h := A) rfl
    refine ⟨_, rfl, ?_⟩
    show _ = Mi.R.ok (AV.tup [.fl (sts p.1), .fl (sts p.2)]) A
    generalize bkv b rv = bv at *
    generalize b.ev = ev at *
    generalize b.tv = tv at *
    generalize sts p.1 = P1 at *
    generalize sts p.2 = P2 at *
    simp [wipeA, v_ixD ge, v_ixD gt, i1, i2, l1, l2, sizeLine_eq]
  have vl : ∀ h, bList false C (.fl (sts b.M)) h = .ok (.fl (sts b.M)) h := fun h => v_listf rfl
  have tr := fun X => trim_ref (h := A) (X := X) (show A.length ≤ A.length + 1 by omega)
  have dv : ∀ h, deepV 1 (.ref (A.length + 1)) (BB cl_Engine cl_Book A b h) = (.ref (A.length + 1), BB cl_Engine cl_Book A b h) := fun h => by
    rw [deepV, bb_b]
  rcases hrv with ⟨r, rfl, hr0, rfl⟩ | rfl
  · have hr1 : (BB cl_Engine cl_Book A b [])[r]? = some (.dt []) := get_app hr0
    have fd := fun σ (q : (op2 (oIxA C) (sVar 0) (sK (.str "rules"))) σ (BB cl_Engine cl_Book A b []) = .ok (.ref r) (BB cl_Engine cl_Book A b [])) => e_forD_nil (g := gNm 4) (b := l0__law_made C) q hr1
    have fd := fd [some (bkv b (.ref r)), some (.fl (b.Rd.map fun p => .tup [.fl (sts p.1), .fl (sts p.2)])), none, some (.ref (A.length + 1)), none, none] (by
      have gr := gr (BB cl_Engine cl_Book A b [])
      generalize bkv b (.ref r) = bv at *
      generalize BB cl_Engine cl_Book A b [] = B0 at *
      simp [v_ixD gr])
    have gm := gm (A ++ [.ins cl_Engine (b.e.fs b.e.tv)])
    have vl := vl (A ++ [.ins cl_Engine (b.e.fs b.e.tv)])
    have tr := tr (BB cl_Engine cl_Book A b [])
    rw [show mkR [] = [] from rfl]
    generalize BB cl_Engine cl_Book A b [] = B0 at *
    generalize A ++ [.ins cl_Engine (b.e.fs b.e.tv)] = A1 at *
    generalize bkv b (.ref r) = bv at *
    generalize sts b.M = MM at *
    generalize (b.Rd.map fun p => AV.tup [.fl (sts p.1), .fl (sts p.2)]) = PR at *
    simp [f__law_made, trimF, runF, b__law_made, slots, c0, m1, v_ixD gm, vl, m2, fd, tr]
  · -- one rule
    have ca : clean (A.length + 3) (.ref (A.length + 1)) = true := clean_lt (by omega)
    have cb : ∀ n, clean n (bkv b (.ft ((encR fR R).map (·.1)) ((encR fR R).map (·.2)))) = true := fun n => clean_bkv (clean_encR (R := R))
    have cp : ∀ n, clean n (.fl (b.Rd.map fun p => AV.tup [.fl (sts p.1), .fl (sts p.2)])) = true := fun n => cleans_iff.mpr fun v hv => by obtain ⟨p, _, rfl⟩ := List.mem_map.mp hv; simp
    have p1 : ∀ (kd e p : Str) (ms : List Str) (R1 : Rul), RulOk b R1 → RulOk1 b (kd, e, p) ms → kFor (gNm 5) (l1__law_made C) [some (bkv b (.ft ((encR fR R).map (·.1)) ((encR fR R).map (·.2)))), some (.fl (b.Rd.map fun p => .tup [.fl (sts p.1), .fl (sts p.2)])), none, some (.ref (A.length + 1)), some (.tup [.str kd, .str e, .str p]), none] (.tup (sts ms)) (BB cl_Engine cl_Book A b R1) = .ok (.nx [some (bkv b (.ft ((encR fR R).map (·.1)) ((encR fR R).map (·.2)))), some (.fl (b.Rd.map fun p => .tup [.fl (sts p.1), .fl (sts p.2)])), none, some (.ref (A.length + 1)), some (.tup [.str kd, .str e, .str p]), none]) (BB cl_Engine cl_Book A b (mkR1 R1 (kd, e, p) ms)) := fun kd e p ms R1 RO1 o1 => by
      obtain ⟨σ2, h2, e1, q1, q2, _⟩ := kFor_fold (s := .tup (sts ms)) (xs := ms) (enc := AV.str) (g := gNm 5) (b := l1__law_made C) (σ := [some (bkv b (.ft ((encR fR R).map (·.1)) ((encR fR R).map (·.2)))), some (.fl (b.Rd.map fun p => .tup [.fl (sts p.1), .fl (sts p.2)])), none, some (.ref (A.length + 1)), some (.tup [.str kd, .str e, .str p]), none]) (h := BB cl_Engine cl_Book A b R1)
        (fun B m => putR B (kd, e, p) (alp (getR B (kd, e, p) ++ [m]))) (fun B σ h => σ = [some (bkv b (.ft ((encR fR R).map (·.1)) ((encR fR R).map (·.2)))), some (.fl (b.Rd.map fun p => .tup [.fl (sts p.1), .fl (sts p.2)])), none, some (.ref (A.length + 1)), some (.tup [.str kd, .str e, .str p]), none] ∧ h = BB cl_Engine cl_Book A b B ∧ RulOk b B) R1 (by simp) (fun _ _ _ _ _ => rfl) ⟨rfl, rfl, RO1⟩ (fun ys m zs σ h hx q => by
          obtain ⟨rfl, rfl, RB⟩ := q
          generalize (ys.foldl (fun B m => putR B (kd, e, p) (alp (getR B (kd, e, p) ++ [m]))) R1) = R2 at *
          have mm := mem_left hx
          obtain ⟨h1, h2, h3, h4, h5⟩ := o1
          obtain ⟨g1, g2, g3⟩ := RB.get (kd, e, p)
          have gl := nd_len g1 g2
          have m4 := B.m2
          have al : (alp (getR R2 (kd, e, p))).length ≤ 4 := Nat.le_trans (length_alp _) (by omega)
          have a1 := rg RB (X := []) h1 h2
          rw [List.append_nil] at a1
          have a2 := mk (xs := [m]) (A := BB cl_Engine cl_Book A b R2 ++ [mkO cl_Marks (alp (getR R2 (kd, e, p)))]) (by simp)
          have l1 := length_alp [m]
          have a3 := ro (a := (BB cl_Engine cl_Book A b R2).length) (c := (BB cl_Engine cl_Book A b R2).length + 1) (A := BB cl_Engine cl_Book A b R2 ++ [mkO cl_Marks (alp (getR R2 (kd, e, p))), mkO cl_Marks (alp [m])]) end_get end_get1 (by simp at l1; omega)
          rw [alp_alp1] at a3
          have oN : RulOk1 b (kd, e, p) (alp (getR R2 (kd, e, p) ++ [m])) := ⟨h1, h2, nodup_alp _, fun x hx => by
            rcases List.mem_append.mp (mem_alp.mp hx) with z | z
            · exact g2 x z
            · rw [List.mem_singleton.mp z]; exact h4 m mm, fun ef x hx => by
            rcases List.mem_append.mp (mem_alp.mp hx) with z | z
            · exact g3 ef x z
            · rw [List.mem_singleton.mp z]; exact h5 ef m mm⟩
          have a4 := rs RB (X := [mkO cl_Marks (alp (getR R2 (kd, e, p))), mkO cl_Marks (alp [m]), mkO cl_Marks (alp (getR R2 (kd, e, p) ++ [m]))]) (c := (BB cl_Engine cl_Book A b R2).length + 2) oN (by
            rw [List.getElem?_append_right (by omega), Nat.add_sub_cancel_left]; rfl)
          rw [List.set_append_left _ _ (by rw [bb_len]; omega), bb_set] at a4
          have kb := (bk R2 []).bk
          rw [List.append_nil] at kb
          have kb3 := (bk R2 [mkO cl_Marks (alp (getR R2 (kd, e, p))), mkO cl_Marks (alp [m]), mkO cl_Marks (alp (getR R2 (kd, e, p) ++ [m]))]).bk
          have ix := v_ixO (C := C) (y := .tup [.str kd, .str e, .str p]) kb dg
          have or_ := v_orO (C := C) (a := (BB cl_Engine cl_Book A b R2).length) (b := (BB cl_Engine cl_Book A b R2).length + 1) (h := BB cl_Engine cl_Book A b R2 ++ [mkO cl_Marks (alp (getR R2 (kd, e, p))), mkO cl_Marks (alp [m])]) (end_get (X := [mkO cl_Marks (alp [m])])) end_get1 dor
          have k3 := fun σ => k_ow3 (C := C) (σ := σ) (y := .tup [.str kd, .str e, .str p]) (v := .ref ((BB cl_Engine cl_Book A b R2).length + 2)) kb3 ds
          have t1 := trimG_put (B := BB cl_Engine cl_Book A b R2) (X := [mkO cl_Marks (alp (getR R2 (kd, e, p))), mkO cl_Marks (alp [m]), mkO cl_Marks (alp (getR R2 (kd, e, p) ++ [m]))]) (j := A.length + 2) (o := .dt (encR AV.ctp (putR R2 (kd, e, p) (alp (getR R2 (kd, e, p) ++ [m]))))) (js := [5]) (σ1 := [some (bkv b (.ft ((encR fR R).map (·.1)) ((encR fR R).map (·.2)))), some (.fl (b.Rd.map fun p => .tup [.fl (sts p.1), .fl (sts p.2)])), none, some (.ref (A.length + 1)), some (.tup [.str kd, .str e, .str p]), some (.str m)]) clean_encC (by rw [bb_len]; have c1 := cb (A.length + 3); have c2 := cp (A.length + 3); generalize bkv b (.ft ((encR fR R).map (·.1)) ((encR fR R).map (·.2))) = bv at *; generalize AV.fl (b.Rd.map fun p => AV.tup [.fl (sts p.1), .fl (sts p.2)]) = pv at *; simp [c1, c2, ca])
          rw [bb_set] at t1
          refine ⟨_, _, _, rfl, ?_, rfl, rfl, RB.put oN⟩
          generalize BB cl_Engine cl_Book A b (putR R2 (kd, e, p) (alp (getR R2 (kd, e, p) ++ [m]))) = B3 at *
          generalize BB cl_Engine cl_Book A b R2 = B2 at *
          generalize mkO cl_Marks (alp (getR R2 (kd, e, p))) = M1 at *
          generalize mkO cl_Marks (alp [m]) = M2 at *
          generalize mkO cl_Marks (alp (getR R2 (kd, e, p) ++ [m])) = M3 at *
          generalize bkv b (.ft ((encR fR R).map (·.1)) ((encR fR R).map (·.2))) = bv at *
          generalize AV.fl (b.Rd.map fun p => AV.tup [.fl (sts p.1), .fl (sts p.2)]) = pv at *
          simp at a2 a3
          have j1 : L2.atI [AV.str kd, .str e, .str p] 1 = some (.str e) := by simp [L2.atI, L2.ixN]
          have j2 : L2.atI [AV.str kd, .str e, .str p] 2 = some (.str p) := by simp [L2.atI, L2.ixN]
          simp [l1__law_made, j1, j2, ix, a1, a2, or_, a3, k3, a4, sizeLine_eq]
          exact t1)
      rw [q1, q2] at e1
      exact e1
    have p0 : kFor (gNm 4) (l0__law_made C) [some (bkv b (.ft ((encR fR R).map (·.1)) ((encR fR R).map (·.2)))), some (.fl (b.Rd.map fun p => .tup [.fl (sts p.1), .fl (sts p.2)])), none, some (.ref (A.length + 1)), none, none] (.tup (R.map fun q => AV.tup [.str q.1.1, .str q.1.2.1, .str q.1.2.2])) (BB cl_Engine cl_Book A b []) = .ok (.nx [some (bkv b (.ft ((encR fR R).map (·.1)) ((encR fR R).map (·.2)))), some (.fl (b.Rd.map fun p => .tup [.fl (sts p.1), .fl (sts p.2)])), none, some (.ref (A.length + 1)), none, none]) (BB cl_Engine cl_Book A b (mkR R)) := by
      obtain ⟨σ2, h2, e1, q1, q2, _⟩ := kFor_fold (s := .tup (R.map fun q => AV.tup [.str q.1.1, .str q.1.2.1, .str q.1.2.2])) (xs := R) (enc := fun q => AV.tup [.str q.1.1, .str q.1.2.1, .str q.1.2.2]) (g := gNm 4) (b := l0__law_made C) (σ := [some (bkv b (.ft ((encR fR R).map (·.1)) ((encR fR R).map (·.2)))), some (.fl (b.Rd.map fun p => .tup [.fl (sts p.1), .fl (sts p.2)])), none, some (.ref (A.length + 1)), none, none]) (h := BB cl_Engine cl_Book A b [])
        (fun B q => mkR1 B q.1 q.2) (fun B σ h => σ = [some (bkv b (.ft ((encR fR R).map (·.1)) ((encR fR R).map (·.2)))), some (.fl (b.Rd.map fun p => .tup [.fl (sts p.1), .fl (sts p.2)])), none, some (.ref (A.length + 1)), none, none] ∧ h = BB cl_Engine cl_Book A b B ∧ RulOk b B) [] (by simp) (fun _ _ _ _ _ => rfl) ⟨rfl, rfl, .nil⟩ (fun ys q zs σ h hx w => by
          obtain ⟨rfl, rfl, RB⟩ := w
          generalize (ys.foldl (fun (B : Rul) (q : K3 × List Str) => mkR1 B q.1 q.2) []) = R2 at *
          have qm := mem_left hx
          have o1 := RO.one q qm
          have RB2 := RB.mk1 o1
          have a1 := p1 q.1.1 q.1.2.1 q.1.2.2 q.2 R2 RB o1
          have va : dGetA (.ft ((encR fR R).map (·.1)) ((encR fR R).map (·.2))) (.tup [.str q.1.1, .str q.1.2.1, .str q.1.2.2]) (BB cl_Engine cl_Book A b R2) = some (some (.fl (sts q.2))) := by
            rw [(hasR_ft (f := fR) (R := R) (h := BB cl_Engine cl_Book A b R2)).2 q.1, valA_mem RO.nd qm]
          have gr := gr (BB cl_Engine cl_Book A b R2)
          have t1 := trimG_put (B := BB cl_Engine cl_Book A b R2) (X := []) (j := A.length + 2) (o := .dt (encR AV.ctp (mkR1 R2 q.1 q.2))) (js := [4, 5]) (σ1 := [some (bkv b (.ft ((encR fR R).map (·.1)) ((encR fR R).map (·.2)))), some (.fl (b.Rd.map fun p => .tup [.fl (sts p.1), .fl (sts p.2)])), none, some (.ref (A.length + 1)), some (.tup [.str q.1.1, .str q.1.2.1, .str q.1.2.2]), none]) clean_encC (by rw [bb_len]; have c1 := cb (A.length + 3); have c2 := cp (A.length + 3); generalize bkv b (.ft ((encR fR R).map (·.1)) ((encR fR R).map (·.2))) = bv at *; generalize AV.fl (b.Rd.map fun p => AV.tup [.fl (sts p.1), .fl (sts p.2)]) = pv at *; simp [c1, c2, ca])
          rw [bb_set, List.append_nil] at t1
          refine ⟨_, _, _, rfl, ?_, rfl, rfl, RB2⟩
          have a1 : kFor (gNm 5) (l1__law_made C) [some (bkv b (.ft ((encR fR R).map (·.1)) ((encR fR R).map (·.2)))), some (.fl (b.Rd.map fun p => .tup [.fl (sts p.1), .fl (sts p.2)])), none, some (.ref (A.length + 1)), some (.tup [.str q.1.1, .str q.1.2.1, .str q.1.2.2]), none] (.tup (sts q.2)) (BB cl_Engine cl_Book A b R2) = .ok (.nx _) (BB cl_Engine cl_Book A b (mkR1 R2 q.1 q.2)) := a1
          generalize BB cl_Engine cl_Book A b (mkR1 R2 q.1 q.2) = B3 at *
          generalize BB cl_Engine cl_Book A b R2 = B2 at *
          generalize bkv b (.ft ((encR fR R).map (·.1)) ((encR fR R).map (·.2))) = bv at *
          generalize AV.ft ((encR fR R).map (·.1)) ((encR fR R).map (·.2)) = rv at *
          generalize AV.fl (b.Rd.map fun p => AV.tup [.fl (sts p.1), .fl (sts p.2)]) = pv at *
          generalize sts q.2 = Q2 at *
          simp [l0__law_made, v_ixD gr, v_ixD va, a1]
          exact t1)
      rw [q1, q2] at e1
      exact e1
    have fd := fun σ (q : (op2 (oIxA C) (sVar 0) (sK (.str "rules"))) σ (BB cl_Engine cl_Book A b []) = .ok (.ft ((encR fR R).map (·.1)) ((encR fR R).map (·.2))) (BB cl_Engine cl_Book A b [])) => e_forD_ft (g := gNm 4) (b := l0__law_made C) q
    have fd := fd [some (bkv b (.ft ((encR fR R).map (·.1)) ((encR fR R).map (·.2)))), some (.fl (b.Rd.map fun p => .tup [.fl (sts p.1), .fl (sts p.2)])), none, some (.ref (A.length + 1)), none, none] (by
      have gr := gr (BB cl_Engine cl_Book A b [])
      generalize bkv b (.ft ((encR fR R).map (·.1)) ((encR fR R).map (·.2))) = bv at *
      generalize AV.ft ((encR fR R).map (·.1)) ((encR fR R).map (·.2)) = rv at *
      generalize BB cl_Engine cl_Book A b [] = B0 at *
      simp [v_ixD gr])
    rw [keys_tup, p0] at fd
    have gm := gm (A ++ [.ins cl_Engine (b.e.fs b.e.tv)])
    have vl := vl (A ++ [.ins cl_Engine (b.e.fs b.e.tv)])
    have tr := tr (BB cl_Engine cl_Book A b (mkR R))
    generalize BB cl_Engine cl_Book A b (mkR R) = B1 at *
    generalize BB cl_Engine cl_Book A b [] = B0 at *
    generalize A ++ [.ins cl_Engine (b.e.fs b.e.tv)] = A1 at *
    generalize bkv b (.ft ((encR fR R).map (·.1)) ((encR fR R).map (·.2))) = bv at *
    generalize sts b.M = MM at *
    generalize (b.Rd.map fun p => AV.tup [.fl (sts p.1), .fl (sts p.2)]) = PR at *
    simp [f__law_made, trimF, runF, b__law_made, slots, c0, m1, v_ixD gm, vl, m2, fd, tr]
end K09

namespace K09
open PySem PySem.Spec PyProof.Rows L2 Mi
theorem fl_in {C : CE} {R : Rul} {k : K3} {h : AH} {m : Str} : oInA C (.str m) (.fl (sts (getR R k))) h = .ok (.bl (decide (m ∈ getR R k))) h := v_inE
theorem latoms_ok {k : Nat} {b : Bk} (B : b.Ok) {A : AH} {R : Rul} {rv : AV} (hR : ∀ X, HasR fR rv R (A ++ X)) (cr : clean (A.length + 1) rv = true) : (ceN bod pd (k + 2)).call nm__law_atoms [bkv b rv] A = .ok (.fl (t4 (b.atoms (getR R)))) A := by
  have e1 := fun {X : AH} {e : Str} (he : e ∈ words ∨ e ∈ b.e.N) => lplaces_ok (k := k) B (A := A ++ X) he
  rw [show (ceN bod pd (k + 2)).call nm__law_atoms = f__law_atoms (ceN bod pd (k + 1)) from rfl]
  generalize ceN bod pd (k + 1) = C at e1 ⊢
  have ca : clean (A.length + 1) (bkv b rv) = true := clean_bkv cr
  have gk : ∀ h, dGetA (bkv b rv) (.str "kinds") h = some (some (.fl (sts b.e.K))) := fun h => gb_k
  have gn : ∀ h, dGetA (bkv b rv) (.str "names") h = some (some (.fl (sts b.e.N))) := fun h => gb_n
  have gr : ∀ h, dGetA (bkv b rv) (.str "rules") h = some (some rv) := fun h => gb_r
  have gm : ∀ h, dGetA (bkv b rv) (.str "marks") h = some (some (.fl (sts b.M))) := fun h => gb_m
  generalize bkv b rv = bv at *
  -- one place
  have p2 : ∀ (kd e : Str) (acc : List K4) (ps : List Str), acc.length ≤ 800 → ps.length ≤ 4 → kFor (gNm 4) (l2__law_atoms C) [some bv, some (.ref A.length), some (.str kd), some (.str e), none, none, none] (.tup (sts ps)) (A ++ [.lst (t4 acc)]) = .ok (.nx [some bv, some (.ref A.length), some (.str kd), some (.str e), none, none, none]) (A ++ [.lst (t4 (acc ++ ps.flatMap (atP b (getR R) kd e)))]) := fun kd e acc ps hacc hps => by
    have z := kFor_acc (s := .tup (sts ps)) (xs := ps) (enc := AV.str) (g := gNm 4) (b := l2__law_atoms C) (σ := [some bv, some (.ref A.length), some (.str kd), some (.str e), none, none, none]) (A := A) (a0 := t4 acc) (fun p => t4 (atP b (getR R) kd e p)) (fun X => src_tupI) (fun ys p zs hx => by
      refine ⟨_, rfl, ?_⟩
      have yl := len_pre hx
      have hf := flatMap_len (F := atP b (getR R) kd e) (c := 4) (ys := ys) fun p _ => atP_len B
      have pl := atP_len B (f := getR R) (k := kd) (e := e) (p := p)
      simp only [t4_flat]
      rw [← t4_app]
      have al : (acc ++ ys.flatMap (atP b (getR R) kd e)).length ≤ 820 := by rw [List.length_append]; omega
      generalize acc ++ ys.flatMap (atP b (getR R) kd e) = acc2 at *
      have hRX := hR [.lst (t4 acc2)]
      have hd := hRX.1
      have g3 := hasR_get hRX (k := kd) (e := e) (p := p)
      have g3 : kG3 rv (.tup [.str kd, .str e, .str p]) (.fl []) (A ++ [.lst (t4 acc2)]) = .ok (.fl (sts (getR R (kd, e, p)))) (A ++ [.lst (t4 acc2)]) := g3
      have ge : (A ++ [AO.lst (t4 acc2)])[A.length]? = some (.lst (t4 acc2)) := end_get
      have ex := v_ext (v := .fl (t4 (atP b (getR R) kd e p))) ge rfl (by rw [List.length_map, List.length_map]; omega)
      have il := is_lst (lst_ref ge)
      rw [end_set, ← t4_app] at ex
      rw [← t4_app]
      have gr := gr (A ++ [.lst (t4 acc2)])
      have gm := gm (A ++ [.lst (t4 acc2)])
      have wi := fun (m : Str) => fl_in (C := C) (R := R) (k := (kd, e, p)) (h := A ++ [.lst (t4 acc2)]) (m := m)
      have wc : clean (A.length + 1) (.fl (sts (getR R (kd, e, p)))) = true := clean_sts
      generalize AV.fl (sts (getR R (kd, e, p))) = w at *
      have c0 : c0__law_atoms C [some bv, some (.ref A.length), some (.str kd), some (.str e), some (.str p), some w, none] (A ++ [.lst (t4 acc2)]) = .ok (.fl (t4 (atP b (getR R) kd e p))) (A ++ [.lst (t4 acc2)]) := by
        unfold c0__law_atoms
        exact atP_comp B.m2 (by simp [v_ixD gm]) fun m => ⟨by simp [wi], by simp [sizeLine_eq]⟩
      have c1 := cleans_t4 (n := A.length + 1) (xs := acc2 ++ atP b (getR R) kd e p)
      generalize t4 (acc2 ++ atP b (getR R) kd e p) = L2 at *
      generalize t4 (atP b (getR R) kd e p) = L1 at *
      generalize t4 acc2 = L0 at *
      simp [l2__law_atoms, v_ixD gr, k_g1 hd, g3, c0, il, ex, trimG_acc0, ca, c1, sizeLine_eq])
    rw [z, t4_flat, ← t4_app]
  have p1 : ∀ (kd : Str) (acc : List K4) (es : List Str), acc.length ≤ 600 → es.length ≤ 8 → (∀ e ∈ es, e ∈ words ∨ e ∈ b.e.N) → kFor (gNm 3) (l1__law_atoms C) [some bv, some (.ref A.length), some (.str kd), none, none, none, none] (.tup (sts es)) (A ++ [.lst (t4 acc)]) = .ok (.nx [some bv, some (.ref A.length), some (.str kd), none, none, none, none]) (A ++ [.lst (t4 (acc ++ es.flatMap (atE b (getR R) kd)))]) := fun kd acc es hacc hes hev => by
    have z := kFor_acc (s := .tup (sts es)) (xs := es) (enc := AV.str) (g := gNm 3) (b := l1__law_atoms C) (σ := [some bv, some (.ref A.length), some (.str kd), none, none, none, none]) (A := A) (a0 := t4 acc) (fun e => t4 (atE b (getR R) kd e)) (fun X => src_tupI) (fun ys e zs hx => by
      refine ⟨_, rfl, ?_⟩
      have yl := len_pre hx
      have hf := flatMap_len (F := atE b (getR R) kd) (c := 16) (ys := ys) fun p _ => atE_len B
      simp only [t4_flat]
      rw [← t4_app]
      have al : (acc ++ ys.flatMap (atE b (getR R) kd)).length ≤ 800 := by rw [List.length_append]; omega
      generalize acc ++ ys.flatMap (atE b (getR R) kd) = acc2 at *
      have q2 := p2 kd e acc2 (plc b.e.N e) al plc_len
      have f1 := e1 (X := [.lst (t4 acc2)]) (hev e (mem_left hx))
      rw [← t4_app, show atE b (getR R) kd e = (plc b.e.N e).flatMap (atP b (getR R) kd e) from rfl]
      have c1 := cleans_t4 (n := A.length + 1) (xs := acc2 ++ (plc b.e.N e).flatMap (atP b (getR R) kd e))
      generalize t4 (acc2 ++ (plc b.e.N e).flatMap (atP b (getR R) kd e)) = L2 at *
      generalize sts (plc b.e.N e) = PP at *
      generalize t4 acc2 = L0 at *
      simp [l1__law_atoms, f1, q2, trimG_acc0, ca, c1])
    rw [z, t4_flat, ← t4_app]
  have p0 : kFor (gNm 2) (l0__law_atoms C) [some bv, some (.ref A.length), none, none, none, none, none] (.tup (sts b.e.K)) (A ++ [.lst []]) = .ok (.nx [some bv, some (.ref A.length), none, none, none, none, none]) (A ++ [.lst (t4 (b.atoms (getR R)))]) := by
    have z := kFor_acc (s := .tup (sts b.e.K)) (xs := b.e.K) (enc := AV.str) (g := gNm 2) (b := l0__law_atoms C) (σ := [some bv, some (.ref A.length), none, none, none, none, none]) (A := A) (a0 := []) (fun kd => t4 (atK b (getR R) kd)) (fun X => src_tupI) (fun ys kd zs hx => by
      refine ⟨_, rfl, ?_⟩
      have yl := len_pre hx
      have hf := flatMap_len (F := atK b (getR R)) (c := 128) (ys := ys) fun p _ => atK_len B
      have k2 := B.eng.k2
      simp only [t4_flat, List.nil_append]
      have al : (ys.flatMap (atK b (getR R))).length ≤ 600 := by omega
      generalize ys.flatMap (atK b (getR R)) = acc2 at *
      have q1 := p1 kd acc2 (words ++ b.e.N) al (ev_len B) fun e he => List.mem_append.mp he
      have gn := gn (A ++ [.lst (t4 acc2)])
      have ad := ev_add B (h := A ++ [.lst (t4 acc2)])
      rw [← t4_app, show atK b (getR R) kd = (words ++ b.e.N).flatMap (atE b (getR R) kd) from rfl]
      have c1 := cleans_t4 (n := A.length + 1) (xs := acc2 ++ (words ++ b.e.N).flatMap (atE b (getR R) kd))
      generalize t4 (acc2 ++ (words ++ b.e.N).flatMap (atE b (getR R) kd)) = L2 at *
      generalize sts (words ++ b.e.N) = PP at *
      generalize t4 acc2 = L0 at *
      generalize sts b.e.N = NN at *
      simp [l0__law_atoms, v_ixD gn, ad, q1, trimG_acc0, ca, c1, sizeLine_eq])
    rw [z, t4_flat, List.nil_append]
    rfl
  have gk := gk (A ++ [.lst []])
  have dv := deepV_lst (n := 0) (end_get (A := A) (o := .lst (t4 (b.atoms (getR R)))) (X := [])) cleans_t4
  rw [end_set] at dv
  have tr := trim_app (h := A) (X := [.dead]) (v := .fl (t4 (b.atoms (getR R)))) (by simp only [clean]; exact cleans_t4)
  generalize t4 (b.atoms (getR R)) = L0 at *
  generalize sts b.e.K = KK at *
  simp [f__law_atoms, trimF, runF, b__law_atoms, slots, v_ixD gk, p0, dv, tr, sizeLine_eq]
end K09

namespace K09
open PySem PySem.Spec PyProof.Rows L2 Mi
theorem deep_bkv {b : Bk} {R : Rul} {o : AO} {P : AH} : deepV 40 (bkv b (.ref (P.length + 1))) (BA o P R []) = (bkv b (.ft ((encR fR R).map (·.1)) ((encR fR R).map (·.2))), o :: (P ++ [.dead])) := by
  have c := clean_bkv (b := b) (rv := .non) (n := 0) rfl
  unfold bkv at c
  simp only [clean_fk, cleans_cons, cleans_nil, Bool.and_true, Bool.and_eq_true] at c
  obtain ⟨c1, c2, c3, c4, _, c6, c7, c8⟩ := c
  unfold bkv
  rw [deepV]
  have z : deepL 39 [AV.fl (sts b.e.K), .fl b.e.pv, b.e.sv, .fl (sts b.e.N), .ref (P.length + 1), .fl (sts b.M), b.ev, b.tv] (BA o P R []) = ([AV.fl (sts b.e.K), .fl b.e.pv, b.e.sv, .fl (sts b.e.N), .ft ((encR fR R).map (·.1)) ((encR fR R).map (·.2)), .fl (sts b.M), b.ev, b.tv], o :: (P ++ [.dead])) := by
    refine deepL_clean1 c1 (deepL_clean1 c2 (deepL_clean1 c3 (deepL_clean1 c4 ?_)))
    have ce : cleans 0 ((encR fR R).map (·.2)) = true := clean_encR (n := 0) (R := R)
    rw [deepL_cons, deepV_dt ba_get ce]
    dsimp only
    rw [show (BA o P R []).set (P.length + 1) .dead = o :: (P ++ [.dead]) from tl_set0, deepL_clean _ _ _ (by simp only [cleans_cons, cleans_nil, Bool.and_true, Bool.and_eq_true]; exact ⟨c6, c7, c8⟩)]
  rw [z]
theorem deep_bk1 {b : Bk} {rv : AV} {o : AO} {X Z : AH} : deepV 1 (.ref (X.length + 1)) (o :: (X ++ .dk (bkL b rv) :: Z)) = (bkv b rv, o :: (X ++ .dead :: Z)) := by
  rw [deepV, tl_get0]
  dsimp only
  rw [tl_set0, deepL]
  rfl
theorem law_ok (ns : List Int) : ∃ h, (ceN bod pd 10).call nm_law [.scr ns] [] = .ok (.bl true) h := by
  have t1 := tape_ok (k := 8) (ns := ns)
  obtain ⟨e, o1, X, Y, E, T1, _, _, t2⟩ := engine_obj (k := 5) (km := 3) (nm := 4) (R := []) (show Tp0 ns (tp 0 0 7 ns) from ⟨0, 0, 7, rfl, by decide, by decide⟩) (by decide) (by decide)
  rw [show ((3 : Nat) : Int) = 3 from rfl, show ((4 : Nat) : Int) = 4 from rfl, show ([] : AH).length + 1 + X.length = X.length + 1 from by simp; omega, List.nil_append] at t2
  obtain ⟨o2, b, T2, be, B, t3⟩ := reads_ok (k := 5) E (X := X) (Y := Y) T1
  obtain ⟨P, hP⟩ : ∃ P : AH, P = X ++ .dead :: Y := ⟨_, rfl⟩
  have Pl : P.length + 1 = X.length + (Y.length + 1) + 1 := by rw [hP]; simp
  rw [← Pl] at t3
  have f1 := deep_bk1 (b := b) (rv := .ref (P.length + 1)) (o := o2) (X := X) (Z := Y ++ [.dt []])
  have a1 : o2 :: (X ++ .dead :: (Y ++ [.dt []])) = BA o2 P [] [] := by unfold BA; rw [hP]; simp [encR]
  rw [a1] at f1
  -- a new book has no atoms
  have m1 := lmade_ok (k := 4) B (A := BA o2 P [] []) (R := []) .nil (rv := .ref (P.length + 1)) (.inl ⟨_, rfl, ba_get, rfl⟩)
  have q1 := batoms_ok (k := 7) B (A := BB cl_Engine cl_Book (BA o2 P [] []) b (mkR [])) ⟨bb_b, bb_e⟩ bb_r
  rw [show mkR [] = [] from rfl, atoms_nil] at q1
  rw [show mkR [] = [] from rfl] at m1
  have lat : ∀ rv : AV, (List.lookup ("atoms" : Str) (b.fs (BA o2 P [] []).length rv)).isNone = true := fun rv => rfl
  have n1 : ∀ (C : CE) i Z, Z[i]? = some (.lst []) → oNe C (.ref i) (.fl []) Z = .ok (.bl false) Z := fun C i Z hz => by
    unfold oNe
    rw [eqD_t4 (xs := []) (by simp) (lst_ref hz) rfl]
    rfl
  have n1 := fun C => n1 C (BB cl_Engine cl_Book (BA o2 P [] []) b []).length (BB cl_Engine cl_Book (BA o2 P [] []) b [] ++ [.lst []]) end_get
  have kb1 : (BB cl_Engine cl_Book (BA o2 P [] []) b [])[(BA o2 P [] []).length + 1]? = some (.ins cl_Book (b.fs (BA o2 P [] []).length (.ref ((BA o2 P [] []).length + 2)))) := bb_b
  have tp1 : trimP (BA o2 P [] []) (.ok false (BB cl_Engine cl_Book (BA o2 P [] []) b [] ++ [.lst []])) = .ok false (BA o2 P [] []) := trimP_pre (by unfold BB; rw [List.append_assoc]; exact List.prefix_append _ _)
  obtain ⟨v, o3, hv, T3, u4⟩ := pick_ok (k := 8) (n := 2) (R := P ++ .dt (encR fR []) :: []) T2 (by decide) (by decide)
  have u4 : (ceN bod pd 9).call nm__law_pick [.ref 0, .int 2] (BA o2 P [] []) = .ok (.int (v : Nat)) (BA o3 P [] []) := u4
  have tp2 := fun t => trimP_chg (b := t) (show (BA o3 P [] []).length = (BA o2 P [] []).length by rw [ba_len, ba_len])
  -- the rules that are asked for, or none
  have nat : ∃ R1, RulOk b R1 ∧ ((v = 1 ∧ (ceN bod pd 9).call nm__law_natural [bkv b (.ref (P.length + 1))] (BA o3 P [] []) = .ok .non (BA o3 P R1 [])) ∨ (v ≠ 1 ∧ R1 = [])) := by
    by_cases h1 : v = 1
    · obtain ⟨R1, RO1, z⟩ := lnat_ok (k := 6) B (o := o3) (P := P) (Z := []) (R := []) (fun n => tp_clean T3) .nil
      exact ⟨R1, RO1, .inl ⟨h1, z⟩⟩
    · exact ⟨[], .nil, .inr ⟨h1, rfl⟩⟩
  obtain ⟨R1, RO1, nat⟩ := nat
  obtain ⟨w, o4, hw, T4, t5⟩ := pick_ok (k := 8) (n := 10) (R := P ++ .dt (encR fR R1) :: []) T3 (by decide) (by decide)
  have t5 : (ceN bod pd 9).call nm__law_pick [.ref 0, .int 10] (BA o3 P R1 []) = .ok (.int (w : Nat)) (BA o4 P R1 []) := t5
  obtain ⟨o5, R2, T5, RO2, t6⟩ := lmore_ok (k := 5) B (P := P) (Z := []) T4 RO1 (n := w) (by omega)
  obtain ⟨o6, R, T6, RO, t7⟩ := lfence_ok (k := 6) B (P := P) (Z := []) T5 RO2
  have f2 := deep_bkv (b := b) (R := R) (o := o6) (P := P)
  obtain ⟨A, hA⟩ : ∃ A : AH, A = o6 :: (P ++ [.dead]) := ⟨_, rfl⟩
  rw [← hA] at f2
  have m2 := lmade_ok (k := 4) B (A := A) RO (.inr rfl)
  have q2 := batoms_ok (k := 7) B (A := BB cl_Engine cl_Book A b (mkR R)) ⟨bb_b, bb_e⟩ bb_r
  rw [atoms_mk RO] at q2
  have q3 := latoms_ok (k := 7) B (A := BB cl_Engine cl_Book A b (mkR R) ++ [.lst (t4 (b.atoms (getR R)))]) (R := R) (fun X => hasR_ft) (clean_encR (R := R))
  have kb2 : ∀ Z, (BB cl_Engine cl_Book A b (mkR R) ++ Z)[A.length + 1]? = some (.ins cl_Book (b.fs A.length (.ref (A.length + 2)))) := fun Z => get_app bb_b
  have q4 := fun Z => batoms_ok (k := 7) B (A := BB cl_Engine cl_Book A b (mkR R) ++ [.lst Z]) ⟨get_app bb_b, get_app bb_e⟩ (get_app bb_r)
  have q5 := fun Z => latoms_ok (k := 7) B (A := BB cl_Engine cl_Book A b (mkR R) ++ [.lst Z, .lst (t4 (b.atoms (getR R)))]) (R := R) (fun X => hasR_ft) (clean_encR (R := R))
  simp only [atoms_mk RO] at q4
  have lat2 : (List.lookup ("atoms" : Str) (b.fs A.length (.ref (A.length + 2)))).isNone = true := rfl
  have al : ((t4 (b.atoms (getR R))).length) < 1000 := by rw [List.length_map]; have := atoms_len B (f := getR R); omega
  have okq := B.atoms4 (f := getR R)
  have n2 : ∀ (C : CE), oNe C (.ref (BB cl_Engine cl_Book A b (mkR R)).length) (.fl (t4 (b.atoms (getR R)))) (BB cl_Engine cl_Book A b (mkR R) ++ [.lst (t4 (b.atoms (getR R)))]) = .ok (.bl false) (BB cl_Engine cl_Book A b (mkR R) ++ [.lst (t4 (b.atoms (getR R)))]) := fun C => by
    unfold oNe
    rw [eqD_t4 okq (lst_ref end_get) rfl]
    rfl
  have n3 : ∀ (C : CE) Z, oEq C (.ref ((BB cl_Engine cl_Book A b (mkR R)).length + 1)) (.fl (t4 (b.atoms (getR R)))) (BB cl_Engine cl_Book A b (mkR R) ++ [.lst Z, .lst (t4 (b.atoms (getR R)))]) = .ok (.bl true) (BB cl_Engine cl_Book A b (mkR R) ++ [.lst Z, .lst (t4 (b.atoms (getR R)))]) := fun C Z => by
    unfold oEq
    rw [eqD_t4 okq (lst_ref end_get1) rfl]
  have is : bIsT .list (.ref (BB cl_Engine cl_Book A b (mkR R)).length) (BB cl_Engine cl_Book A b (mkR R) ++ [.lst (t4 (b.atoms (getR R)))]) = .ok (.bl true) (BB cl_Engine cl_Book A b (mkR R) ++ [.lst (t4 (b.atoms (getR R)))]) := is_lstO end_get
  have il : isLst (.ref (BB cl_Engine cl_Book A b (mkR R)).length) (BB cl_Engine cl_Book A b (mkR R) ++ [.lst (t4 (b.atoms (getR R)))]) = true := is_lst (lst_ref end_get)
  have ap := v_app (v := .tup [.str "a", .str "style", .str "own", .str "b"]) (end_get (A := BB cl_Engine cl_Book A b (mkR R)) (o := .lst (t4 (b.atoms (getR R)))) (X := [])) al
  rw [end_set] at ap
  have q4 := q4 (t4 (b.atoms (getR R)) ++ [.tup [.str "a", .str "style", .str "own", .str "b"]])
  have q5 := q5 (t4 (b.atoms (getR R)) ++ [.tup [.str "a", .str "style", .str "own", .str "b"]])
  have n3 := fun C => n3 C (t4 (b.atoms (getR R)) ++ [.tup [.str "a", .str "style", .str "own", .str "b"]])
  have kb3 := kb2 [.lst (t4 (b.atoms (getR R)) ++ [.tup [.str "a", .str "style", .str "own", .str "b"]])]
  have kb2 := kb2 []
  rw [List.append_nil] at kb2
  rw [show (ceN bod pd 10).call nm_law = f_law (ceN bod pd 9) from rfl]
  rw [show ∀ x y : AO, (BB cl_Engine cl_Book A b (mkR R) ++ [x]) ++ [y] = BB cl_Engine cl_Book A b (mkR R) ++ [x, y] from fun x y => by rw [List.append_assoc]; rfl, show ∀ x : AO, (BB cl_Engine cl_Book A b (mkR R) ++ [x]).length = (BB cl_Engine cl_Book A b (mkR R)).length + 1 from fun x => List.length_append] at q4
  generalize ceN bod pd 9 = C at *
  have n1 := n1 C
  have n2 := n2 C
  have n3 := n3 C
  have lat1 := lat (.ref ((BA o2 P [] []).length + 2))
  refine ⟨BB cl_Engine cl_Book A b (mkR R) ++ [.lst (t4 (b.atoms (getR R)) ++ [.tup [.str "a", .str "style", .str "own", .str "b"]]), .lst (t4 (b.atoms (getR R)))], ?_⟩
  generalize t4 (b.atoms (getR R)) ++ [.tup [.str "a", .str "style", .str "own", .str "b"]] = L2 at *
  generalize t4 (b.atoms (getR R)) = L1 at *
  generalize BB cl_Engine cl_Book A b (mkR R) = B2 at *
  generalize BB cl_Engine cl_Book (BA o2 P [] []) b [] = B1 at *
  generalize bkv b (.ft ((encR fR R).map (·.1)) ((encR fR R).map (·.2))) = bv2 at *
  generalize bkv b (.ref (P.length + 1)) = bv at *
  generalize BA o6 P R [] = A6 at *
  generalize BA o5 P R2 [] = A5 at *
  generalize BA o4 P R1 [] = A4 at *
  rcases nat with ⟨h1, nat⟩ | ⟨h1, rfl⟩
  · have tp2 := tp2 true
    subst h1
    generalize BA o3 P R1 [] = A3' at *
    generalize BA o3 P [] [] = A3 at *
    generalize BA o2 P [] [] = A2 at *
    simp [f_law, trimF, runF, b_law, slots, t1, t2, t3, f1, m1, k_methE, kb1, oMeth_ins lat1, q1, n1, tp1, u4, tp2, nat, t5, t6, t7, f2, m2, kb2, oMeth_ins lat2, q2, is, q3, n2, trimP_same, il, ap, kb3, q4, q5, n3, sizeLine_eq]
  · have tp2 := tp2 false
    have h2 : ¬ (v : Int) = 1 := by omega
    generalize BA o3 P [] [] = A3 at *
    generalize BA o2 P [] [] = A2 at *
    simp [f_law, trimF, runF, b_law, slots, t1, t2, t3, f1, m1, k_methE, kb1, oMeth_ins lat1, q1, n1, tp1, u4, h2, tp2, t5, t6, t7, f2, m2, kb2, oMeth_ins lat2, q2, is, q3, n2, trimP_same, il, ap, kb3, q4, q5, n3, sizeLine_eq]
theorem law_true (ns : List Int) : ∃ h, callN bod pd 10 nm_law [.scr ns] [] = .ok (.bl true) h := law_ok ns
end K09

namespace K09
open PySem PySem.Spec PyProof.Rows L2 Mi
abbrev Rr : PySem.W.OpenRow := PySem.W.OpenLaw.row PySem.Challenge.rw_redomarks_k09_book_atoms
abbrev hk : PySem.W.Hook := He.hookX 6 [] fn [] [] (PD.okB pd)
def ob (s : PySem.W.SharedT) : He.AlX := He.obsX 6 [] fn [] [] (PD.okB pd) (HandSHeadRun.getT s)
theorem ob_eq (s : PySem.W.SharedT) : ob s = PySem.W.Hook.obs hk s.abs := He.obsX_eq (HandSHeadRun.getT_eq s)
theorem run (w : World) : HandSHeadRun.RunEq Rr (PySem.W.view Rr.prog [42]) hk ob 8000 [("_wall" : PySem.Str), ("RedoError" : PySem.Str), ("BadEngine" : PySem.Str), ("BadBook" : PySem.Str), ("LETTERS" : PySem.Str), ("WORDS" : PySem.Str), ("RELATIONS" : PySem.Str), ("is_name" : PySem.Str), ("are_distinct" : PySem.Str), ("are_names" : PySem.Str), ("split_source" : PySem.Str), ("Engine" : PySem.Str), ("EDIT_PLACES" : PySem.Str), ("CHANGE_PLACES" : PySem.Str), ("Marks" : PySem.Str), ("Book" : PySem.Str), ("_law_tape" : PySem.Str), ("_law_pick" : PySem.Str), ("_law_some" : PySem.Str), ("_law_kind_names" : PySem.Str), ("_law_one" : PySem.Str), ("_law_turn" : PySem.Str), ("_law_in_time" : PySem.Str), ("_law_sources" : PySem.Str), ("_law_engine" : PySem.Str), ("_law_mark_names" : PySem.Str), ("_law_reads" : PySem.Str), ("_law_made_engine" : PySem.Str), ("_law_made" : PySem.Str), ("_law_add" : PySem.Str), ("_law_ways" : PySem.Str), ("_law_natural_source" : PySem.Str), ("_law_natural" : PySem.Str), ("_law_places" : PySem.Str), ("_law_any_atom" : PySem.Str), ("_law_more" : PySem.Str), ("_law_fence" : PySem.Str), ("_law_atoms" : PySem.Str)] w := by
  intro os
  kernel_rfl
theorem facts {w : World} {K : PySem.W.Frag} {h : Heap} {mg : Str → Option Value} {f : Addr} (X : K.In h) (Gn : h.Ns mainGlobals mg) (hfa : mg ("law" : Str) = some (.ref f)) (c : He.SaysX [] (PD.fn pd) [] [] (PD.okB pd) w h K) :
    ∃ fd : FuncData, (∀ (s : Shared) (v : Value), BindsTo s fd ⟨[v], []⟩ [("_law_script", v)]) ∧ ∀ base : Heap, K.In base → base.Ns mainGlobals mg → FnOk PySem.Challenge.pw_redomarks_k09_book_atoms w K mg base (CXe PySem.Challenge.pw_redomarks_k09_book_atoms) 41 f fd ["_law_script"] (spF (PD.cl pd K) K (callN bod pd 10 64)) := by
  have B := base0 X Gn c (by rfl)
  obtain ⟨fd, F⟩ := B.fnd 64 d_64 rfl
  have e := hfa.symm.trans (B.hgl "law" (List.all_eq_true.mp (ba3 (ba3 B.ok).2).1 d_64 (List.mem_of_getElem? (show (PD.fn pd)[64]? = some d_64 from rfl))))
  cases e
  have b := FunD.bindsA (ps := ["_law_script"]) F fun _ _ _ _ _ _ us hl => match us, hl with | [_], _ => rfl
  exact ⟨fd, fun s v => b s [v] rfl, fun base _ _ => fnOk_e (step_ok (N := N_64) (ps := ["_law_script"]) (all B 9) F sc_64 y_64)⟩
end K09
open PySem PySem.W PySem.Calls PyProof.Rows
theorem PySem.Challenge.cw_redomarks_k09_book_atoms_holds : PySem.Challenge.rw_redomarks_k09_book_atoms.Holds := by
  w_on; o_law
  refine HandSHeadRun.head_any (r := OpenLaw.row PySem.Challenge.rw_redomarks_k09_book_atoms) (q := view (OpenLaw.row PySem.Challenge.rw_redomarks_k09_book_atoms).prog [42]) (H := K09.hk) (ob := K09.ob) (M := 8000) (loose := [("_wall" : PySem.Str), ("RedoError" : PySem.Str), ("BadEngine" : PySem.Str), ("BadBook" : PySem.Str), ("LETTERS" : PySem.Str), ("WORDS" : PySem.Str), ("RELATIONS" : PySem.Str), ("is_name" : PySem.Str), ("are_distinct" : PySem.Str), ("are_names" : PySem.Str), ("split_source" : PySem.Str), ("Engine" : PySem.Str), ("EDIT_PLACES" : PySem.Str), ("CHANGE_PLACES" : PySem.Str), ("Marks" : PySem.Str), ("Book" : PySem.Str), ("_law_tape" : PySem.Str), ("_law_pick" : PySem.Str), ("_law_some" : PySem.Str), ("_law_kind_names" : PySem.Str), ("_law_one" : PySem.Str), ("_law_turn" : PySem.Str), ("_law_in_time" : PySem.Str), ("_law_sources" : PySem.Str), ("_law_engine" : PySem.Str), ("_law_mark_names" : PySem.Str), ("_law_reads" : PySem.Str), ("_law_made_engine" : PySem.Str), ("_law_made" : PySem.Str), ("_law_add" : PySem.Str), ("_law_ways" : PySem.Str), ("_law_natural_source" : PySem.Str), ("_law_natural" : PySem.Str), ("_law_places" : PySem.Str), ("_law_any_atom" : PySem.Str), ("_law_more" : PySem.Str), ("_law_fence" : PySem.Str), ("_law_atoms" : PySem.Str)]) (d := HandSHeadRun.topDef (OpenLaw.row PySem.Challenge.rw_redomarks_k09_book_atoms).prog 42) (kwd := []) K09.ob_eq
    (by kernel_rfl) (fun s => by kernel_rfl) K09.run (by kernel_rfl) (by kernel_rfl) (by kernel_rfl) (by rfl) (by first | assumption | decide +kernel) (by decide +kernel) ⟨rfl, rfl, rfl, rfl, rfl, by decide +kernel⟩ ?hw ?hc
  case hw => w_witness2
  case hc =>
    refine L2.walk_ofE (l := PySem.Challenge.rw_redomarks_k09_book_atoms) (n := 63) (k := 41) (x := "_law_script") (CX := Mi.CXe PySem.Challenge.pw_redomarks_k09_book_atoms) rfl (by decide) (by kernel_rfl) ⟨rfl, by decide, by decide⟩ ?F (fun H s e s' z => Mi.cxe_none z)
    intro w mg fa h Y G hmg0
    obtain ⟨K, KX, c⟩ := Y
    have hmg : mg ("law" : PySem.Str) = some (.ref fa) := by
      have e : (HandSHeadRun.topDef (OpenLaw.row PySem.Challenge.rw_redomarks_k09_book_atoms).prog 42).name = ("law" : PySem.Str) := by kernel_rfl
      rw [← e]
      exact hmg0
    obtain ⟨fd, hb, hF⟩ := K09.facts (w := w) KX G hmg c
    exact ⟨K, fd, _, KX, hb, fun H a ns hl hO hS => Mi.law_sp hO hS (K09.law_true ns).choose_spec, hF⟩

