import PyProof.Rows.All
import Wide.All
import OpenK.AllK
import Wide.FinOn
import HandS.ForMost
import HandS.ForExc
import HandS.Conv
import HandS.IsInst
import HandS.ExcInit
import HandS.ExcField
import HandS.ExcIs
import KE.KExcIs
import HandS.TryMany
import HandS.Defaults
import HandS.CallSlots
import HandS.Property
import HandS.TupAny
import HandS.Flow
import HandS.CallRecv
import HandS.Wide
import KE.LtSeq
import HandS.Words
import HandS.More
import HandS.Head0
import HandS.Head1
import HandS.Head2
import HandS.HeadEnd
import HandS.HeadHook1
import HandS.HeadHook2
import PySem.Challenge.RW_bestcovers_k07_errors_and_their_attribut
set_option Elab.async false
set_option linter.all false
set_option maxRecDepth 100000
/-! Mi, part A: data, heaps and the small semantics: a def as a plain function of data and a list of changeable things. -/
namespace Mi
open PySem L2

/-- data: a tuple and a list that nobody can change stand in it, a changeable thing by its number -/
inductive D where
  | non | bl (b : Bool) | int (i : Int) | str (x : Str) | tup (xs : List D) | frl (xs : List D) | ref (n : Nat)

/-- a changeable thing -/
inductive Ob where
  | lst (xs : List D) | dic (kvs : List (Key × D)) | dct (kvs : List (List Key × D)) | ins (c : Nat) (fs : List (Str × D))

abbrev Hh := List Ob

/-- how a piece of a program ends: with a value, with an error (its class's number, what it holds), or in a way that nothing is said of -/
inductive R (α : Type) where
  | ok (a : α) (h : Hh) | exc (c : Nat) (p : Option D) (h : Hh) | bad

def R.bind {α β : Type} (r : R α) (f : α → Hh → R β) : R β := match r with
  | .ok a h => f a h
  | .exc c p h => .exc c p h
  | .bad => .bad
@[simp] theorem R.bind_ok {α β : Type} (a : α) (h : Hh) (f : α → Hh → R β) : (R.ok a h).bind f = f a h := rfl
@[simp] theorem R.bind_exc {α β : Type} (c : Nat) (p : Option D) (h : Hh) (f : α → Hh → R β) : (R.exc c p h : R α).bind f = .exc c p h := rfl
@[simp] theorem R.bind_bad {α β : Type} (f : α → Hh → R β) : (R.bad : R α).bind f = .bad := rfl

abbrev Rho := List (Option D)
/-- an expression, a test, an argument row: the slots, the locked things, the heap -/
abbrev EX := Rho → List Nat → Hh → R D
abbrev TX := Rho → List Nat → Hh → R Bool
abbrev AX := Rho → List Nat → Hh → R (List D)
/-- how a statement ends -/
inductive SR where
  | nx (ρ : Rho) (h : Hh) | ret (d : D) (h : Hh) | brk (ρ : Rho) (h : Hh) | cnt (ρ : Rho) (h : Hh) | exc (c : Nat) (p : Option D) (ρ : Rho) (h : Hh) | bad
abbrev SX := Rho → List Nat → Hh → SR
/-- a def -/
abbrev FX := List D → List Nat → Hh → R D

/-- behind an expression, in a statement -/
def R.toS {α : Type} (r : R α) (ρ : Rho) (f : α → Hh → SR) : SR := match r with
  | .ok a h => f a h
  | .exc c p h => .exc c p ρ h
  | .bad => .bad
@[simp] theorem R.toS_ok {α : Type} (a : α) (h : Hh) (ρ : Rho) (f : α → Hh → SR) : (R.ok a h).toS ρ f = f a h := rfl
@[simp] theorem R.toS_exc {α : Type} (c : Nat) (p : Option D) (h : Hh) (ρ : Rho) (f : α → Hh → SR) : (R.exc c p h : R α).toS ρ f = .exc c p ρ h := rfl
@[simp] theorem R.toS_bad {α : Type} (ρ : Rho) (f : α → Hh → SR) : (R.bad : R α).toS ρ f = .bad := rfl
/-- behind a statement -/
def SR.seq (r : SR) (f : Rho → Hh → SR) : SR := match r with
  | .nx ρ h => f ρ h
  | r => r
@[simp] theorem SR.seq_nx (ρ : Rho) (h : Hh) (f : Rho → Hh → SR) : (SR.nx ρ h).seq f = f ρ h := rfl
@[simp] theorem SR.seq_ret (d : D) (h : Hh) (f : Rho → Hh → SR) : (SR.ret d h).seq f = .ret d h := rfl
@[simp] theorem SR.seq_brk (ρ : Rho) (h : Hh) (f : Rho → Hh → SR) : (SR.brk ρ h).seq f = .brk ρ h := rfl
@[simp] theorem SR.seq_cnt (ρ : Rho) (h : Hh) (f : Rho → Hh → SR) : (SR.cnt ρ h).seq f = .cnt ρ h := rfl
@[simp] theorem SR.seq_exc (c : Nat) (p : Option D) (ρ : Rho) (h : Hh) (f : Rho → Hh → SR) : (SR.exc c p ρ h).seq f = .exc c p ρ h := rfl
@[simp] theorem SR.seq_bad (f : Rho → Hh → SR) : (SR.bad).seq f = .bad := rfl

/-! ### values -/
def eVar (i : Nat) : EX := fun ρ _ h => match ρ[i]? with
  | some (some d) => .ok d h
  | _ => .bad
def eC (d : D) : EX := fun _ _ h => .ok d h
def aNil : AX := fun _ _ h => .ok [] h
def aCons (a : EX) (r : AX) : AX := fun ρ L h => (a ρ L h).bind fun x h1 => (r ρ L h1).bind fun xs h2 => .ok (x :: xs) h2
/-- a two-place operation -/
abbrev B2 := D → D → Hh → R D
def eBin (f : B2) (a b : EX) : EX := fun ρ L h => (a ρ L h).bind fun x h1 => (b ρ L h1).bind fun y h2 => f x y h2
def eUn (f : D → Hh → R D) (a : EX) : EX := fun ρ L h => (a ρ L h).bind fun x h1 => f x h1
/-- a built-in called -/
def eCB (f : List D → Hh → R D) (a : AX) : EX := fun ρ L h => (a ρ L h).bind fun xs h1 => f xs h1
def eTup (a : AX) : EX := fun ρ L h => (a ρ L h).bind fun xs h1 => if xs.length ≤ sizeLine then .ok (.tup xs) h1 else .bad
/-- a new thing -/
def new (o : Ob) (h : Hh) : R D := .ok (.ref h.length) (h ++ [o])
def eLst (a : AX) : EX := fun ρ L h => (a ρ L h).bind fun xs h1 => if xs.length ≤ sizeLine then new (.lst xs) h1 else .bad
/-- a def called -/
def eCall (n : Nat) (f : FX) (a : AX) : EX := fun ρ L h => (a ρ L h).bind fun xs h1 => if xs.length = n then f xs L h1 else .bad

/-! ### operations -/
def bSub : B2 := fun x y h => match x, y with
  | .int i, .int j => .ok (.int (i - j)) h
  | _, _ => .bad
/-- the items of a list -/
def lstOf (x : D) (h : Hh) : Option (List D) := match x with
  | .frl xs => some xs
  | .ref n => (match h[n]? with
    | some (.lst xs) => some xs
    | _ => none)
  | _ => none
def bAdd : B2 := fun x y h => match x, y with
  | .int i, .int j => .ok (.int (i + j)) h
  | .str i, .str j => if i.length + j.length ≤ sizeLine then .ok (.str (i ++ j)) h else .bad
  | .tup xs, .tup ys => if xs.length + ys.length ≤ sizeLine then .ok (.tup (xs ++ ys)) h else .bad
  | .ref n, .ref m => (match h[n]?, h[m]? with
    | some (.lst xs), some (.lst ys) => if xs.length + ys.length ≤ sizeLine then new (.lst (xs ++ ys)) h else .bad
    | _, _ => .bad)
  | _, _ => .bad
def small64 (i : Int) : Bool := decide (-(2 ^ 64) < i ∧ i < 2 ^ 64)
def bMul : B2 := fun x y h => match x, y with
  | .int i, .int j => if small64 i || small64 j then .ok (.int (i * j)) h else .bad
  | _, _ => .bad
/-- // by a positive number below 2 ^ 9000 -/
def bDiv : B2 := fun x y h => match x, y with
  | .int i, .int j => if 0 < j ∧ j.natAbs < 2 ^ 9000 then .ok (.int (i / j)) h else .bad
  | _, _ => .bad
/-- % by a positive number -/
def bMod : B2 := fun x y h => match x, y with
  | .int i, .int j => if 0 < j then .ok (.int (i % j)) h else .bad
  | _, _ => .bad
def bPow : B2 := fun x y h => match x, y with
  | .int i, .int j => if 0 ≤ j ∧ j ≤ 1000000 ∧ i.natAbs < 2 ^ 64 then .ok (.int (i ^ j.toNat)) h else .bad
  | _, _ => .bad
def cInt (p : Int → Int → Bool) : B2 := fun x y h => match x, y with
  | .int i, .int j => .ok (.bl (p i j)) h
  | _, _ => .bad
def bLt : B2 := cInt fun i j => decide (i < j)
def bLe : B2 := cInt fun i j => decide (i ≤ j)
def bGt : B2 := cInt fun i j => decide (j < i)
def bGe : B2 := cInt fun i j => decide (j ≤ i)
def uNeg : D → Hh → R D := fun x h => match x with
  | .int i => .ok (.int (-i)) h
  | _ => .bad
def D.isNon : D → Bool
  | .non => true
  | _ => false
def uIsN : D → Hh → R D := fun x h => .ok (.bl x.isNon) h
def uNotN : D → Hh → R D := fun x h => .ok (.bl (!x.isNon)) h

/-- data as a whole, lists read off the heap, to a depth -/
def toPy : Nat → Hh → D → Option PyData
  | 0, _, _ => none
  | f + 1, h, d => match d with
    | .non => some .none
    | .bl b => some (.bool b)
    | .int i => some (.int i)
    | .str x => some (.str x)
    | .tup xs => (xs.mapM (toPy f h)).map .tuple
    | .frl xs => (xs.mapM (toPy f h)).map .list
    | .ref n => (match h[n]? with
      | some (.lst xs) => (xs.mapM (toPy f h)).map .list
      | _ => none)
/-- == of two plain values -/
def scEq : D → D → Option Bool
  | .non, .non => some true
  | .non, .int _ => some false | .int _, .non => some false | .non, .bl _ => some false | .bl _, .non => some false | .non, .str _ => some false | .str _, .non => some false
  | .int i, .int j => some (decide (i = j))
  | .bl i, .bl j => some (decide (i = j))
  | .str i, .str j => some (decide (i = j))
  | .int _, .str _ => some false | .str _, .int _ => some false | .bl _, .str _ => some false | .str _, .bl _ => some false
  | _, _ => none
def eqD (x y : D) (h : Hh) : Option Bool := match scEq x y with
  | some b => some b
  | none => (match toPy 66 h x, toPy 66 h y with
    | some a, some b => if SeqAt.shaped a && SeqAt.shaped b then some (PyData.eqv a b) else none
    | _, _ => none)
def bEq : B2 := fun x y h => match eqD x y h with
  | some b => .ok (.bl b) h
  | none => .bad
def bNe : B2 := fun x y h => match eqD x y h with
  | some b => .ok (.bl (!b)) h
  | none => .bad

/-- a flat value (what `in` looks for among the items of a list or a tuple) -/
def flatD : D → Bool
  | .non | .bl _ | .int _ | .str _ => true
  | _ => false
/-- == of flat values -/
def eqF : D → D → Bool
  | .non, .non => true
  | .bl a, .bl b => a == b
  | .int a, .int b => a == b
  | .bl a, .int b => (if a then 1 else 0) == b
  | .int a, .bl b => a == (if b then 1 else 0)
  | .str a, .str b => a == b
  | _, _ => false
/-- the items of a list or a tuple -/
def seqOf (x : D) (h : Hh) : Option (List D) := match x with
  | .tup xs => some xs
  | _ => lstOf x h
def keyD : D → Option Key
  | .int i => some (.inl i)
  | .str x => some (.inr x)
  | _ => none
def keysD : List D → Option (List Key)
  | [] => none
  | [d] => (keyD d).map fun k => [k]
  | d :: e :: ds => match keyD d, keysD (e :: ds) with
    | some k, some ks => some (k :: ks)
    | _, _ => none
def valD {κ : Type} [DecidableEq κ] (kvs : List (κ × D)) (k : κ) : Option D := (kvs.find? fun kv => decide (kv.1 = k)).map (·.2)
def putD {κ : Type} [DecidableEq κ] (kvs : List (κ × D)) (k : κ) (v : D) : List (κ × D) :=
  if (kvs.any fun kv => decide (kv.1 = k)) = true then kvs.map (fun kv => if kv.1 = k then (kv.1, v) else kv) else kvs ++ [(k, v)]
/-- what a dict says of a key: none: no such question; some none: the key is not there -/
def dGet (x y : D) (h : Hh) : Option (Option D) := match x with
  | .ref n => (match h[n]? with
    | some (.dic kvs) => (match keyD y with
      | some k => some (valD kvs k)
      | none => none)
    | some (.dct kvs) => (match y with
      | .tup ds => (match keysD ds with
        | some ks => some (valD kvs ks)
        | none => none)
      | _ => none)
    | _ => none)
  | _ => none
/-- one sign in a text -/
def occ (i j : Str) : Option Bool := match i.cps.toList with
  | [c] => some (decide (c ∈ j.cps.toList))
  | _ => none
def inD (x y : D) (h : Hh) : Option Bool := match dGet y x h with
  | some o => some o.isSome
  | none => (match x, y with
    | .str i, .str j => occ i j
    | _, _ => (match seqOf y h with
      | some ys => if flatD x && ys.all flatD then some (ys.any fun z => eqF z x) else none
      | none => none))
def bIn : B2 := fun x y h => match inD x y h with
  | some b => .ok (.bl b) h
  | none => .bad
def bNotIn : B2 := fun x y h => match inD x y h with
  | some b => .ok (.bl (!b)) h
  | none => .bad

/-! ### subscripts, slices -/
def bIx : B2 := fun x y h => match y with
  | .int i => (match x with
    | .str z => if z.length ≤ sizeLine then (match atI z.cps.toList i with
      | some c => .ok (.str ⟨#[c]⟩) h
      | none => .bad) else .bad
    | _ => (match seqOf x h with
      | some xs => (match atI xs i with
        | some v => .ok v h
        | none => .bad)
      | none => (match dGet x y h with
        | some (some v) => .ok v h
        | _ => .bad)))
  | _ => (match dGet x y h with
    | some (some v) => .ok v h
    | _ => .bad)
/-- the part of a list -/
def cutD {α : Type} (xs : List α) (lo hi : Option Int) : List α := (xs.drop (HT.sIx xs.length 0 lo)).take (HT.sIx xs.length xs.length hi - HT.sIx xs.length 0 lo)
/-- a slice's part -/
abbrev OX := Rho → List Nat → Hh → R (Option Int)
def oNo : OX := fun _ _ h => .ok none h
def oYes (a : EX) : OX := fun ρ L h => (a ρ L h).bind fun x h1 => match x with
  | .int i => .ok (some i) h1
  | _ => .bad
def slD (x : D) (lo hi : Option Int) (h : Hh) : R D := match x with
  | .tup xs => .ok (.tup (cutD xs lo hi)) h
  | .str z => if z.length ≤ sizeLine then .ok (.str (cutS z lo hi)) h else .bad
  | _ => (match lstOf x h with
    | some xs => new (.lst (cutD xs lo hi)) h
    | none => .bad)
def eSl (a : EX) (lo hi : OX) : EX := fun ρ L h => (a ρ L h).bind fun x h1 => (lo ρ L h1).bind fun l h2 => (hi ρ L h2).bind fun u h3 => slD x l u h3

/-! ### tests -/
def truD (x : D) (h : Hh) : Option Bool := match x with
  | .non => some false
  | .bl b => some b
  | .int i => some (i != 0)
  | .str y => if y.length ≤ sizeLine then some ((y.length : Int) != 0) else none
  | .tup xs => some (!xs.isEmpty)
  | .frl xs => some (!xs.isEmpty)
  | .ref n => (match h[n]? with
    | some (.lst xs) => some (!xs.isEmpty)
    | _ => none)
def tTru (a : EX) : TX := fun ρ L h => (a ρ L h).bind fun x h1 => match truD x h1 with
  | some b => .ok b h1
  | none => .bad
/-- a comparison as a test -/
def tBl (a : EX) : TX := fun ρ L h => (a ρ L h).bind fun x h1 => match x with
  | .bl b => .ok b h1
  | _ => .bad
def xAnd (t u : TX) : TX := fun ρ L h => (t ρ L h).bind fun b h1 => if b then u ρ L h1 else .ok false h1
def xOr (t u : TX) : TX := fun ρ L h => (t ρ L h).bind fun b h1 => if b then .ok true h1 else u ρ L h1
def xNot (t : TX) : TX := fun ρ L h => (t ρ L h).bind fun b h1 => .ok (!b) h1
/-- a or b, a and b, not a as values -/
def eOr (a b : EX) : EX := fun ρ L h => (a ρ L h).bind fun x h1 => match truD x h1 with
  | some true => .ok x h1
  | some false => b ρ L h1
  | none => .bad
def eAnd (a b : EX) : EX := fun ρ L h => (a ρ L h).bind fun x h1 => match truD x h1 with
  | some true => b ρ L h1
  | some false => .ok x h1
  | none => .bad
def eNot (a : EX) : EX := fun ρ L h => (a ρ L h).bind fun x h1 => match truD x h1 with
  | some b => .ok (.bl (!b)) h1
  | none => .bad
def eIf (t : TX) (a b : EX) : EX := fun ρ L h => (t ρ L h).bind fun c h1 => if c then a ρ L h1 else b ρ L h1
/-- a op b op' c -/
def eCh (f g : B2) (a b c : EX) : EX := fun ρ L h => (a ρ L h).bind fun x h1 => (b ρ L h1).bind fun y h2 => (f x y h2).bind fun z h3 => match z with
  | .bl true => (c ρ L h3).bind fun u h4 => g y u h4
  | .bl false => .ok (.bl false) h3
  | _ => .bad

/-! ### statements -/
def sNil : SX := fun ρ _ h => .nx ρ h
def sSeq (a b : SX) : SX := fun ρ L h => (a ρ L h).seq fun ρ' h' => b ρ' L h'
def sRet (a : EX) : SX := fun ρ L h => (a ρ L h).toS ρ fun d h' => .ret d h'
def sRetN : SX := fun _ _ h => .ret .non h
def sDrop (a : EX) : SX := fun ρ L h => (a ρ L h).toS ρ fun _ h' => .nx ρ h'
def sIf (t : TX) (a b : SX) : SX := fun ρ L h => (t ρ L h).toS ρ fun c h1 => if c then a ρ L h1 else b ρ L h1
def sBrk : SX := fun ρ _ h => .brk ρ h
def sCnt : SX := fun ρ _ h => .cnt ρ h
/-- an error is let out by nothing here -/
def R.noExc {α : Type} : R α → R α
  | .exc _ _ _ => .bad
  | r => r
@[simp] theorem R.noExc_ok {α : Type} (a : α) (h : Hh) : (R.ok a h).noExc = .ok a h := rfl
@[simp] theorem R.noExc_bad {α : Type} : (R.bad : R α).noExc = .bad := rfl
/-- a target: it takes a value -/
abbrev GX := D → Rho → List Nat → Hh → R Rho
abbrev GsX := List D → Rho → List Nat → Hh → R Rho
def gVar (i : Nat) : GX := fun d ρ _ h => .ok (ρ.set i (some d)) h
def gsNil : GsX := fun ds ρ _ h => match ds with
  | [] => .ok ρ h
  | _ => .bad
def gsCons (g : GX) (r : GsX) : GsX := fun ds ρ L h => match ds with
  | d :: ds => (g d ρ L h).bind fun ρ' h' => (r ds ρ' L h').noExc
  | [] => .bad
/-- a, b = a tuple -/
def gTupX (n : Nat) (r : GsX) : GX := fun d ρ L h => match d with
  | .tup xs => if xs.length = n then r xs ρ L h else .bad
  | _ => .bad
def sAsg (a : EX) (g : GX) : SX := fun ρ L h => (a ρ L h).toS ρ fun d h1 => (g d ρ L h1).toS ρ fun ρ' h2 => .nx ρ' h2
/-- o[i] = d by values -/
def setIx (o i d : D) (L : List Nat) (h : Hh) : Option Hh := match o with
  | .ref n => if n ∈ L then none else (match h[n]? with
    | some (.lst xs) => (match i with
      | .int k => (match ixN xs.length k with
        | some j => some (h.set n (.lst (xs.set j d)))
        | none => none)
      | _ => none)
    | some (.dic kvs) => (match keyD i with
      | some k => if kvs.length < sizeLine then some (h.set n (.dic (putD kvs k d))) else none
      | none => none)
    | some (.dct kvs) => (match i with
      | .tup ds => (match keysD ds with
        | some ks => if kvs.length < sizeLine then some (h.set n (.dct (putD kvs ks d))) else none
        | none => none)
      | _ => none)
    | _ => none)
  | _ => none
/-- o[i] = e: e, then o, then i -/
def sPut (o i a : EX) : SX := fun ρ L h => (a ρ L h).toS ρ fun d h1 => (o ρ L h1).toS ρ fun x h2 => (i ρ L h2).toS ρ fun y h3 => match setIx x y d L h3 with
  | some h4 => .nx ρ h4
  | none => .bad
/-- attributes -/
def putFD (f : Str) (v : D) : List (Str × D) → List (Str × D)
  | [] => [(f, v)]
  | (g, x) :: r => if g = f then (g, v) :: r else (g, x) :: putFD f v r
def eFld (cs : List Nat) (f : Str) (o : EX) : EX := fun ρ L h => (o ρ L h).bind fun x h1 => match x with
  | .ref n => (match h1[n]? with
    | some (.ins c fs) => if c ∈ cs then (match fs.lookup f with
      | some v => .ok v h1
      | none => .bad) else .bad
    | _ => .bad)
  | _ => .bad
/-- o.f = e: e, then o -/
def sFldX (cs : List Nat) (f : Str) (o a : EX) : SX := fun ρ L h => (a ρ L h).toS ρ fun d h1 => (o ρ L h1).toS ρ fun x h2 => match x with
  | .ref n => (match h2[n]? with
    | some (.ins c fs) => if c ∈ cs ∧ fs.length < 1000 then .nx ρ (h2.set n (.ins c (putFD f d fs))) else .bad
    | _ => .bad)
  | _ => .bad
/-- x op= e -/
def sAug (i : Nat) (f : B2) (a : EX) : SX := fun ρ L h => match ρ[i]? with
  | some (some x) => (a ρ L h).toS ρ fun y h1 => (f x y h1).toS ρ fun z h2 => .nx (ρ.set i (some z)) h2
  | _ => .bad
/-! ### loops: over a list as it stands at each turn; a turn's end -/
def loopL (g : GX) (b : SX) (n : Nat) : Nat → Nat → SX
  | 0, _ => fun _ _ _ => .bad
  | f + 1, i => fun ρ L h => match h[n]? with
    | some (.lst xs) => (match xs[i]? with
      | none => .nx ρ h
      | some x => (match (g x ρ L h).toS ρ fun ρ1 h1 => b ρ1 L h1 with
        | .nx ρ2 h2 => loopL g b n f (i + 1) ρ2 L h2
        | .cnt ρ2 h2 => loopL g b n f (i + 1) ρ2 L h2
        | .brk ρ2 h2 => .nx ρ2 h2
        | r => r))
    | _ => .bad
/-- over items that stand still -/
def loopV (g : GX) (b : SX) : List D → SX
  | [] => fun ρ _ h => .nx ρ h
  | x :: xs => fun ρ L h => match (g x ρ L h).toS ρ fun ρ1 h1 => b ρ1 L h1 with
    | .nx ρ2 h2 => loopV g b xs ρ2 L h2
    | .cnt ρ2 h2 => loopV g b xs ρ2 L h2
    | .brk ρ2 h2 => .nx ρ2 h2
    | r => r
/-- an error leaves no locked loop -/
def SR.noExc : SR → SR
  | .exc _ _ _ _ => .bad
  | r => r
def keysOf {κ : Type} (f : κ → D) (kvs : List (κ × D)) : List D := kvs.map fun kv => f kv.1
def keyV : Key → D
  | .inl i => .int i
  | .inr x => .str x
def strsOf (z : Str) : List D := z.cps.toList.map fun c => .str ⟨#[c]⟩
def fuel : Nat := 100000
/-- for x in e: a list (as it stands at each turn), a tuple, a text -/
def forD (g : GX) (b : SX) (x : D) : SX := fun ρ L h => match x with
  | .tup xs => loopV g b xs ρ L h
  | .frl xs => loopV g b xs ρ L h
  | .str z => loopV g b (strsOf z) ρ L h
  | .ref n => loopL g b n fuel 0 ρ L h
  | _ => .bad
/-- a dict's keys -/
def keysAt (x : D) (h : Hh) : Option (Nat × List D) := match x with
  | .ref n => (match h[n]? with
    | some (.dic kvs) => some (n, keysOf keyV kvs)
    | some (.dct kvs) => some (n, keysOf (fun ks => .tup (ks.map keyV)) kvs)
    | _ => none)
  | _ => none
/-- for x in e, e a dict that stands (locked meanwhile) -/
def sForK (a : EX) (g : GX) (b : SX) : SX := fun ρ L h => (a ρ L h).toS ρ fun x h1 => match keysAt x h1 with
  | some (n, xs) => (loopV g b xs ρ (n :: L) h1).noExc
  | none => .bad
def sFor (a : EX) (g : GX) (b : SX) : SX := fun ρ L h => (a ρ L h).toS ρ fun x h1 => forD g b x ρ L h1
/-- range(lo, hi) as items -/
def rngD (lo hi : Int) : List D := (List.range (hi - lo).toNat).map fun (i : Nat) => .int (lo + i)
def sm62 (i : Int) : Bool := decide (-(2 ^ 62) ≤ i ∧ i < 2 ^ 62)
/-- range(..) as items -/
def rng1 : List D → Option (List D)
  | [.int j] => if sm62 j then some (rngD 0 j) else none
  | _ => none
def rng2 : List D → Option (List D)
  | [.int i, .int j] => if sm62 i && sm62 j then some (rngD i j) else none
  | _ => none
def rng3 : List D → Option (List D)
  | [.int i, .int j, .int c] => if sm62 i && sm62 j && decide (c = -1) then some ((List.range (i - j).toNat).map fun (k : Nat) => .int (i + (k : Int) * (-1))) else none
  | _ => none
def sForR (w : List D → Option (List D)) (a : AX) (g : GX) (b : SX) : SX := fun ρ L h => (a ρ L h).toS ρ fun xs h1 => match w xs with
  | some ys => loopV g b ys ρ L h1
  | none => .bad
/-! ### list comprehensions: the new list stands at n while it grows -/
def wipeR (ρ : Rho) : List Nat → Rho
  | [] => ρ
  | v :: vs => (wipeR ρ vs).set v none
def compV (g : GX) (tt : TX) (te : EX) (n : Nat) : List D → EX
  | [] => fun _ _ h => .ok (.ref n) h
  | x :: xs => fun ρ L h => (g x ρ L h).noExc.bind fun ρ1 h1 => (tt ρ1 L h1).bind fun b h2 => if b then (te ρ1 L h2).bind fun y h3 => (match h3[n]? with
      | some (.lst acc) => if acc.length < sizeLine then compV g tt te n xs ρ L (h3.set n (.lst (acc ++ [y]))) else .bad
      | _ => .bad)
    else compV g tt te n xs ρ L h2
/-- over a list as it stands at each turn -/
def compL (g : GX) (tt : TX) (te : EX) (n k : Nat) : Nat → Nat → EX
  | 0, _ => fun _ _ _ => .bad
  | f + 1, i => fun ρ L h => match h[k]? with
    | some (.lst xs) => (match xs[i]? with
      | none => .ok (.ref n) h
      | some x => (g x ρ L h).noExc.bind fun ρ1 h1 => (tt ρ1 L h1).bind fun b h2 => if b then (te ρ1 L h2).bind fun y h3 => (match h3[n]? with
          | some (.lst acc) => if acc.length < sizeLine then compL g tt te n k f (i + 1) ρ L (h3.set n (.lst (acc ++ [y]))) else .bad
          | _ => .bad)
        else compL g tt te n k f (i + 1) ρ L h2)
    | _ => .bad
def tYesX : TX := fun _ _ h => .ok true h
def compD (g : GX) (tt : TX) (te : EX) (x : D) : EX := fun ρ L h => match x with
  | .tup xs => compV g tt te h.length xs ρ L (h ++ [.lst []])
  | .frl xs => compV g tt te h.length xs ρ L (h ++ [.lst []])
  | .str z => compV g tt te h.length (strsOf z) ρ L (h ++ [.lst []])
  | .ref n => compL g tt te h.length n fuel 0 ρ L (h ++ [.lst []])
  | _ => .bad
def eComp (own : List Nat) (a : EX) (g : GX) (tt : TX) (te : EX) : EX := fun ρ L h => (a ρ L h).bind fun x h1 => (compD g tt te x (wipeR ρ own) L h1).noExc
def eCompK (own : List Nat) (a : EX) (g : GX) (tt : TX) (te : EX) : EX := fun ρ L h => (a ρ L h).bind fun x h1 => match keysAt x h1 with
  | some (n, xs) => (compV g tt te h1.length xs (wipeR ρ own) (n :: L) (h1 ++ [.lst []])).noExc
  | none => .bad
def eCompR (w : List D → Option (List D)) (own : List Nat) (a : AX) (g : GX) (tt : TX) (te : EX) : EX := fun ρ L h => (a ρ L h).bind fun xs h1 => match w xs with
  | some ys => (compV g tt te h1.length ys (wipeR ρ own) L (h1 ++ [.lst []])).noExc
  | none => .bad
/-! ### built-ins -/
def fLen : List D → Hh → R D := fun xs h => match xs with
  | [x] => (match x with
    | .str y => if y.length ≤ sizeLine then .ok (.int y.length) h else .bad
    | .ref n => (match h[n]? with
      | some (.lst ys) => .ok (.int ys.length) h
      | some (.dic kvs) => .ok (.int kvs.length) h
      | _ => .bad)
    | .tup ys => .ok (.int ys.length) h
    | .frl ys => .ok (.int ys.length) h
    | _ => .bad)
  | _ => .bad
def fInt : List D → Hh → R D := fun xs h => match xs with
  | [.int i] => .ok (.int i) h
  | [.bl b] => .ok (.int (if b then 1 else 0)) h
  | _ => .bad
def fList : List D → Hh → R D := fun xs h => match xs with
  | [x] => (match seqOf x h with
    | some ys => new (.lst ys) h
    | none => .bad)
  | _ => .bad
/-- list(d) of a dict that nobody walks -/
def eListK (a : EX) : EX := fun ρ L h => (a ρ L h).bind fun x h1 => match x with
  | .ref n => if n ∈ L then .bad else (match h1[n]? with
    | some (.dic kvs) => new (.lst (keysOf keyV kvs)) h1
    | _ => .bad)
  | _ => .bad
def fTuple : List D → Hh → R D := fun xs h => match xs with
  | [.tup ys] => .ok (.tup ys) h
  | [x] => (match lstOf x h with
    | some ys => .ok (.tup ys) h
    | none => .bad)
  | _ => .bad
def fMin2 : List D → Hh → R D := fun xs h => match xs with
  | [.int i, .int j] => .ok (.int (if j < i then j else i)) h
  | _ => .bad
def fMax2 : List D → Hh → R D := fun xs h => match xs with
  | [.int i, .int j] => .ok (.int (if j > i then j else i)) h
  | _ => .bad
def intsD : List D → Option (List Int)
  | [] => some []
  | .int i :: r => (intsD r).map (i :: ·)
  | _ => none
def blsD : List D → Option (List Bool)
  | [] => some []
  | .bl i :: r => (blsD r).map (i :: ·)
  | _ => none
def strsD : List D → Option (List Str)
  | [] => some []
  | .str i :: r => (strsD r).map (i :: ·)
  | _ => none
def fSum : List D → Hh → R D := fun xs h => match xs with
  | [x] => (match (lstOf x h).bind intsD with
    | some ns => .ok (.int ns.sum) h
    | none => .bad)
  | _ => .bad
def fAll : List D → Hh → R D := fun xs h => match xs with
  | [x] => (match (lstOf x h).bind blsD with
    | some ns => .ok (.bl (ns.all id)) h
    | none => .bad)
  | _ => .bad
def fAny : List D → Hh → R D := fun xs h => match xs with
  | [x] => (match (lstOf x h).bind blsD with
    | some ns => .ok (.bl (ns.any id)) h
    | none => .bad)
  | _ => .bad
/-- texts in their order -/
def leS (x y : Str) : Bool := !PySem.Spec.ltCps y.cps.toList x.cps.toList
def sortS (xs : List Str) : List Str := xs.mergeSort leS
/-- sorted: a list of texts, a dict of texts (below 64) -/
def fSortS : List D → Hh → R D := fun xs h => match xs with
  | [x] => (match (lstOf x h).bind strsD with
    | some ss => if ss.length < 64 then new (.lst ((sortS ss).map .str)) h else .bad
    | none => .bad)
  | _ => .bad
def fSortK : List D → Hh → R D := fun xs h => match xs with
  | [.ref n] => (match h[n]? with
    | some (.dic kvs) => (match strsD (keysOf keyV kvs) with
      | some ss => if ss.length < 64 then new (.lst ((sortS ss).map .str)) h else .bad
      | none => .bad)
    | _ => .bad)
  | _ => .bad
/-- the type's name -/
def tyD (x : D) (h : Hh) : Option String := match x with
  | .non => some "NoneType"
  | .bl _ => some "bool"
  | .int _ => some "int"
  | .str _ => some "str"
  | .tup _ => some "tuple"
  | .frl _ => some "list"
  | .ref n => (match h[n]? with
    | some (.lst _) => some "list"
    | some (.dic _) => some "dict"
    | _ => none)
/-- isinstance with built-in types -/
def isB (a : String) (ts : List String) : Bool := ts.any fun t => a == t || (a == "bool" && t == "int")
def uIsi (ts : List String) : D → Hh → R D := fun x h => match tyD x h with
  | some a => .ok (.bl (isB a ts)) h
  | none => .bad
/-- o.append(e) -/
def eApp (o a : EX) : EX := fun ρ L h => (o ρ L h).bind fun x h1 => match x with
  | .ref n => (match h1[n]? with
    | some (.lst _) => (a ρ L h1).bind fun y h2 => (match h2[n]? with
      | some (.lst xs) => if xs.length < sizeLine then .ok .non (h2.set n (.lst (xs ++ [y]))) else .bad
      | _ => .bad)
    | _ => .bad)
  | _ => .bad
/-- o.join(e) -/
def eJoin (o a : EX) : EX := fun ρ L h => (o ρ L h).bind fun x h1 => match x with
  | .str s => (a ρ L h1).bind fun y h2 => (match (seqOf y h2).bind strsD with
    | some ss => if (ss.map (·.length)).sum + ss.length * s.length ≤ 16777216 then .ok (.str (Txt.join s ss)) h2 else .bad
    | none => .bad)
  | _ => .bad
/-! ### errors -/
/-- raise C(e), raise C() -/
def sRaise (c : Nat) (a : EX) : SX := fun ρ L h => (a ρ L h).toS ρ fun d h1 => .exc c (some d) ρ h1
def sRaise0 (c : Nat) : SX := fun ρ _ h => .exc c none ρ h
/-- within an except suite: the caught error's field, is it of a class -/
def eXf (cs : List Nat) (c : Nat) (p : Option D) : EX := fun _ _ h => if c ∈ cs then (match p with
  | some d => .ok d h
  | none => .bad) else .bad
def eXi (cs : List Nat) (is : Nat → Bool) (c : Nat) : EX := fun _ _ h => if c ∈ cs then .ok (.bl (is c)) h else .bad
/-- a suite: some stores, then nothing | a return -/
def asgs : List (Nat × EX) → SX → SX
  | [], s => s
  | (i, a) :: r, s => fun ρ L h => (a ρ L h).toS ρ fun d h1 => asgs r s (ρ.set i (some d)) L h1
/-- an except clause: which classes, the name's slot, the suite by what the error is -/
structure Hd where
  is : Nat → Bool
  slot : Option Nat
  suite : Nat → Option D → SX
def SR.wipe (i : Nat) : SR → SR
  | .nx ρ h => .nx (ρ.set i none) h
  | .brk ρ h => .brk (ρ.set i none) h
  | .cnt ρ h => .cnt (ρ.set i none) h
  | .ret d h => .ret d h
  | _ => .bad
def Hd.run (x : Hd) (c : Nat) (p : Option D) : SX := fun ρ L h => match x.slot with
  | some i => if i < ρ.length then (x.suite c p (ρ.set i none) L h).wipe i else .bad
  | none => (x.suite c p ρ L h).noExc
def catch_ : List Hd → Nat → Option D → SX
  | [], c, p => fun ρ _ h => .exc c p ρ h
  | x :: xs, c, p => if x.is c then x.run c p else catch_ xs c p
def sTry (n : Nat) (b : SX) (hs : List Hd) : SX := fun ρ L h => match b ρ L h with
  | .exc c p ρ' h' => if c < n then catch_ hs c p ρ' L h' else .bad
  | r => r
/-! ### a def's body -/
def SR.fin : SR → R D
  | .nx _ h' => .ok .non h'
  | .ret d h' => .ok d h'
  | .exc c p _ h' => .exc c p h'
  | _ => .bad
def bodyX (slots : Nat) (b : SX) : FX := fun ds L h => (b (ds.map some ++ List.replicate (slots - ds.length) none) L h).fin
@[simp] theorem SR.fin_nx (ρ : Rho) (h : Hh) : (SR.nx ρ h).fin = .ok .non h := rfl
@[simp] theorem SR.fin_ret (d : D) (h : Hh) : (SR.ret d h).fin = .ok d h := rfl
@[simp] theorem SR.fin_exc (c : Nat) (p : Option D) (ρ : Rho) (h : Hh) : (SR.exc c p ρ h).fin = .exc c p h := rfl
/-- the defs of a text, to a depth -/
def callF (tbl : (Nat → FX) → Nat → FX) : Nat → Nat → FX
  | 0 => fun _ _ _ _ => .bad
  | k + 1 => tbl (callF tbl k)
theorem callF_succ (tbl : (Nat → FX) → Nat → FX) (k : Nat) : callF tbl (k + 1) = tbl (callF tbl k) := rfl
end Mi

/-! Mi, part B: what data stands for in the layer's heap, and how a reading follows the small semantics. -/
namespace Mi
open PySem PySem.Spec PyProof.Rows L2

/-! ### data in the abstract heap -/
/-- a list that nobody changes -/
def SqF (K : PySem.W.Frag) (H : Hp) (a : Addr) (vs : List V) : Prop :=
  (∃ o, H a = some (.frz o (.lst vs))) ∨
    ∃ (o : Obj) (its : Array Value) (n : Nat), K.lookup a = some o ∧ o.cls = .type "list" ∧ o.dict = none ∧ o.data = .seq its n ∧ its.size ≤ sizeLine ∧ Vals vs its.toList
theorem SqF.l {K : PySem.W.Frag} {H : Hp} {a : Addr} {vs : List V} (h : SqF K H a vs) : SqL K H a vs := by
  rcases h with h | h
  · exact .inl (.inr h)
  · exact .inr h
/-- a tuple: made by the run, or an empty one -/
def SqD (K : PySem.W.Frag) (H : Hp) (a : Addr) (vs : List V) : Prop := H a = some (.tup vs) ∨ (vs = [] ∧ SqT K H a vs)
theorem SqD.t {K : PySem.W.Frag} {H : Hp} {a : Addr} {vs : List V} (h : SqD K H a vs) : SqT K H a vs := h.elim SqT.of fun x => x.2
mutual
inductive RD (K : PySem.W.Frag) (H : Hp) (m : List Addr) : D → V → Prop
  | non : RD K H m .non .non
  | bl (b : Bool) : RD K H m (.bl b) (.bl b)
  | int (i : Int) : RD K H m (.int i) (.int i)
  | str (x : Str) : RD K H m (.str x) (.str x)
  | tup {a : Addr} {xs : List D} {vs : List V} (h : SqD K H a vs) (t : RDs K H m xs vs) : RD K H m (.tup xs) (.ref a)
  | frl {a : Addr} {xs : List D} {vs : List V} (h : SqF K H a vs) (t : RDs K H m xs vs) : RD K H m (.frl xs) (.ref a)
  | ref {n : Nat} {a : Addr} (h : m[n]? = some a) : RD K H m (.ref n) (.ref a)
inductive RDs (K : PySem.W.Frag) (H : Hp) (m : List Addr) : List D → List V → Prop
  | nil : RDs K H m [] []
  | cons {d : D} {ds : List D} {v : V} {vs : List V} (h : RD K H m d v) (t : RDs K H m ds vs) : RDs K H m (d :: ds) (v :: vs)
end
/-- what stays: tuples, lists that nobody changes, what errors hold -/
structure PersD (K : PySem.W.Frag) (H H' : Hp) : Prop where
  tup : ∀ a vs, SqD K H a vs → SqD K H' a vs
  frl : ∀ a vs, SqF K H a vs → SqF K H' a vs
structure Pers (K : PySem.W.Frag) (H H' : Hp) : Prop extends PersD K H H' where
  xd : ∀ a fs, H a = some (.xd fs) → H' a = some (.xd fs)
  frz : ∀ a o u, H a = some (.frz o u) → H' a = some (.frz o u)
theorem Pers.refl {K : PySem.W.Frag} (H : Hp) : Pers K H H := ⟨⟨fun _ _ h => h, fun _ _ h => h⟩, fun _ _ h => h, fun _ _ _ h => h⟩
theorem Pers.trans {K : PySem.W.Frag} {H H1 H2 : Hp} (a : Pers K H H1) (b : Pers K H1 H2) : Pers K H H2 :=
  ⟨⟨fun x vs h => b.tup x vs (a.tup x vs h), fun x vs h => b.frl x vs (a.frl x vs h)⟩, fun x fs h => b.xd x fs (a.xd x fs h), fun x o u h => b.frz x o u (a.frz x o u h)⟩
/-- the numbers of things stay -/
abbrev Le (m m' : List Addr) : Prop := ∀ (n : Nat) (a : Addr), m[n]? = some a → m'[n]? = some a
theorem Le.refl (m : List Addr) : Le m m := fun _ _ h => h
theorem Le.trans {m m1 m2 : List Addr} (a : Le m m1) (b : Le m1 m2) : Le m m2 := fun n x h => b n x (a n x h)
theorem Le.app (m r : List Addr) : Le m (m ++ r) := fun n a h => by
  have hl : n < m.length := (List.getElem?_eq_some_iff.mp h).1
  rw [List.getElem?_append_left hl]
  exact h
mutual
theorem RD.monoD {K : PySem.W.Frag} {H H' : Hp} {m m' : List Addr} (p : PersD K H H') (l : Le m m') : ∀ {d : D} {v : V}, RD K H m d v → RD K H' m' d v
  | _, _, .non => .non
  | _, _, .bl b => .bl b
  | _, _, .int i => .int i
  | _, _, .str x => .str x
  | _, _, .tup h t => .tup (p.tup _ _ h) (RDs.monoD p l t)
  | _, _, .frl h t => .frl (p.frl _ _ h) (RDs.monoD p l t)
  | _, _, .ref h => .ref (l _ _ h)
theorem RDs.monoD {K : PySem.W.Frag} {H H' : Hp} {m m' : List Addr} (p : PersD K H H') (l : Le m m') : ∀ {ds : List D} {vs : List V}, RDs K H m ds vs → RDs K H' m' ds vs
  | _, _, .nil => .nil
  | _, _, .cons h t => .cons (RD.monoD p l h) (RDs.monoD p l t)
end
theorem RD.mono {K : PySem.W.Frag} {H H' : Hp} {m m' : List Addr} (p : Pers K H H') (l : Le m m') {d : D} {v : V} (r : RD K H m d v) : RD K H' m' d v := r.monoD p.toPersD l
theorem RDs.mono {K : PySem.W.Frag} {H H' : Hp} {m m' : List Addr} (p : Pers K H H') (l : Le m m') {ds : List D} {vs : List V} (r : RDs K H m ds vs) : RDs K H' m' ds vs := r.monoD p.toPersD l
theorem RDs.length {K : PySem.W.Frag} {H : Hp} {m : List Addr} : ∀ {ds : List D} {vs : List V}, RDs K H m ds vs → ds.length = vs.length
  | _, _, .nil => rfl
  | _, _, .cons _ t => congrArg (· + 1) (RDs.length t)
theorem RDs.get {K : PySem.W.Frag} {H : Hp} {m : List Addr} : ∀ {ds : List D} {vs : List V} {i : Nat} {d : D}, RDs K H m ds vs → ds[i]? = some d → ∃ v, vs[i]? = some v ∧ RD K H m d v
  | _, _, _, _, .nil, e => by simp at e
  | _, _, 0, _, .cons r _, e => by simp at e; subst e; exact ⟨_, rfl, r⟩
  | _, _, i + 1, x, .cons _ t, e => by
    obtain ⟨u, h1, h2⟩ := RDs.get (i := i) (d := x) t (by simpa using e)
    exact ⟨u, by simpa using h1, h2⟩
theorem RDs.getV {K : PySem.W.Frag} {H : Hp} {m : List Addr} : ∀ {ds : List D} {vs : List V} {i : Nat} {v : V}, RDs K H m ds vs → vs[i]? = some v → ∃ d, ds[i]? = some d ∧ RD K H m d v
  | _, _, _, _, .nil, e => by simp at e
  | _, _, 0, _, .cons r _, e => by simp at e; subst e; exact ⟨_, rfl, r⟩
  | _, _, i + 1, x, .cons _ t, e => by
    obtain ⟨u, h1, h2⟩ := RDs.getV (i := i) (v := x) t (by simpa using e)
    exact ⟨u, by simpa using h1, h2⟩
theorem RDs.none_of {K : PySem.W.Frag} {H : Hp} {m : List Addr} {ds : List D} {vs : List V} {i : Nat} (r : RDs K H m ds vs) (e : ds[i]? = none) : vs[i]? = none := by
  have h1 := r.length
  have h2 := List.getElem?_eq_none_iff.mp e
  exact List.getElem?_eq_none_iff.mpr (by omega)
theorem RDs.append {K : PySem.W.Frag} {H : Hp} {m : List Addr} : ∀ {ds es : List D} {vs us : List V}, RDs K H m ds vs → RDs K H m es us → RDs K H m (ds ++ es) (vs ++ us)
  | _, _, _, _, .nil, s => s
  | _, _, _, _, .cons r t, s => .cons r (RDs.append t s)
theorem RDs.take {K : PySem.W.Frag} {H : Hp} {m : List Addr} : ∀ {ds : List D} {vs : List V} (n : Nat), RDs K H m ds vs → RDs K H m (ds.take n) (vs.take n)
  | _, _, 0, _ => .nil
  | _, _, _ + 1, .nil => .nil
  | _, _, n + 1, .cons r t => .cons r (RDs.take n t)
theorem RDs.drop {K : PySem.W.Frag} {H : Hp} {m : List Addr} : ∀ {ds : List D} {vs : List V} (n : Nat), RDs K H m ds vs → RDs K H m (ds.drop n) (vs.drop n)
  | _, _, 0, r => r
  | _, _, _ + 1, .nil => .nil
  | _, _, n + 1, .cons _ t => RDs.drop n t
theorem RDs.set {K : PySem.W.Frag} {H : Hp} {m : List Addr} {d : D} {v : V} (r : RD K H m d v) : ∀ {ds : List D} {vs : List V} (n : Nat), RDs K H m ds vs → RDs K H m (ds.set n d) (vs.set n v)
  | _, _, _, .nil => .nil
  | _, _, 0, .cons _ t => .cons r t
  | _, _, n + 1, .cons q t => .cons q (RDs.set r n t)
theorem RDs.snoc {K : PySem.W.Frag} {H : Hp} {m : List Addr} {ds : List D} {vs : List V} {d : D} {v : V} (t : RDs K H m ds vs) (r : RD K H m d v) : RDs K H m (ds ++ [d]) (vs ++ [v]) := t.append (.cons r .nil)

/-- pairs with keys -/
abbrev RK {κ : Type} (K : PySem.W.Frag) (H : Hp) (m : List Addr) : List (κ × D) → List (κ × V) → Prop := Paired fun p q => p.1 = q.1 ∧ RD K H m p.2 q.2
theorem RK.monoD {κ : Type} {K : PySem.W.Frag} {H H' : Hp} {m m' : List Addr} (p : PersD K H H') (l : Le m m') {ds : List (κ × D)} {vs : List (κ × V)} (r : RK K H m ds vs) : RK K H' m' ds vs :=
  Paired.mapP r fun _ _ q => ⟨q.1, q.2.monoD p l⟩
theorem RK.mono {κ : Type} {K : PySem.W.Frag} {H H' : Hp} {m m' : List Addr} (p : Pers K H H') (l : Le m m') {ds : List (κ × D)} {vs : List (κ × V)} (r : RK K H m ds vs) : RK K H' m' ds vs :=
  Paired.mapP r fun _ _ q => ⟨q.1, q.2.mono p l⟩
theorem RK.length {κ : Type} {K : PySem.W.Frag} {H : Hp} {m : List Addr} {ds : List (κ × D)} {vs : List (κ × V)} (r : RK K H m ds vs) : ds.length = vs.length := Paired.length r
/-- the number of a class | the field of an error's class -/
structure Gx where
  ca : Nat → Addr
  xf : Nat → Str
/-- a changeable thing -/
def RO (K : PySem.W.Frag) (G : Gx) (H : Hp) (m : List Addr) : Ob → HO → Prop
  | .lst xs, .lst vs => RDs K H m xs vs
  | .dic kvs, .dK kvs' => RK K H m kvs kvs'
  | .dct kvs, .dT kvs' => RK K H m kvs kvs'
  | .ins c fs, .ins C _ fs' => C = G.ca c ∧ RK K H m fs fs'
  | _, _ => False
theorem RO.monoD {K : PySem.W.Frag} {G : Gx} {H H' : Hp} {m m' : List Addr} (p : PersD K H H') (l : Le m m') {o : Ob} {u : HO} (r : RO K G H m o u) : RO K G H' m' o u := by
  cases o <;> cases u <;> first | exact r.elim | skip
  · exact RDs.monoD p l r
  · exact RK.monoD p l r
  · exact RK.monoD p l r
  · exact ⟨r.1, RK.monoD p l r.2⟩
theorem RO.mono {K : PySem.W.Frag} {G : Gx} {H H' : Hp} {m m' : List Addr} (p : Pers K H H') (l : Le m m') {o : Ob} {u : HO} (r : RO K G H m o u) : RO K G H' m' o u := r.monoD p.toPersD l
def Ob.isDic : Ob → Bool
  | .dic _ => true
  | .dct _ => true
  | _ => false
/-- what may change, or be locked and let go -/
def Chg : HO → Prop
  | .lst _ => True
  | .dK _ => True
  | .dT _ => True
  | .ins _ _ _ => True
  | _ => False
theorem RO.chg {K : PySem.W.Frag} {G : Gx} {H : Hp} {m : List Addr} {o : Ob} {u : HO} (r : RO K G H m o u) : Chg u := by
  cases o <;> cases u <;> first | exact r.elim | exact True.intro
theorem pers_upd {K : PySem.W.Frag} {H : Hp} {a : Addr} {u : HO} (h : ∀ u0, H a = some u0 → Chg u0) : Pers K H (upd H a u) := by
  refine ⟨⟨fun b vs t => ?_, fun b vs t => ?_⟩, fun b fs t => ?_, fun b o u t => ?_⟩
  · rcases t with t | ⟨rfl, (t | ⟨o, t⟩) | t⟩
    · refine .inl ?_
      rw [upd_ne (fun e => by subst e; exact h _ t)]
      exact t
    · refine .inl ?_
      rw [upd_ne (fun e => by subst e; exact h _ t)]
      exact t
    · refine .inr ⟨rfl, .inl (.inr ⟨o, ?_⟩)⟩
      rw [upd_ne (fun e => by subst e; exact h _ t)]
      exact t
    · exact .inr ⟨rfl, .inr t⟩
  · rcases t with ⟨o, t⟩ | t
    · refine .inl ⟨o, ?_⟩
      rw [upd_ne (fun e => by subst e; exact h _ t)]
      exact t
    · exact .inr t
  · rw [upd_ne (fun e => by subst e; exact h _ t)]
    exact t
  · rw [upd_ne (fun e => by subst e; exact h _ t)]
    exact t
theorem pers_new {K : PySem.W.Frag} {H : Hp} {a : Addr} {u : HO} (h : H a = none) : Pers K H (upd H a u) := pers_upd fun u0 e => by rw [h] at e; cases e

/-- the changeable things of h stand in H, those of L locked -/
structure RH (K : PySem.W.Frag) (G : Gx) (L : List Nat) (m : List Addr) (h : Hh) (H : Hp) : Prop where
  len : m.length = h.length
  nd : m.Nodup
  at_ : ∀ (n : Nat) (o : Ob) (a : Addr), h[n]? = some o → m[n]? = some a → ∃ u, RO K G H m o u ∧ (n ∈ L → o.isDic = true ∧ ∃ od, H a = some (.frz od u)) ∧ (n ∉ L → H a = some u)
section
variable {K : PySem.W.Frag} {G : Gx} {L : List Nat} {m : List Addr} {h : Hh} {H : Hp} {n : Nat} {o : Ob} {a p : Addr} {u : HO}
theorem RH.adr (r : RH K G L m h H) (e : h[n]? = some o) : ∃ a, m[n]? = some a := by
  have h1 := (List.getElem?_eq_some_iff.mp e).1
  exact ⟨_, List.getElem?_eq_getElem (r.len ▸ h1)⟩
theorem RH.obj (r : RH K G L m h H) (e : m[n]? = some a) : ∃ o, h[n]? = some o := by
  have h1 := (List.getElem?_eq_some_iff.mp e).1
  exact ⟨_, List.getElem?_eq_getElem (r.len ▸ h1)⟩
/-- it can be read -/
theorem RH.rd (r : RH K G L m h H) (e : h[n]? = some o) (ea : m[n]? = some a) : ∃ u, RO K G H m o u ∧ Rd H a u := by
  obtain ⟨u, q, h1, h2⟩ := r.at_ n o a e ea
  refine ⟨u, q, ?_⟩
  by_cases z : n ∈ L
  · exact .inr (h1 z).2
  · exact .inl (h2 z)
theorem RH.tracked (r : RH K G L m h H) (ea : m[n]? = some a) : ∃ u, H a = some u := by
  obtain ⟨o, e⟩ := r.obj ea
  obtain ⟨u, _, h1 | ⟨od, h1⟩⟩ := r.rd e ea
  · exact ⟨_, h1⟩
  · exact ⟨_, h1⟩
theorem RH.inj (r : RH K G L m h H) {k : Nat} (ea : m[n]? = some a) (eb : m[k]? = some a) : n = k := by
  obtain ⟨h1, e1⟩ := List.getElem?_eq_some_iff.mp ea
  obtain ⟨h2, e2⟩ := List.getElem?_eq_some_iff.mp eb
  exact (List.getElem_inj r.nd).mp (e1.trans e2.symm)
/-- a new thing -/
theorem RH.new (r : RH K G L m h H) (hp : H p = none) (q : RO K G (upd H p u) (m ++ [p]) o u) (hL : ∀ k ∈ L, k < h.length) : RH K G L (m ++ [p]) (h ++ [o]) (upd H p u) := by
  have np : ∀ (k : Nat) (b : Addr), m[k]? = some b → b ≠ p := fun k b e z => by
    subst z
    obtain ⟨u, hu⟩ := r.tracked e
    rw [hp] at hu
    cases hu
  refine ⟨by simp [r.len], ?_, fun k o' b e eb => ?_⟩
  · refine List.nodup_append.mpr ⟨r.nd, by simp, fun x hx y hy => ?_⟩
    obtain ⟨k, hk⟩ := List.getElem?_of_mem hx
    have e : y = p := by simpa using hy
    subst e
    exact np k x hk
  · by_cases hk : k < h.length
    · rw [List.getElem?_append_left hk] at e
      rw [List.getElem?_append_left (r.len ▸ hk)] at eb
      obtain ⟨u', q', h1, h2⟩ := r.at_ k o' b e eb
      refine ⟨u', q'.mono (pers_new hp) (Le.app _ _), fun z => ?_, fun z => ?_⟩
      · obtain ⟨i1, od, i2⟩ := h1 z
        exact ⟨i1, od, by rw [upd_ne (np k b eb)]; exact i2⟩
      · rw [upd_ne (np k b eb)]
        exact h2 z
    · have hk2 : k < (h ++ [o]).length := (List.getElem?_eq_some_iff.mp e).1
      have ek : k = h.length := by simp at hk2; omega
      subst ek
      rw [List.getElem?_append_right (Nat.le_refl _)] at e
      rw [List.getElem?_append_right (Nat.le_of_eq r.len)] at eb
      simp [r.len] at e eb
      subst e eb
      exact ⟨u, q, fun z => absurd (hL _ z) (Nat.lt_irrefl _), fun _ => upd_same⟩
/-- a thing is written -/
theorem RH.put (r : RH K G L m h H) (e : h[n]? = some o) (ea : m[n]? = some a) (hn : n ∉ L) {o' : Ob} {u' : HO} (q : RO K G H m o' u') : RH K G L m (h.set n o') (upd H a u') ∧ Pers K H (upd H a u') := by
  obtain ⟨u0, q0, h1, h2⟩ := r.at_ n o a e ea
  have P : Pers K H (upd H a u') := pers_upd fun u1 e1 => by
    rw [h2 hn] at e1
    cases e1
    exact q0.chg
  refine ⟨⟨by simp [r.len], r.nd, fun k ok b ek eb => ?_⟩, P⟩
  by_cases hk : k = n
  · subst hk
    have e2 : b = a := by rw [ea] at eb; exact (Option.some.inj eb).symm
    subst e2
    have hl := (List.getElem?_eq_some_iff.mp e).1
    rw [List.getElem?_set_self hl] at ek
    cases ek
    exact ⟨u', q.mono P (Le.refl _), fun z => absurd z hn, fun _ => upd_same⟩
  · rw [List.getElem?_set_ne (Ne.symm hk)] at ek
    have nb : b ≠ a := fun z => hk (by subst z; exact r.inj eb ea)
    obtain ⟨u1, q1, i1, i2⟩ := r.at_ k ok b ek eb
    refine ⟨u1, q1.mono P (Le.refl _), fun z => ?_, fun z => ?_⟩
    · obtain ⟨j1, od, j2⟩ := i1 z
      exact ⟨j1, od, by rw [upd_ne nb]; exact j2⟩
    · rw [upd_ne nb]
      exact i2 z
end

/-! ### slots -/
def RS (K : PySem.W.Frag) (H : Hp) (m : List Addr) (ρ : Rho) (σ : L2.St) : Prop := σ.length = ρ.length ∧ ∀ (i : Nat) (d : D), ρ[i]? = some (some d) → ∃ v, σ[i]? = some (some v) ∧ RD K H m d v
theorem RS.mono {K : PySem.W.Frag} {H H' : Hp} {m m' : List Addr} {ρ : Rho} {σ : L2.St} (p : Pers K H H') (l : Le m m') (r : RS K H m ρ σ) : RS K H' m' ρ σ :=
  ⟨r.1, fun i d e => let ⟨v, h1, h2⟩ := r.2 i d e; ⟨v, h1, h2.mono p l⟩⟩
theorem RS.monoD {K : PySem.W.Frag} {H H' : Hp} {m m' : List Addr} {ρ : Rho} {σ : L2.St} (p : PersD K H H') (l : Le m m') (r : RS K H m ρ σ) : RS K H' m' ρ σ :=
  ⟨r.1, fun i d e => let ⟨v, h1, h2⟩ := r.2 i d e; ⟨v, h1, h2.monoD p l⟩⟩
theorem RS.set {K : PySem.W.Frag} {H : Hp} {m : List Addr} {ρ : Rho} {σ : L2.St} {d : D} {v : V} (r : RS K H m ρ σ) (i : Nat) (q : RD K H m d v) : RS K H m (ρ.set i (some d)) (σ.set i (some v)) := by
  refine ⟨by simp [r.1], fun j d' e => ?_⟩
  by_cases hj : i = j
  · subst hj
    have hl : i < (ρ.set i (some d)).length := (List.getElem?_eq_some_iff.mp e).1
    rw [List.length_set] at hl
    rw [List.getElem?_set_self hl] at e
    cases e
    exact ⟨v, List.getElem?_set_self (r.1 ▸ hl), q⟩
  · rw [List.getElem?_set_ne hj] at e ⊢
    exact r.2 j d' e
theorem RS.del {K : PySem.W.Frag} {H : Hp} {m : List Addr} {ρ : Rho} {σ : L2.St} (r : RS K H m ρ σ) (i : Nat) (w : Option V) : RS K H m (ρ.set i none) (σ.set i w) := by
  refine ⟨by simp [r.1], fun j d' e => ?_⟩
  by_cases hj : i = j
  · subst hj
    have hl : i < (ρ.set i none).length := (List.getElem?_eq_some_iff.mp e).1
    rw [List.length_set] at hl
    rw [List.getElem?_set_self hl] at e
    cases e
  · rw [List.getElem?_set_ne hj] at e ⊢
    exact r.2 j d' e

/-! ### how a reading follows the small semantics -/
/-- what stands around: the classes, the wish about errors, a fact that stays -/
structure Zx (K : PySem.W.Frag) where
  G : Gx
  W : WX
  I : List Addr → Hp → Prop
  keep : ∀ {m m' : List Addr} {H H' : Hp}, I m H → Le m m' → Pers K H H' → I m' H'
  /-- the slot of a caught error, its address -/
  J : Option (Nat × Addr)
class NoJ {K : PySem.W.Frag} (Z : Zx K) : Prop where
  h : Z.J = none
/-- an error of class c holding p -/
def RX (K : PySem.W.Frag) (G : Gx) (c : Nat) (p : Option D) (m : List Addr) (H : Hp) (cls : Value) (d : Option Addr) : Prop :=
  cls = .ref (G.ca c) ∧ match p with
    | none => d = none
    | some q => ∃ dx v, d = some dx ∧ H dx = some (.xd [(G.xf c, v)]) ∧ RD K H m q v
structure Stt (K : PySem.W.Frag) (Z : Zx K) (L : List Nat) (m : List Addr) (h : Hh) (ρ : Rho) (σ : L2.St) (H : Hp) : Prop where
  rh : RH K Z.G L m h H
  rs : RS K H m ρ σ
  iv : Z.I m H
  lk : ∀ k ∈ L, k < h.length
  jv : ∀ p, Z.J = some p → σ[p.1]? = some (some (V.ref p.2))
theorem Stt.on {K : PySem.W.Frag} {Z : Zx K} {L : List Nat} {m m1 : List Addr} {h h1 : Hh} {ρ : Rho} {σ : L2.St} {H H1 : Hp} (S : Stt K Z L m h ρ σ H) (l : Le m m1) (p : Pers K H H1) (r : RH K Z.G L m1 h1 H1) : Stt K Z L m1 h1 ρ σ H1 :=
  ⟨r, S.rs.mono p l, Z.keep S.iv l p, fun k hk => by
    have h1 := S.lk k hk
    obtain ⟨o, ho⟩ : ∃ o, h[k]? = some o := ⟨_, List.getElem?_eq_getElem h1⟩
    obtain ⟨a, ha⟩ := S.rh.adr ho
    obtain ⟨o', ho'⟩ := RH.obj r (l k a ha)
    exact (List.getElem?_eq_some_iff.mp ho').1, S.jv⟩
abbrev Rl (α β : Type) := List Addr → Hp → α → β → Prop
/-- behind r: what is wanted holds of what r says -/
def Aft {α β : Type} (K : PySem.W.Frag) (Rel : Rl α β) (G : Gx) (L : List Nat) (m : List Addr) (H : Hp) (r : R α) (Q : β → Hp → Prop) (E : XK) : Prop := match r with
  | .ok d h' => ∀ m' H' v, Le m m' → Pers K H H' → RH K G L m' h' H' → Rel m' H' d v → Q v H'
  | .exc c p h' => ∀ m' H' cls d, Le m m' → Pers K H H' → RH K G L m' h' H' → RX K G c p m' H' cls d → E cls d H'
  | .bad => False
theorem Aft.mono {α β : Type} {K : PySem.W.Frag} {Rel : Rl α β} {G : Gx} {L : List Nat} {m m1 : List Addr} {H H1 : Hp} {r : R α} {Q : β → Hp → Prop} {E : XK} (A : Aft K Rel G L m H r Q E) (l : Le m m1) (p : Pers K H H1) : Aft K Rel G L m1 H1 r Q E := by
  cases r with
  | ok d h' => exact fun m' H' v l' p' r' q => A m' H' v (l.trans l') (p.trans p') r' q
  | exc c q h' => exact fun m' H' cls d l' p' r' x => A m' H' cls d (l.trans l') (p.trans p') r' x
  | bad => exact A
/-- the wish about errors at these slots -/
abbrev wS (W : WX) (σ : L2.St) : XK := fun cls d H => W cls d σ H
/-- the reading of r -/
def Rg {α β : Type} (K : PySem.W.Frag) (Rel : Rl α β) (Z : Zx K) (r : Rho → List Nat → Hh → R α) : L2.St → Hp → (β → Hp → Prop) → Prop := fun σ H Q => ∃ m L h ρ, Stt K Z L m h ρ σ H ∧ Aft K Rel Z.G L m H (r ρ L h) Q (wS Z.W σ)
abbrev rD (K : PySem.W.Frag) : Rl D V := fun m H d v => RD K H m d v
abbrev rDs (K : PySem.W.Frag) : Rl (List D) (List V) := fun m H d v => RDs K H m d v
abbrev rE (α : Type) : Rl α α := fun _ _ a b => a = b
section
variable {α β γ δ : Type} {K : PySem.W.Frag} {RA : Rl α β} {RC : Rl γ δ} {Z : Zx K} {L : List Nat} {m : List Addr} {h : Hh} {ρ : Rho} {σ : L2.St} {H : Hp}
theorem Aft.ok {a : α} {b : β} {Q : β → Hp → Prop} {E : XK} (S : Stt K Z L m h ρ σ H) (A : Aft K RA Z.G L m H (.ok a h) Q E) (q : RA m H a b) : Q b H := A m H b (Le.refl m) (Pers.refl H) S.rh q
theorem Rg.bind {ra : Rho → List Nat → Hh → R α} {f : α → Hh → R γ} {Q : δ → Hp → Prop} {F : β → Hp → Prop} (S : Stt K Z L m h ρ σ H) (A : Aft K RC Z.G L m H ((ra ρ L h).bind f) Q (wS Z.W σ))
    (k : ∀ m1 h1 H1 a x, Stt K Z L m1 h1 ρ σ H1 → Le m m1 → Pers K H H1 → RA m1 H1 a x → Aft K RC Z.G L m1 H1 (f a h1) Q (wS Z.W σ) → F x H1) : Rg K RA Z ra σ H F := by
  refine ⟨m, L, h, ρ, S, ?_⟩
  cases e : ra ρ L h with
  | ok a h1 =>
    rw [e] at A
    exact fun m1 H1 v l p r q => k m1 h1 H1 a v (S.on l p r) l p q (Aft.mono (A : Aft K RC Z.G L m H (f a h1) Q (wS Z.W σ)) l p)
  | exc c q h1 =>
    rw [e] at A
    exact A
  | bad =>
    rw [e] at A
    exact A.elim
theorem Rg.bindE {ra : Rho → List Nat → Hh → R α} {f : α → Hh → R γ} {Q : δ → Hp → Prop} {F : β → Hp → Prop} (S : Stt K Z L m h ρ σ H) (A : Aft K RC Z.G L m H ((ra ρ L h).bind f) Q (wS Z.W σ))
    (k : ∀ m1 h1 H1 a x, ra ρ L h = .ok a h1 → Stt K Z L m1 h1 ρ σ H1 → Le m m1 → Pers K H H1 → RA m1 H1 a x → Aft K RC Z.G L m1 H1 (f a h1) Q (wS Z.W σ) → F x H1) : Rg K RA Z ra σ H F := by
  refine ⟨m, L, h, ρ, S, ?_⟩
  cases e : ra ρ L h with
  | ok a h1 =>
    rw [e] at A
    exact fun m1 H1 v l p r q => k m1 h1 H1 a v e (S.on l p r) l p q (Aft.mono (A : Aft K RC Z.G L m H (f a h1) Q (wS Z.W σ)) l p)
  | exc c q h1 =>
    rw [e] at A
    exact A
  | bad =>
    rw [e] at A
    exact A.elim
/-- a heap grows by a thing that has no number -/
theorem RH.more {G : Gx} {p : Addr} {u : HO} (r : RH K G L m h H) (hp : H p = none) : RH K G L m h (upd H p u) := by
  refine ⟨r.len, r.nd, fun n o a e ea => ?_⟩
  obtain ⟨u', q, h1, h2⟩ := r.at_ n o a e ea
  have na : a ≠ p := fun z => by
    subst z
    obtain ⟨u1, hu⟩ := r.tracked ea
    rw [hp] at hu
    cases hu
  refine ⟨u', q.mono (pers_new hp) (Le.refl _), fun z => ?_, fun z => ?_⟩
  · obtain ⟨i1, od, i2⟩ := h1 z
    exact ⟨i1, od, by rw [upd_ne na]; exact i2⟩
  · rw [upd_ne na]
    exact h2 z
/-- a new list, dict .. -/
theorem Aft.new {G : Gx} {o : Ob} {u : HO} {Q : VK} {E : XK} (r : RH K G L m h H) (lk : ∀ k ∈ L, k < h.length) (A : Aft K (rD K) G L m H (new o h) Q E) (q : ∀ p, H p = none → RO K G (upd H p u) (m ++ [p]) o u) : ∀ p, H p = none → Q (.ref p) (upd H p u) := fun p hp =>
  A (m ++ [p]) (upd H p u) (.ref p) (Le.app _ _) (pers_new hp) (r.new hp (q p hp) lk) (.ref (by rw [← r.len]; simp))
/-- a new tuple -/
theorem Aft.newT {G : Gx} {xs : List D} {vs : List V} {Q : VK} {E : XK} (r : RH K G L m h H) (A : Aft K (rD K) G L m H (.ok (.tup xs) h) Q E) (t : RDs K H m xs vs) : ∀ p, H p = none → Q (.ref p) (upd H p (.tup vs)) := fun p hp =>
  A m (upd H p (.tup vs)) (.ref p) (Le.refl _) (pers_new hp) (r.more hp) (.tup (.inl upd_same) (t.mono (pers_new hp) (Le.refl _)))
/-- a list that is read -/
theorem RH.lst {G : Gx} {x : D} {v : V} {xs : List D} (r : RH K G L m h H) (q : RD K H m x v) (e : lstOf x h = some xs) : ∃ a vs, v = .ref a ∧ SqL K H a vs ∧ RDs K H m xs vs := by
  cases q with
  | frl hh t =>
    cases e
    exact ⟨_, _, rfl, hh.l, t⟩
  | ref hn =>
    rename_i n a
    simp only [lstOf] at e
    split at e
    · rename_i ys ey
      cases e
      obtain ⟨u, q, hr⟩ := r.rd ey hn
      cases u <;> first | exact False.elim q | skip
      exact ⟨a, _, rfl, .inl hr, q⟩
    · cases e
  | _ => cases e
theorem RH.seq {G : Gx} {x : D} {v : V} {xs : List D} (r : RH K G L m h H) (q : RD K H m x v) (e : seqOf x h = some xs) : ∃ a vs, v = .ref a ∧ (SqL K H a vs ∨ SqT K H a vs) ∧ RDs K H m xs vs := by
  cases q with
  | tup hh t =>
    cases e
    exact ⟨_, _, rfl, .inr hh.t, t⟩
  | frl hh t =>
    obtain ⟨a, vs, h1, h2, h3⟩ := r.lst (.frl hh t) e
    exact ⟨a, vs, h1, .inl h2, h3⟩
  | ref hn =>
    obtain ⟨a, vs, h1, h2, h3⟩ := r.lst (.ref hn) e
    exact ⟨a, vs, h1, .inl h2, h3⟩
  | _ => cases e
/-- a list that nobody locked -/
theorem RH.lstH {G : Gx} {n : Nat} {a : Addr} {xs : List D} (r : RH K G L m h H) (hn : m[n]? = some a) (e : h[n]? = some (.lst xs)) : ∃ vs, H a = some (.lst vs) ∧ RDs K H m xs vs := by
  obtain ⟨u, q, h1, h2⟩ := r.at_ n _ a e hn
  have nl : n ∉ L := fun z => by
    have := (h1 z).1
    cases this
  cases u <;> first | exact False.elim q | skip
  exact ⟨_, h2 nl, q⟩
end
/-! ### the judgements -/
abbrev ME (X : Cx) (Z : Zx X.K) (e : Expr) (r : EX) : Prop := PE X e (Rg X.K (rD X.K) Z r)
abbrev MA (X : Cx) (Z : Zx X.K) (es : List Expr) (r : AX) : Prop := PA X es (Rg X.K (rDs X.K) Z r)
abbrev MT (X : Cx) (Z : Zx X.K) (e : Expr) (r : TX) : Prop := PT X e (Rg X.K (rE Bool) Z r)
abbrev MW (X : Cx) (Z : Zx X.K) (e : Expr) (r : TX) : Prop := PW X e (Rg X.K (rE Bool) Z r)
abbrev MO (X : Cx) (Z : Zx X.K) (e : Option Expr) (r : OX) : Prop := PO X e (Rg X.K (rE (Option Int)) Z r)
theorem PE.imp {X : Cx} {e : Expr} {t t' : TE} (h : PE X e t) (i : ∀ σ H Q, t' σ H Q → t σ H Q) : PE X e t' := ⟨fun pins s σ H Q I q => h.run pins s σ H Q I (i σ H Q q)⟩
theorem PA.imp {X : Cx} {e : List Expr} {t t' : TA} (h : PA X e t) (i : ∀ σ H Q, t' σ H Q → t σ H Q) : PA X e t' := ⟨fun pos pins s σ H Q I q => h.run pos pins s σ H Q I (i σ H Q q)⟩
theorem PT.imp {X : Cx} {e : Expr} {t t' : TT} (h : PT X e t) (i : ∀ σ H Q, t' σ H Q → t σ H Q) : PT X e t' := ⟨fun pins s σ H Q I q => h.run pins s σ H Q I (i σ H Q q)⟩
theorem PW.imp {X : Cx} {e : Expr} {t t' : TT} (h : PW X e t) (i : ∀ σ H Q, t' σ H Q → t σ H Q) : PW X e t' := ⟨fun w pins s σ H Q I q => h.run w pins s σ H Q I (i σ H Q q)⟩
theorem PO.imp {X : Cx} {e : Option Expr} {t t' : TO} (h : PO X e t) (i : ∀ σ H Q, t' σ H Q → t σ H Q) : PO X e t' := ⟨fun pins s σ H Q I q => h.run pins s σ H Q I (i σ H Q q)⟩
theorem PS.imp {X : Cx} {e : Stmt} {t t' : TS} (h : PS X e t) (i : ∀ D σ H, t' D σ H → t D σ H) : PS X e t' := ⟨fun pins s σ H D I q => h.run pins s σ H D I (i D σ H q)⟩
theorem PSs.imp {X : Cx} {e : List Stmt} {t t' : TS} (h : PSs X e t) (i : ∀ D σ H, t' D σ H → t D σ H) : PSs X e t' := ⟨fun pins s σ H D I q => h.run pins s σ H D I (i D σ H q)⟩
theorem PG.imp {X : Cx} {e : Expr} {t t' : TG} (h : PG X e t) (i : ∀ v σ H Q, t' v σ H Q → t v σ H Q) : PG X e t' := ⟨fun pins s σ H v u Q I r q => h.run pins s σ H v u Q I r (i v σ H Q q)⟩
theorem PE.or {X : Cx} {e : Expr} {t t' : TE} (h : PE X e t) (h' : PE X e t') : PE X e (fun σ H Q => t σ H Q ∨ t' σ H Q) :=
  ⟨fun pins s σ H Q I q => q.elim (h.run pins s σ H Q I) (h'.run pins s σ H Q I)⟩
theorem PT.or {X : Cx} {e : Expr} {t t' : TT} (h : PT X e t) (h' : PT X e t') : PT X e (fun σ H Q => t σ H Q ∨ t' σ H Q) :=
  ⟨fun pins s σ H Q I q => q.elim (h.run pins s σ H Q I) (h'.run pins s σ H Q I)⟩
theorem PS.or {X : Cx} {e : Stmt} {t t' : TS} (h : PS X e t) (h' : PS X e t') : PS X e (fun D σ H => t D σ H ∨ t' D σ H) :=
  ⟨fun pins s σ H D I q => q.elim (h.run pins s σ H D I) (h'.run pins s σ H D I)⟩

/-! ### names, constants, rows of arguments -/
section
variable {X : Cx} {Z : Zx X.K} {a b c : Expr} {ra rb rc : EX} {pos : Pos}
theorem me_var (i : Nat) {x : Str} (hN : X.N[i]? = some x := by rfl) (hv : Vis X.env.scope x := by first | exact Or.inl rfl | exact Or.inr (Or.inl rfl) | exact Or.inr (Or.inr rfl)) (hd : (x == ("__debug__" : Str)) = false := by decide)
    (hcd : (x == ("__classdict__" : Str)) = false := by decide) : ME X Z (.Name x pos) (eVar i) := by
  refine PE.imp (pe_var hN hv hd hcd) fun σ H Q h => ?_
  obtain ⟨m, L, h, ρ, S, A⟩ := h
  unfold eVar at A
  split at A
  · rename_i d e
    obtain ⟨v, h1, h2⟩ := S.rs.2 i d e
    exact ⟨v, h1, Aft.ok (RA := rD X.K) S A h2⟩
  · exact A.elim
theorem me_of {v : V} {d : D} {e : Expr} (h : PE X e (tC v)) (r : ∀ H m, RD X.K H m d v) : ME X Z e (eC d) :=
  PE.imp h fun σ H Q ⟨m, L, h, ρ, S, A⟩ => Aft.ok (RA := rD X.K) S A (r H m)
theorem me_int {i : Int} {j : Nat} : ME X Z (.Constant (.int i) j pos) (eC (.int i)) := me_of pe_int fun _ _ => .int i
theorem me_bl {b : Bool} {j : Nat} : ME X Z (.Constant (.bool b) j pos) (eC (.bl b)) := me_of pe_bl fun _ _ => .bl b
theorem me_non {j : Nat} : ME X Z (.Constant .none j pos) (eC .non) := me_of pe_non fun _ _ => .non
theorem me_str {x : Str} {j : Nat} : ME X Z (.Constant (.str x) j pos) (eC (.str x)) := me_of pe_str fun _ _ => .str x
/-- a module's constant -/
theorem me_gint {x : Str} {i : Int} {t : Tok} (hg : Gl X x) (hm : X.mg x = some (.int i t)) (hd : (x == ("__debug__" : Str)) = false := by decide) : ME X Z (.Name x pos) (eC (.int i)) := me_of (pe_glob hg hm (show RelV (.int i) (Value.int i t) from ⟨t, rfl⟩) hd) fun _ _ => .int i
theorem me_gstr {x z : Str} {t : Tok} (hg : Gl X x) (hm : X.mg x = some (.str z t)) (hd : (x == ("__debug__" : Str)) = false := by decide) : ME X Z (.Name x pos) (eC (.str z)) := me_of (pe_glob hg hm (show RelV (.str z) (Value.str z t) from ⟨t, rfl⟩) hd) fun _ _ => .str z
theorem ma_nil : MA X Z [] aNil := PA.imp pa_nil fun σ H Q ⟨m, L, h, ρ, S, A⟩ => Aft.ok (RA := rDs X.K) S A .nil
theorem ma_cons {e : Expr} {es : List Expr} {r : EX} {t : AX} (ha : ME X Z e r) (hr : MA X Z es t) (hs : starEach (e :: es) X.env = (false, eval e X.env) :: starEach es X.env := by rfl) : MA X Z (e :: es) (aCons r t) := by
  refine PA.imp (pa_cons ha hr hs) fun σ H Q ⟨m, L, h, ρ, S, A⟩ => ?_
  refine Rg.bind (RC := rDs X.K) S A fun m1 h1 H1 x v S1 l1 p1 q1 A1 => ?_
  refine Rg.bind (RC := rDs X.K) S1 A1 fun m2 h2 H2 xs vs S2 l2 p2 q2 A2 => ?_
  exact Aft.ok (RA := rDs X.K) S2 A2 (.cons (q1.mono p2 l2) q2)

/-! ### operations -/
/-- a two-place operation by values: what its rule asks follows from what the small one says -/
def OkB (K : PySem.W.Frag) (f : B2) (r : R2) : Prop := ∀ (G : Gx) (L : List Nat) (m : List Addr) (h : Hh) (H : Hp) (x y : D) (v u : V) (Q : VK) (E : XK), RH K G L m h H → (∀ k ∈ L, k < h.length) → RD K H m x v → RD K H m y u → Aft K (rD K) G L m H (f x y h) Q E → r v u H Q
def OkU (K : PySem.W.Frag) (f : D → Hh → R D) (r : V → Hp → VK → Prop) : Prop := ∀ (G : Gx) (L : List Nat) (m : List Addr) (h : Hh) (H : Hp) (x : D) (v : V) (Q : VK) (E : XK), RH K G L m h H → (∀ k ∈ L, k < h.length) → RD K H m x v → Aft K (rD K) G L m H (f x h) Q E → r v H Q
def OkL (K : PySem.W.Frag) (f : List D → Hh → R D) (r : List V → Hp → VK → Prop) : Prop := ∀ (G : Gx) (L : List Nat) (m : List Addr) (h : Hh) (H : Hp) (x : List D) (v : List V) (Q : VK) (E : XK), RH K G L m h H → (∀ k ∈ L, k < h.length) → RDs K H m x v → Aft K (rD K) G L m H (f x h) Q E → r v H Q
theorem AftB.ok {G : Gx} {K : PySem.W.Frag} {L : List Nat} {m : List Addr} {h : Hh} {H : Hp} {d : D} {v : V} {Q : VK} {E : XK} (S : RH K G L m h H) (A : Aft K (rD K) G L m H (.ok d h) Q E) (q : RD K H m d v) : Q v H := A m H v (Le.refl m) (Pers.refl H) S q
theorem me_bin {op : Operator} {f : B2} {r : R2} (ho : OpR X (binaryOp op) r) (hf : OkB X.K f r) (ha : ME X Z a ra) (hb : ME X Z b rb) : ME X Z (.BinOp a op b pos) (eBin f ra rb) := by
  refine PE.imp (pe_op ho ha hb) fun σ H Q ⟨m, L, h, ρ, S, A⟩ => ?_
  refine Rg.bind (RC := rD X.K) S A fun m1 h1 H1 x v S1 l1 p1 q1 A1 => ?_
  refine Rg.bind (RC := rD X.K) S1 A1 fun m2 h2 H2 y u S2 l2 p2 q2 A2 => ?_
  exact hf _ L m2 h2 H2 x y v u Q _ S2.rh S2.lk (q1.mono p2 l2) q2 A2
theorem rg_bl {K : PySem.W.Frag} {Z : Zx K} {ra : EX} {σ : L2.St} {H : Hp} {k : Bool → Hp → Prop} (A : Rg K (rE Bool) Z (tBl ra) σ H k) : Rg K (rD K) Z ra σ H fun x H' => ∃ b, x = .bl b ∧ k b H' := by
  obtain ⟨m, L, h, ρ, S, A⟩ := A
  refine Rg.bind (RC := rE Bool) S A fun m1 h1 H1 x v S1 l1 p1 q1 A1 => ?_
  cases q1 <;> first | exact False.elim A1 | exact ⟨_, rfl, (A1 : ∀ _, _) m1 H1 _ (Le.refl _) (Pers.refl _) S1.rh rfl⟩
/-- a comparison: as a value, as a test -/
abbrev MC (X : Cx) (Z : Zx X.K) (e : Expr) (r : EX) : Prop := ME X Z e r ∧ MT X Z e (tBl r)
theorem me_mc {X : Cx} {Z : Zx X.K} {e : Expr} {r : EX} (h : MC X Z e r) : ME X Z e r := h.1
theorem mt_mc {X : Cx} {Z : Zx X.K} {e : Expr} {r : EX} (h : MC X Z e r) : MT X Z e (tBl r) := h.2
theorem mc_of {X : Cx} {Z : Zx X.K} {e : Expr} {ra : EX} {t : TE} (h1 : PE X e t) (h2 : PT X e (fun σ H Q => t σ H fun x H1 => ∃ c, x = .bl c ∧ Q c H1)) (f : ∀ σ H Q, Rg X.K (rD X.K) Z ra σ H Q → t σ H Q) : MC X Z e ra :=
  ⟨PE.imp h1 f, PT.imp h2 fun σ H Q S => f σ H _ (rg_bl S)⟩
theorem mc_cmp {op : CmpOp} {f : B2} {r : R2} (ho : OpR X (compareOp op) r) (hf : OkB X.K f r) (ha : ME X Z a ra) (hb : ME X Z b rb) (hm : behindInMarks op b = false) : MC X Z (.Compare a [op] [b] pos) (eBin f ra rb) := by
  refine mc_of (pe_cmpR ho ha hb hm) (pt_cmpR ho ha hb hm) fun σ H Q ⟨m, L, h, ρ, S, A⟩ => ?_
  refine Rg.bind (RC := rD X.K) S A fun m1 h1 H1 x v S1 l1 p1 q1 A1 => ?_
  refine Rg.bind (RC := rD X.K) S1 A1 fun m2 h2 H2 y u S2 l2 p2 q2 A2 => ?_
  exact hf _ L m2 h2 H2 x y v u Q _ S2.rh S2.lk (q1.mono p2 l2) q2 A2
theorem me_cmp {op : CmpOp} {f : B2} {r : R2} (ho : OpR X (compareOp op) r) (hf : OkB X.K f r) (ha : ME X Z a ra) (hb : ME X Z b rb) (hm : behindInMarks op b = false) : ME X Z (.Compare a [op] [b] pos) (eBin f ra rb) := by
  refine PE.imp (pe_cmpR ho ha hb hm) fun σ H Q ⟨m, L, h, ρ, S, A⟩ => ?_
  refine Rg.bind (RC := rD X.K) S A fun m1 h1 H1 x v S1 l1 p1 q1 A1 => ?_
  refine Rg.bind (RC := rD X.K) S1 A1 fun m2 h2 H2 y u S2 l2 p2 q2 A2 => ?_
  exact hf _ L m2 h2 H2 x y v u Q _ S2.rh S2.lk (q1.mono p2 l2) q2 A2
theorem me_un {op : UnaryOp} {f : D → Hh → R D} {r : V → Hp → VK → Prop} (ho : UnR X (unaryOp op) r) (hf : OkU X.K f r) (ha : ME X Z a ra) : ME X Z (.UnaryOp op a pos) (eUn f ra) := by
  refine PE.imp (pe_un ho ha) fun σ H Q ⟨m, L, h, ρ, S, A⟩ => ?_
  refine Rg.bind (RC := rD X.K) S A fun m1 h1 H1 x v S1 l1 p1 q1 A1 => ?_
  exact hf _ L m1 h1 H1 x v Q _ S1.rh S1.lk q1 A1
variable {K : PySem.W.Frag}
theorem ok_sub : OkB K bSub (rI0 fun i j => .int (i - j)) := by
  intro G L m h H x y v u Q E S lk rx ry A
  cases rx <;> cases ry <;> first | exact False.elim A | exact ⟨_, _, rfl, rfl, AftB.ok S A (.int _)⟩
theorem ok_cInt {p : Int → Int → Bool} : OkB K (cInt p) (rI0 fun i j => .bl (p i j)) := by
  intro G L m h H x y v u Q E S lk rx ry A
  cases rx <;> cases ry <;> first | exact False.elim A | exact ⟨_, _, rfl, rfl, AftB.ok S A (.bl _)⟩
theorem ok_add : OkB K bAdd (fun x y H Q => rI0 (fun i j => .int (i + j)) x y H Q ∨ (∃ i j, x = .str i ∧ y = .str j ∧ i.length + j.length ≤ sizeLine ∧ Q (.str (i ++ j)) H) ∨ rCatA K x y H Q ∨ rCat x y H Q) := by
  intro G L m h H x y v u Q E S lk rx ry A
  cases rx <;> cases ry <;> first | exact False.elim A | exact .inl ⟨_, _, rfl, rfl, AftB.ok S A (.int _)⟩ | skip
  · simp only [bAdd] at A
    split at A
    · rename_i hl
      exact .inr (.inl ⟨_, _, rfl, rfl, hl, AftB.ok S A (.str _)⟩)
    · exact False.elim A
  · rename_i a xs vs h1 t1 b ys us h2 t2
    simp only [bAdd] at A
    split at A
    · rename_i hl
      refine .inr (.inr (.inl ⟨a, b, vs, us, rfl, rfl, h1.t, h2.t, by rw [← t1.length, ← t2.length]; exact hl, fun e => ?_, fun e1 e2 => ?_, fun e1 e2 => ?_⟩))
      · subst e
        cases t1
        exact AftB.ok S A (.tup h2 t2)
      · subst e2
        cases t2
        rw [List.append_nil] at A
        exact AftB.ok S A (.tup h1 t1)
      · exact Aft.newT S A (t1.append t2)
    · exact False.elim A
  · rename_i n a hn k b hk
    simp only [bAdd] at A
    split at A
    · rename_i xs ys e1 e2
      split at A
      · rename_i hl
        obtain ⟨vs, hv, t1⟩ := S.lstH hn e1
        obtain ⟨us, hu, t2⟩ := S.lstH hk e2
        refine .inr (.inr (.inr ⟨a, b, vs, us, rfl, rfl, hv, hu, by rw [← t1.length, ← t2.length]; exact hl, ?_⟩))
        exact Aft.new S lk A fun p hp => (t1.append t2).mono (pers_new hp) (Le.app _ _)
      · exact False.elim A
    · exact False.elim A
theorem op_addX : OpR X (binaryOp .Add) (fun x y H Q => rI0 (fun i j => .int (i + j)) x y H Q ∨ (∃ i j, x = .str i ∧ y = .str j ∧ i.length + j.length ≤ sizeLine ∧ Q (.str (i ++ j)) H) ∨ rCatA X.K x y H Q ∨ rCat x y H Q) := op_add.or (op_add_str.or (op_catA.or op_cat))
end
end Mi

/-! Mi, part C: operations, tests, calls. -/
namespace Mi
open PySem PySem.Spec PyProof.Rows L2
section
variable {K : PySem.W.Frag}
theorem small64_ok {i j : Int} (h : (small64 i || small64 j) = true) : CMul i j := by
  rcases Bool.or_eq_true_iff.mp h with h | h
  · exact .inl (of_decide_eq_true h)
  · exact .inr (of_decide_eq_true h)
theorem ok_mul : OkB K bMul (rI CMul fun i j => .int (i * j)) := by
  intro G L m h H x y v u Q E S lk rx ry A
  cases rx <;> cases ry <;> first | exact False.elim A | skip
  simp only [bMul] at A
  split at A
  · rename_i hl
    exact ⟨_, _, rfl, rfl, small64_ok hl, AftB.ok S A (.int _)⟩
  · exact False.elim A
theorem ok_div : OkB K bDiv (rI CDivW fun i j => .int (i / j)) := by
  intro G L m h H x y v u Q E S lk rx ry A
  cases rx <;> cases ry <;> first | exact False.elim A | skip
  simp only [bDiv] at A
  split at A
  · rename_i hl
    exact ⟨_, _, rfl, rfl, wide_div hl.1 hl.2 (by decide) (by decide), AftB.ok S A (.int _)⟩
  · exact False.elim A
theorem ok_mod : OkB K bMod (rI (fun _ j => 0 < j) fun i j => .int (i % j)) := by
  intro G L m h H x y v u Q E S lk rx ry A
  cases rx <;> cases ry <;> first | exact False.elim A | skip
  simp only [bMod] at A
  split at A
  · rename_i hl
    exact ⟨_, _, rfl, rfl, hl, AftB.ok S A (.int _)⟩
  · exact False.elim A
theorem ok_pow : OkB K bPow (rI CPow fun i j => .int (i ^ j.toNat)) := by
  intro G L m h H x y v u Q E S lk rx ry A
  cases rx <;> cases ry <;> first | exact False.elim A | skip
  simp only [bPow] at A
  split at A
  · rename_i hl
    exact ⟨_, _, rfl, rfl, hl, AftB.ok S A (.int _)⟩
  · exact False.elim A
theorem ok_neg : OkU K uNeg (rU fun i => .int (-i)) := by
  intro G L m h H x v Q E S lk rx A
  cases rx <;> first | exact False.elim A | exact ⟨_, rfl, AftB.ok S A (.int _)⟩
theorem isNon_ok {H : Hp} {m : List Addr} {x : D} {v : V} (r : RD K H m x v) : decide (v = .non) = x.isNon := by
  cases r <;> simp [D.isNon]

/-! ### == -/
mutual
theorem toPy_dp {G : Gx} {L : List Nat} {m : List Addr} {h : Hh} {H : Hp} (S : RH K G L m h H) : ∀ (f : Nat) {d : D} {v : V} {p : PyData}, RD K H m d v → toPy f h d = some p → Dp K H v p
  | 0, _, _, _, _, e => by simp [toPy] at e
  | f + 1, d, v, p, r, e => by
    have all : ∀ {ds : List D} {vs : List V} {ps : List PyData}, RDs K H m ds vs → ds.mapM (toPy f h) = some ps → DpAll K H vs ps := by
      intro ds
      induction ds with
      | nil =>
        intro vs ps t e
        cases t
        simp at e
        subst e
        exact .nil
      | cons d ds ih =>
        intro vs ps t e
        cases t with
        | cons q t =>
          rw [List.mapM_cons] at e
          cases e1 : toPy f h d with
          | none => rw [e1] at e; cases e
          | some p1 =>
            cases e2 : ds.mapM (toPy f h) with
            | none => rw [e1, e2] at e; cases e
            | some ps2 =>
              rw [e1, e2] at e
              cases e
              exact .cons (toPy_dp S f q e1) (ih t e2)
    cases r with
    | non => cases e; exact .non
    | bl b => cases e; exact .bl b
    | int i => cases e; exact .int i
    | str x => cases e; exact .str x
    | tup hh t =>
      simp only [toPy, Option.map_eq_some_iff] at e
      obtain ⟨ps, e1, rfl⟩ := e
      exact .tup hh.t (all t e1)
    | frl hh t =>
      simp only [toPy, Option.map_eq_some_iff] at e
      obtain ⟨ps, e1, rfl⟩ := e
      exact .lst hh.l (all t e1)
    | ref hn =>
      simp only [toPy] at e
      split at e
      · rename_i xs ex
        rw [Option.map_eq_some_iff] at e
        obtain ⟨ps, e1, rfl⟩ := e
        obtain ⟨u, q, hr⟩ := S.rd ex hn
        cases u <;> first | exact False.elim q | skip
        exact .lst (.inl hr) (all q e1)
      · cases e
end
theorem scEq_ok {H : Hp} {m : List Addr} {x y : D} {v u : V} {b : Bool} (rx : RD K H m x v) (ry : RD K H m y u) (e : scEq x y = some b) : scal v u = true ∧ decide (v = u) = b := by
  cases rx <;> cases ry <;> simp [scEq] at e <;> subst e <;> simp [scal]
theorem eqD_ok {G : Gx} {L : List Nat} {m : List Addr} {h : Hh} {H : Hp} {x y : D} {v u : V} {b : Bool} {Q : Bool → Prop} (S : RH K G L m h H) (rx : RD K H m x v) (ry : RD K H m y u) (e : eqD x y h = some b) (q : Q b) :
    (scal v u = true ∧ Q (decide (v = u))) ∨ ∃ d e, Dp K H v d ∧ Dp K H u e ∧ SeqAt.shaped d = true ∧ SeqAt.shaped e = true ∧ Q (PyData.eqv d e) := by
  unfold eqD at e
  split at e
  · rename_i b' es
    cases e
    obtain ⟨h1, h2⟩ := scEq_ok rx ry es
    exact .inl ⟨h1, by rw [h2]; exact q⟩
  · split at e
    · rename_i p1 p2 e1 e2
      split at e
      · rename_i hs
        obtain ⟨s1, s2⟩ := Bool.and_eq_true_iff.mp hs
        cases e
        exact .inr ⟨p1, p2, toPy_dp S _ rx e1, toPy_dp S _ ry e2, s1, s2, q⟩
      · cases e
    · cases e
theorem ok_eq : OkB K bEq (fun x y H Q => rEq x y H Q ∨ rEqD K x y H Q) := by
  intro G L m h H x y v u Q E S lk rx ry A
  unfold bEq at A
  split at A
  · rename_i b e
    exact eqD_ok (Q := fun b => Q (.bl b) H) S rx ry e (AftB.ok S A (.bl b))
  · exact False.elim A
theorem ok_ne : OkB K bNe (fun x y H Q => rNe x y H Q ∨ rNeD K x y H Q) := by
  intro G L m h H x y v u Q E S lk rx ry A
  unfold bNe at A
  split at A
  · rename_i b e
    exact eqD_ok (Q := fun b => Q (.bl (!b)) H) S rx ry e (AftB.ok S A (.bl _))
  · exact False.elim A

/-! ### dicts -/
theorem keyD_ok {H : Hp} {m : List Addr} {y : D} {u : V} {k : Key} (r : RD K H m y u) (e : keyD y = some k) : u = kV k := by
  cases r <;> simp [keyD] at e <;> subst e <;> rfl
theorem keysD_ok {H : Hp} {m : List Addr} : ∀ {ys : List D} {us : List V} {ks : List Key}, RDs K H m ys us → keysD ys = some ks → us = ks.map kV ∧ us ≠ []
  | [], _, _, .nil, e => by simp [keysD] at e
  | [d], _, ks, .cons r .nil, e => by
    simp only [keysD, Option.map_eq_some_iff] at e
    obtain ⟨k, h1, rfl⟩ := e
    exact ⟨by rw [keyD_ok r h1]; rfl, by simp⟩
  | d :: e' :: ds, _, ks, .cons r t, e => by
    simp only [keysD] at e
    split at e
    · rename_i k ks' h1 h2
      cases e
      exact ⟨by rw [keyD_ok r h1, (keysD_ok t h2).1]; rfl, by simp⟩
    · cases e
theorem valD_ok {κ : Type} [DecidableEq κ] {H : Hp} {m : List Addr} {k : κ} : ∀ {kvs : List (κ × D)} {kvs' : List (κ × V)}, RK K H m kvs kvs' → (valD kvs k = none ∧ valV kvs' k = none) ∨ ∃ d v, valD kvs k = some d ∧ valV kvs' k = some v ∧ RD K H m d v
  | _, _, .nil => .inl ⟨rfl, rfl⟩
  | (k1, d) :: r, (k2, v) :: r', .cons q t => by
    obtain ⟨rfl, q⟩ : k1 = k2 ∧ RD K H m d v := q
    by_cases e : k1 = k
    · refine .inr ⟨d, v, ?_, ?_, q⟩ <;> simp [valD, valV, e]
    · have h1 : valD ((k1, d) :: r) k = valD r k := by simp [valD, e]
      have h2 : valV ((k1, v) :: r') k = valV r' k := by simp [valV, e]
      rw [h1, h2]
      exact valD_ok t
theorem dGet_ok {G : Gx} {L : List Nat} {m : List Addr} {h : Hh} {H : Hp} {x y : D} {v u : V} {o : Option D} (S : RH K G L m h H) (rx : RD K H m x v) (ry : RD K H m y u) (e : dGet x y h = some o) :
    ∃ a o', v = .ref a ∧ DGet H a u o' ∧ ((o = none ∧ o' = none) ∨ ∃ d w, o = some d ∧ o' = some w ∧ RD K H m d w) := by
  cases rx with
  | ref hn =>
    rename_i n a
    simp only [dGet] at e
    split at e
    · rename_i kvs ek
      obtain ⟨u', q, hr⟩ := S.rd ek hn
      cases u' <;> first | exact False.elim q | skip
      rename_i kvs'
      split at e
      · rename_i k hk
        cases e
        refine ⟨a, _, rfl, .inl ⟨kvs', k, hr, keyD_ok ry hk, rfl⟩, ?_⟩
        rcases valD_ok (k := k) q with z | z
        · exact .inl z
        · exact .inr z
      · cases e
    · rename_i kvs ek
      obtain ⟨u', q, hr⟩ := S.rd ek hn
      cases u' <;> first | exact False.elim q | skip
      rename_i kvs'
      split at e
      · rename_i ds
        split at e
        · rename_i ks hk
          cases e
          cases ry with
          | tup hh t =>
            rename_i b us
            obtain ⟨e1, e2⟩ := keysD_ok t hk
            have hb : H b = some (.tup us) := hh.elim id fun z => absurd z.1 e2
            refine ⟨a, _, rfl, .inr ⟨kvs', ks, b, hr, rfl, by rw [hb, e1], rfl⟩, ?_⟩
            rcases valD_ok (k := ks) q with z | z
            · exact .inl z
            · exact .inr z
        · cases e
      · cases e
    · cases e
  | _ => cases e
/-! ### in -/
theorem eqF_ok {H : Hp} {m : List Addr} {x y : D} {v u : V} (rx : RD K H m x v) (ry : RD K H m y u) (fx : flatD x = true) (fy : flatD y = true) : eqV v u = eqF x y := by
  cases rx <;> cases ry <;> first | (simp [flatD] at fx; done) | (simp [flatD] at fy; done) | rfl
theorem flat_ok {H : Hp} {m : List Addr} {x : D} {v : V} (rx : RD K H m x v) (fx : flatD x = true) : flatV v = true := by
  cases rx <;> first | rfl | (simp [flatD] at fx)
theorem flats_ok {H : Hp} {m : List Addr} : ∀ {xs : List D} {vs : List V}, RDs K H m xs vs → xs.all flatD = true → vs.all flatV = true
  | _, _, .nil, _ => rfl
  | _, _, .cons r t, f => by
    rw [List.all_cons, Bool.and_eq_true] at f ⊢
    exact ⟨flat_ok r f.1, flats_ok t f.2⟩
theorem any_ok {H : Hp} {m : List Addr} {x : D} {v : V} (rx : RD K H m x v) (fx : flatD x = true) : ∀ {xs : List D} {vs : List V}, RDs K H m xs vs → xs.all flatD = true → inV v vs = xs.any fun z => eqF z x
  | _, _, .nil, _ => rfl
  | _, _, .cons r t, f => by
    rw [List.all_cons, Bool.and_eq_true] at f
    have ih := any_ok rx fx t f.2
    unfold inV at ih ⊢
    rw [List.any_cons, List.any_cons, ih, eqF_ok r rx f.1 fx]
def rSign (neg : Bool) : R2 := fun x y H Q => ∃ (c : Nat) (z : Str), x = .str ⟨#[c]⟩ ∧ y = .str z ∧ Q (.bl (if neg then !decide (c ∈ z.cps.toList) else decide (c ∈ z.cps.toList))) H
theorem op_inS {X : Cx} : OpR X (compareOp .In) (rSign false) := op_in_sign
theorem op_notInS {X : Cx} : OpR X (compareOp .NotIn) (rSign true) := op_notIn_sign
/-- what in asks, but for a dict -/
theorem inD_ok {G : Gx} {L : List Nat} {m : List Addr} {h : Hh} {H : Hp} {x y : D} {v u : V} {b neg : Bool} {Q : VK} (S : RH K G L m h H) (rx : RD K H m x v) (ry : RD K H m y u) (e : inD x y h = some b) (nd : dGet y x h = none) (q : Q (.bl (if neg then !b else b)) H) :
    rIn K neg v u H Q ∨ rSign neg v u H Q := by
  unfold inD at e
  rw [nd] at e
  simp only at e
  split at e
  · rename_i i j
    cases rx
    cases ry
    unfold occ at e
    split at e
    · rename_i c hc
      cases e
      have hi : i = ⟨#[c]⟩ := by
        obtain ⟨cps⟩ := i
        simp only at hc
        congr 1
        exact Array.toList_inj.mp hc
      subst hi
      exact .inr ⟨c, j, rfl, rfl, q⟩
    · cases e
  · split at e
    · rename_i ys hy
      split at e
      · rename_i hf
        obtain ⟨f1, f2⟩ := Bool.and_eq_true_iff.mp hf
        cases e
        obtain ⟨a, us, rfl, hs, t⟩ := S.seq ry hy
        refine .inl ⟨a, us, rfl, hs, flat_ok rx f1, flats_ok t f2, ?_⟩
        rw [any_ok rx f1 t f2]
        exact q
      · cases e
    · cases e
end

section
variable {X : Cx} {Z : Zx X.K} {a b c : Expr} {ra rb rc : EX} {pos : Pos}
theorem mc_in (hu : X.A.units + 1 < cLine) (ha : ME X Z a ra) (hb : ME X Z b rb) (hm : behindInMarks .In b = false := by rfl) : MC X Z (.Compare a [.In] [b] pos) (eBin bIn ra rb) := by
  refine mc_of (PE.or (pe_cmpR (op_in_seq.or op_inS) ha hb hm) (pe_cmp (pc_din hu ha hb) hm)) (PT.or (pt_cmpR (op_in_seq.or op_inS) ha hb hm) (pt_cmp (pc_din hu ha hb) hm)) fun σ H Q ⟨m, L, h, ρ, S, A⟩ => ?_
  by_cases hs : ∃ x h1 y h2 o, ra ρ L h = .ok x h1 ∧ rb ρ L h1 = .ok y h2 ∧ dGet y x h2 = some o
  · refine .inr ?_
    obtain ⟨x, h1, y, h2, o, e1, e2, e3⟩ := hs
    refine Rg.bindE (RC := rD X.K) S A fun m1 h1' H1 x' v f1 S1 l1 p1 q1 A1 => ?_
    refine Rg.bindE (RC := rD X.K) S1 A1 fun m2 h2' H2 y' u f2 S2 l2 p2 q2 A2 => ?_
    rw [e1] at f1
    cases f1
    rw [e2] at f2
    cases f2
    obtain ⟨aa, o', rfl, g, ho⟩ := dGet_ok S2.rh q2 (q1.mono p2 l2) e3
    have e : inD x y h2 = some o.isSome := by unfold inD; rw [e3]
    have eo : o'.isSome = o.isSome := by
      rcases ho with ⟨rfl, rfl⟩ | ⟨d, w, rfl, rfl, _⟩ <;> rfl
    simp only [bIn, e] at A2
    exact ⟨aa, o', rfl, g, by rw [eo]; exact AftB.ok S2.rh A2 (.bl _)⟩
  · refine .inl ?_
    refine Rg.bindE (RC := rD X.K) S A fun m1 h1 H1 x v f1 S1 l1 p1 q1 A1 => ?_
    refine Rg.bindE (RC := rD X.K) S1 A1 fun m2 h2 H2 y u f2 S2 l2 p2 q2 A2 => ?_
    have nd : dGet y x h2 = none := by
      cases e : dGet y x h2 with
      | none => rfl
      | some o => exact absurd ⟨x, h1, y, h2, o, f1, f2, e⟩ hs
    unfold bIn at A2
    split at A2
    · rename_i bb e
      exact inD_ok (neg := false) S2.rh (q1.mono p2 l2) q2 e nd (AftB.ok S2.rh A2 (.bl _))
    · exact False.elim A2
theorem mc_notIn (hu : X.A.units + 1 < cLine) (ha : ME X Z a ra) (hb : ME X Z b rb) (hm : behindInMarks .NotIn b = false := by rfl) : MC X Z (.Compare a [.NotIn] [b] pos) (eBin bNotIn ra rb) := by
  refine mc_of (PE.or (pe_cmpR (op_notIn_seq.or op_notInS) ha hb hm) (pe_cmp (pc_dnotin hu ha hb) hm)) (PT.or (pt_cmpR (op_notIn_seq.or op_notInS) ha hb hm) (pt_cmp (pc_dnotin hu ha hb) hm)) fun σ H Q ⟨m, L, h, ρ, S, A⟩ => ?_
  by_cases hs : ∃ x h1 y h2 o, ra ρ L h = .ok x h1 ∧ rb ρ L h1 = .ok y h2 ∧ dGet y x h2 = some o
  · refine .inr ?_
    obtain ⟨x, h1, y, h2, o, e1, e2, e3⟩ := hs
    refine Rg.bindE (RC := rD X.K) S A fun m1 h1' H1 x' v f1 S1 l1 p1 q1 A1 => ?_
    refine Rg.bindE (RC := rD X.K) S1 A1 fun m2 h2' H2 y' u f2 S2 l2 p2 q2 A2 => ?_
    rw [e1] at f1
    cases f1
    rw [e2] at f2
    cases f2
    obtain ⟨aa, o', rfl, g, ho⟩ := dGet_ok S2.rh q2 (q1.mono p2 l2) e3
    have e : inD x y h2 = some o.isSome := by unfold inD; rw [e3]
    have eo : o'.isSome = o.isSome := by
      rcases ho with ⟨rfl, rfl⟩ | ⟨d, w, rfl, rfl, _⟩ <;> rfl
    simp only [bNotIn, e] at A2
    exact ⟨aa, o', rfl, g, by rw [eo]; exact AftB.ok S2.rh A2 (.bl _)⟩
  · refine .inl ?_
    refine Rg.bindE (RC := rD X.K) S A fun m1 h1 H1 x v f1 S1 l1 p1 q1 A1 => ?_
    refine Rg.bindE (RC := rD X.K) S1 A1 fun m2 h2 H2 y u f2 S2 l2 p2 q2 A2 => ?_
    have nd : dGet y x h2 = none := by
      cases e : dGet y x h2 with
      | none => rfl
      | some o => exact absurd ⟨x, h1, y, h2, o, f1, f2, e⟩ hs
    unfold bNotIn at A2
    split at A2
    · rename_i bb e
      exact inD_ok (neg := true) S2.rh (q1.mono p2 l2) q2 e nd (AftB.ok S2.rh A2 (.bl _))
    · exact False.elim A2
theorem mc_isN {j : Nat} {pos' : Pos} (ha : ME X Z a ra) : MC X Z (.Compare a [.Is] [.Constant .none j pos'] pos) (eUn uIsN ra) := by
  refine mc_of (pe_cmpR op_isN ha pe_non (nomark _)) (pt_cmpR op_isN ha pe_non (nomark _)) fun σ H Q ⟨m, L, h, ρ, S, A⟩ => ?_
  refine Rg.bind (RC := rD X.K) S A fun m1 h1 H1 x v S1 l1 p1 q1 A1 => ?_
  exact ⟨rfl, by rw [isNon_ok q1]; exact AftB.ok S1.rh A1 (.bl _)⟩
theorem mc_notN {j : Nat} {pos' : Pos} (ha : ME X Z a ra) : MC X Z (.Compare a [.IsNot] [.Constant .none j pos'] pos) (eUn uNotN ra) := by
  refine mc_of (pe_cmpR op_notN ha pe_non (nomark _)) (pt_cmpR op_notN ha pe_non (nomark _)) fun σ H Q ⟨m, L, h, ρ, S, A⟩ => ?_
  refine Rg.bind (RC := rD X.K) S A fun m1 h1 H1 x v S1 l1 p1 q1 A1 => ?_
  exact ⟨rfl, by rw [isNon_ok q1]; exact AftB.ok S1.rh A1 (.bl _)⟩
/-- the operations in short -/
theorem me_add (ha : ME X Z a ra) (hb : ME X Z b rb) : ME X Z (.BinOp a .Add b pos) (eBin bAdd ra rb) := me_bin op_addX ok_add ha hb
theorem me_sub (ha : ME X Z a ra) (hb : ME X Z b rb) : ME X Z (.BinOp a .Sub b pos) (eBin bSub ra rb) := me_bin op_sub ok_sub ha hb
theorem me_mul (ha : ME X Z a ra) (hb : ME X Z b rb) : ME X Z (.BinOp a .Mult b pos) (eBin bMul ra rb) := me_bin op_mul ok_mul ha hb
theorem me_div (ha : ME X Z a ra) (hb : ME X Z b rb) : ME X Z (.BinOp a .FloorDiv b pos) (eBin bDiv ra rb) := me_bin op_fdivW ok_div ha hb
theorem me_mod (ha : ME X Z a ra) (hb : ME X Z b rb) : ME X Z (.BinOp a .Mod b pos) (eBin bMod ra rb) := me_bin op_mod ok_mod ha hb
theorem me_pow (ha : ME X Z a ra) (hb : ME X Z b rb) : ME X Z (.BinOp a .Pow b pos) (eBin bPow ra rb) := me_bin op_pow ok_pow ha hb
theorem me_neg (ha : ME X Z a ra) : ME X Z (.UnaryOp .USub a pos) (eUn uNeg ra) := me_un un_neg ok_neg ha
theorem mc_lt (ha : ME X Z a ra) (hb : ME X Z b rb) : MC X Z (.Compare a [.Lt] [b] pos) (eBin bLt ra rb) := mc_cmp op_lt ok_cInt ha hb (nomark _)
theorem mc_le (ha : ME X Z a ra) (hb : ME X Z b rb) : MC X Z (.Compare a [.LtE] [b] pos) (eBin bLe ra rb) := mc_cmp op_le ok_cInt ha hb (nomark _)
theorem mc_gt (ha : ME X Z a ra) (hb : ME X Z b rb) : MC X Z (.Compare a [.Gt] [b] pos) (eBin bGt ra rb) := mc_cmp op_gt ok_cInt ha hb (nomark _)
theorem mc_ge (ha : ME X Z a ra) (hb : ME X Z b rb) : MC X Z (.Compare a [.GtE] [b] pos) (eBin bGe ra rb) := mc_cmp op_ge ok_cInt ha hb (nomark _)
theorem mc_eq (hu : X.A.units + 64 < cLine) (ha : ME X Z a ra) (hb : ME X Z b rb) : MC X Z (.Compare a [.Eq] [b] pos) (eBin bEq ra rb) := mc_cmp (op_eq.or (op_eqD hu)) ok_eq ha hb (nomark _)
theorem mc_ne (hu : X.A.units + 64 < cLine) (ha : ME X Z a ra) (hb : ME X Z b rb) : MC X Z (.Compare a [.NotEq] [b] pos) (eBin bNe ra rb) := mc_cmp (op_ne.or (op_neD hu)) ok_ne ha hb (nomark _)
/-! ### subscripts -/
theorem me_ix (hu : X.A.units + 1 < cLine) (ha : ME X Z a ra) (hb : ME X Z b rb) (hs : PlainIx b := by intro _ _; rfl) : ME X Z (.Subscript a b pos) (eBin bIx ra rb) := by
  refine PE.imp (PE.or (pe_ix ix_seq ha hb hs) (pe_dget hu ha hb hs)) fun σ H Q ⟨m, L, h, ρ, S, A⟩ => ?_
  by_cases hd : ∃ x h1 y h2 o, ra ρ L h = .ok x h1 ∧ rb ρ L h1 = .ok y h2 ∧ dGet x y h2 = some o
  · refine .inr ?_
    obtain ⟨x, h1, y, h2, o, e1, e2, e3⟩ := hd
    refine Rg.bindE (RC := rD X.K) S A fun m1 h1' H1 x' v f1 S1 l1 p1 q1 A1 => ?_
    refine Rg.bindE (RC := rD X.K) S1 A1 fun m2 h2' H2 y' u f2 S2 l2 p2 q2 A2 => ?_
    rw [e1] at f1
    cases f1
    rw [e2] at f2
    cases f2
    obtain ⟨aa, o', rfl, g, ho⟩ := dGet_ok S2.rh (q1.mono p2 l2) q2 e3
    have hA : bIx x y h2 = (match o with | some v => .ok v h2 | none => .bad) := by
      have hns : seqOf x h2 = none := by
        cases x <;> simp [dGet] at e3
        rename_i n
        simp only [seqOf, lstOf]
        cases hh : h2[n]? with
        | none => rfl
        | some ob => cases ob <;> simp [hh] at e3 ⊢
      unfold bIx
      cases x <;> simp [dGet] at e3
      rename_i n
      have e3' : dGet (.ref n) y h2 = some o := by simpa [dGet] using e3
      cases y <;> simp only [hns, e3'] <;> cases o <;> rfl
    rw [hA] at A2
    rcases ho with ⟨rfl, rfl⟩ | ⟨d, w, rfl, rfl, r⟩
    · exact False.elim A2
    · exact ⟨aa, w, rfl, g, AftB.ok S2.rh A2 r⟩
  · refine .inl ?_
    refine Rg.bindE (RC := rD X.K) S A fun m1 h1 H1 x v f1 S1 l1 p1 q1 A1 => ?_
    refine Rg.bindE (RC := rD X.K) S1 A1 fun m2 h2 H2 y u f2 S2 l2 p2 q2 A2 => ?_
    have q1' := q1.mono p2 l2
    have nd : dGet x y h2 = none := by
      cases e : dGet x y h2 with
      | none => rfl
      | some o => exact absurd ⟨x, h1, y, h2, o, f1, f2, e⟩ hd
    unfold bIx at A2
    cases y <;> simp only [nd] at A2 <;> first | exact False.elim A2 | skip
    rename_i i
    cases q2
    cases x with
    | str z =>
      simp only at A2
      cases q1'
      split at A2
      · rename_i hl
        split at A2
        · rename_i c hc
          exact .inr (.inr ⟨z, i, c, rfl, rfl, hl, hc, AftB.ok S2.rh A2 (.str _)⟩)
        · exact False.elim A2
      · exact False.elim A2
    | _ =>
      simp only at A2
      split at A2
      · rename_i xs hx
        obtain ⟨aa, vs, rfl, hsq, t⟩ := S2.rh.seq q1' hx
        split at A2
        · rename_i d hdd
          have hat : ∃ w, atI vs i = some w ∧ RD X.K H2 m2 d w := by
            unfold atI at hdd ⊢
            rw [← t.length]
            cases hi : ixN xs.length i with
            | none => rw [hi] at hdd; cases hdd
            | some j =>
              rw [hi] at hdd
              exact t.get hdd
          obtain ⟨w, hw, rw'⟩ := hat
          rcases hsq with hsq | hsq
          · exact .inl ⟨aa, vs, i, w, rfl, rfl, hsq, hw, AftB.ok S2.rh A2 rw'⟩
          · exact .inr (.inl ⟨aa, vs, i, w, rfl, rfl, hsq, hw, AftB.ok S2.rh A2 rw'⟩)
        · exact False.elim A2
      · exact False.elim A2
end
end Mi

/-! Mi, part D: tests, displays, slices, calls, statements, loops. -/
namespace Mi
open PySem PySem.Spec PyProof.Rows L2
section
variable {α β γ δ : Type} {K : PySem.W.Frag} {RA : Rl α β} {RC : Rl γ δ} {Z : Zx K} {L : List Nat} {m : List Addr} {h : Hh} {ρ : Rho} {σ : L2.St} {H : Hp}
theorem Aft.then {r : R α} {f : α → Hh → R γ} {Q : δ → Hp → Prop} {F : β → Hp → Prop} {E : XK} (S : Stt K Z L m h ρ σ H) (A : Aft K RC Z.G L m H (r.bind f) Q E)
    (k : ∀ m1 h1 H1 a x, Stt K Z L m1 h1 ρ σ H1 → Le m m1 → Pers K H H1 → RA m1 H1 a x → Aft K RC Z.G L m1 H1 (f a h1) Q E → F x H1) : Aft K RA Z.G L m H r F E := by
  cases r with
  | ok a h1 => exact fun m1 H1 v l p r q => k m1 h1 H1 a v (S.on l p r) l p q (Aft.mono (A : Aft K RC Z.G L m H (f a h1) Q E) l p)
  | exc c q h1 => exact A
  | bad => exact A
/-! ### truth -/
theorem truD_ok {G : Gx} {x : D} {v : V} {b : Bool} (S : RH K G L m h H) (r : RD K H m x v) (e : truD x h = some b) : TruV K v H b := by
  cases r with
  | non => cases e; rfl
  | bl b => cases e; rfl
  | int i => cases e; rfl
  | str x =>
    simp only [truD] at e
    split at e
    · rename_i hl
      cases e
      exact ⟨hl, rfl⟩
    · cases e
  | tup hh t =>
    cases e
    refine .inr (.inl ⟨_, hh.t, ?_⟩)
    cases t <;> rfl
  | frl hh t =>
    cases e
    refine .inl ⟨_, hh.l, ?_⟩
    cases t <;> rfl
  | ref hn =>
    simp only [truD] at e
    split at e
    · rename_i xs ex
      cases e
      obtain ⟨u, q, hr⟩ := S.rd ex hn
      cases u <;> first | exact False.elim q | skip
      refine .inl ⟨_, .inl hr, ?_⟩
      have q' : RDs K H m xs _ := q
      cases q' <;> rfl
    · cases e
/-! ### parts -/
theorem cut_ok {xs : List D} {vs : List V} (lo hi : Option Int) (t : RDs K H m xs vs) : RDs K H m (cutD xs lo hi) (cutV vs lo hi) := by
  unfold cutD cutV
  rw [← t.length]
  exact (t.drop _).take _
theorem cut_all {xs : List D} (lo hi : Option Int) (e : HT.sIx xs.length 0 lo = 0 ∧ HT.sIx xs.length xs.length hi = xs.length) : cutD xs lo hi = xs := by
  unfold cutD
  rw [e.1, e.2]
  simp
def OkS (K : PySem.W.Frag) (r : V → Option Int → Option Int → Hp → VK → Prop) : Prop := ∀ (G : Gx) (L : List Nat) (m : List Addr) (h : Hh) (H : Hp) (x : D) (v : V) (lo hi : Option Int) (Q : VK) (E : XK), RH K G L m h H → (∀ k ∈ L, k < h.length) → RD K H m x v → Aft K (rD K) G L m H (slD x lo hi h) Q E → r v lo hi H Q
theorem ok_sl : OkS K (fun x lo hi H Q => rSlA K x lo hi H Q ∨ rSlL K x lo hi H Q ∨ rSlS x lo hi H Q) := by
  intro G L m h H x v lo hi Q E S lk r A
  have lst : ∀ {xs : List D}, lstOf x h = some xs → Aft K (rD K) G L m H (new (.lst (cutD xs lo hi)) h) Q E → rSlL K v lo hi H Q := fun {xs} e A => by
    obtain ⟨a, vs, rfl, hs, t⟩ := S.lst r e
    exact ⟨a, vs, rfl, hs, Aft.new S lk A fun p hp => (cut_ok lo hi t).mono (pers_new hp) (Le.app _ _)⟩
  cases r with
  | tup hh t =>
    rename_i a xs vs
    refine .inl ⟨a, vs, rfl, hh.t, fun e => ?_, fun e => ?_⟩
    · have e' : cutD xs lo hi = xs := cut_all lo hi (by rw [t.length]; exact e)
      have A' : Aft K (rD K) G L m H (.ok (.tup (cutD xs lo hi)) h) Q E := A
      rw [e'] at A'
      exact AftB.ok S A' (.tup hh t)
    · exact Aft.newT S A (cut_ok lo hi t)
  | str z =>
    simp only [slD] at A
    split at A
    · rename_i hl
      exact .inr (.inr ⟨z, rfl, hl, AftB.ok S A (.str _)⟩)
    · exact False.elim A
  | frl hh t => exact .inr (.inl (lst rfl A))
  | ref hn =>
    simp only [slD] at A
    split at A
    · rename_i xs ex
      exact .inr (.inl (lst ex A))
    · exact False.elim A
  | _ => exact False.elim A
end
section
variable {X : Cx} {Z : Zx X.K} {a b c e o : Expr} {es rest : List Expr} {ra rb rc : EX} {pos p2 : Pos} {lo hi : Option Expr} {rl rh : OX} {rs : AX} {tx ty : TX}
theorem mo_no : MO X Z none oNo := PO.imp po_none fun σ H Q ⟨m, L, h, ρ, S, A⟩ => Aft.ok (RA := rE (Option Int)) S A rfl
theorem mo_yes (ha : ME X Z a ra) : MO X Z (some a) (oYes ra) := PO.imp (po_some ha) fun σ H Q ⟨m, L, h, ρ, S, A⟩ => by
  refine Rg.bind (RC := rE (Option Int)) S A fun m1 h1 H1 x v S1 l1 p1 q1 A1 => ?_
  cases q1 <;> first | exact False.elim A1 | exact ⟨_, rfl, Aft.ok (RA := rE (Option Int)) S1 A1 rfl⟩
theorem me_sl (ha : ME X Z a ra) (hl : MO X Z lo rl) (hh : MO X Z hi rh) : ME X Z (.Subscript a (.Slice lo hi none p2) pos) (eSl ra rl rh) := by
  refine PE.imp (pe_slice (sl_tupA.or (sl_list.or sl_str)) ha hl hh) fun σ H Q ⟨m, L, h, ρ, S, A⟩ => ?_
  refine Rg.bind (RC := rD X.K) S A fun m1 h1 H1 x v S1 l1 p1 q1 A1 => ?_
  refine Rg.bind (RC := rD X.K) S1 A1 fun m2 h2 H2 i i' S2 l2 p2 q2 A2 => ?_
  refine Rg.bind (RC := rD X.K) S2 A2 fun m3 h3 H3 j j' S3 l3 p3 q3 A3 => ?_
  obtain rfl : i = i' := q2
  obtain rfl : j = j' := q3
  exact ok_sl _ L m3 h3 H3 x v i j Q _ S3.rh S3.lk ((q1.mono p2 l2).mono p3 l3) A3
theorem me_tup {k1 : Nat} (h : MA X Z es rs) : ME X Z (.Tuple es k1 pos) (eTup rs) := by
  refine PE.imp (pe_tup h) fun σ H Q ⟨m, L, h, ρ, S, A⟩ => ?_
  refine Rg.bind (RC := rD X.K) S A fun m1 h1 H1 x v S1 l1 p1 q1 A1 => ?_
  split at A1
  · rename_i hl
    exact ⟨by rw [← q1.length]; exact hl, Aft.newT S1.rh A1 q1⟩
  · exact False.elim A1
theorem me_lst (h : MA X Z es rs) : ME X Z (.List es pos) (eLst rs) := by
  refine PE.imp (pe_lst h) fun σ H Q ⟨m, L, h, ρ, S, A⟩ => ?_
  refine Rg.bind (RC := rD X.K) S A fun m1 h1 H1 x v S1 l1 p1 q1 A1 => ?_
  split at A1
  · rename_i hl
    exact ⟨by rw [← q1.length]; exact hl, Aft.new S1.rh S1.lk A1 fun p hp => RDs.mono (pers_new hp) (Le.app _ _) q1⟩
  · exact False.elim A1
/-! ### tests -/
theorem mt_tru (ha : ME X Z a ra) (he : ∀ whole, isTrue a X.env whole = (do let v ← whole; standAt a.pos; holding [v] (truthy v)) := by intro _; rfl) : MT X Z a (tTru ra) := by
  refine PT.imp (pt_truth ha he) fun σ H Q ⟨m, L, h, ρ, S, A⟩ => ?_
  refine Rg.bind (RC := rE Bool) S A fun m1 h1 H1 x v S1 l1 p1 q1 A1 => ?_
  split at A1
  · rename_i b e
    exact ⟨b, truD_ok S1.rh q1 e, Aft.ok (RA := rE Bool) S1 A1 rfl⟩
  · exact False.elim A1
theorem mt_not (ha : MT X Z a tx) : MT X Z (.UnaryOp .Not a pos) (xNot tx) := by
  refine PT.imp (pt_not ha) fun σ H Q ⟨m, L, h, ρ, S, A⟩ => ?_
  refine Rg.bind (RC := rE Bool) S A fun m1 h1 H1 x v S1 l1 p1 q1 A1 => ?_
  obtain rfl : x = v := q1
  exact Aft.ok (RA := rE Bool) S1 A1 rfl
theorem mw_and1 (ha : MT X Z a tx) : MW X Z (.BoolOp .And [a] pos) tx := pw_and1 ha
theorem mw_or1 (ha : MT X Z a tx) : MW X Z (.BoolOp .Or [a] pos) tx := pw_or1 ha
theorem mw_and (ha : MT X Z a tx) (hb : MW X Z (.BoolOp .And (b :: rest) pos) ty) : MW X Z (.BoolOp .And (a :: b :: rest) pos) (xAnd tx ty) := by
  refine PW.imp (pw_and ha hb) fun σ H Q ⟨m, L, h, ρ, S, A⟩ => ?_
  refine Rg.bind (RC := rE Bool) S A fun m1 h1 H1 x v S1 l1 p1 q1 A1 => ?_
  obtain rfl : x = v := q1
  cases x with
  | true => exact ⟨m1, L, h1, ρ, S1, A1⟩
  | false => exact Aft.ok (RA := rE Bool) S1 A1 rfl
theorem mw_or (ha : MT X Z a tx) (hb : MW X Z (.BoolOp .Or (b :: rest) pos) ty) : MW X Z (.BoolOp .Or (a :: b :: rest) pos) (xOr tx ty) := by
  refine PW.imp (pw_or ha hb) fun σ H Q ⟨m, L, h, ρ, S, A⟩ => ?_
  refine Rg.bind (RC := rE Bool) S A fun m1 h1 H1 x v S1 l1 p1 q1 A1 => ?_
  obtain rfl : x = v := q1
  cases x with
  | true => exact Aft.ok (RA := rE Bool) S1 A1 rfl
  | false => exact ⟨m1, L, h1, ρ, S1, A1⟩
theorem mt_w (h : MW X Z a tx) : MT X Z a tx := h.pt
/-! ### and, or, not as values -/
theorem me_one {op : BoolOp} (h : ME X Z a ra) : ME X Z (.BoolOp op [a] pos) ra := pe_one h
theorem me_or (ha : ME X Z a ra) (hb : ME X Z (.BoolOp .Or (b :: rest) pos) rb) : ME X Z (.BoolOp .Or (a :: b :: rest) pos) (eOr ra rb) := by
  refine PE.imp (pe_orT ha hb) fun σ H Q ⟨m, L, h, ρ, S, A⟩ => ?_
  refine Rg.bind (RC := rD X.K) S A fun m1 h1 H1 x v S1 l1 p1 q1 A1 => ?_
  split at A1
  · rename_i e
    exact ⟨true, truD_ok S1.rh q1 e, iteT (Aft.ok (RA := rD X.K) S1 A1 q1)⟩
  · rename_i e
    exact ⟨false, truD_ok S1.rh q1 e, iteF ⟨m1, L, h1, ρ, S1, A1⟩⟩
  · exact False.elim A1
theorem me_and (ha : ME X Z a ra) (hb : ME X Z (.BoolOp .And (b :: rest) pos) rb) : ME X Z (.BoolOp .And (a :: b :: rest) pos) (eAnd ra rb) := by
  refine PE.imp (pe_andT ha hb) fun σ H Q ⟨m, L, h, ρ, S, A⟩ => ?_
  refine Rg.bind (RC := rD X.K) S A fun m1 h1 H1 x v S1 l1 p1 q1 A1 => ?_
  split at A1
  · rename_i e
    exact ⟨true, truD_ok S1.rh q1 e, iteT ⟨m1, L, h1, ρ, S1, A1⟩⟩
  · rename_i e
    exact ⟨false, truD_ok S1.rh q1 e, iteF (Aft.ok (RA := rD X.K) S1 A1 q1)⟩
  · exact False.elim A1
theorem me_not (ha : ME X Z a ra) : ME X Z (.UnaryOp .Not a pos) (eNot ra) := by
  refine PE.imp (pe_notT ha) fun σ H Q ⟨m, L, h, ρ, S, A⟩ => ?_
  refine Rg.bind (RC := rD X.K) S A fun m1 h1 H1 x v S1 l1 p1 q1 A1 => ?_
  split at A1
  · rename_i b e
    exact ⟨b, truD_ok S1.rh q1 e, Aft.ok (RA := rD X.K) S1 A1 (.bl _)⟩
  · exact False.elim A1
theorem me_if (ht : MT X Z c tx) (ha : ME X Z a ra) (hb : ME X Z b rb) : ME X Z (.IfExp c a b pos) (eIf tx ra rb) := by
  refine PE.imp (pe_ifExp ht ha hb) fun σ H Q ⟨m, L, h, ρ, S, A⟩ => ?_
  refine Rg.bind (RC := rD X.K) S A fun m1 h1 H1 x v S1 l1 p1 q1 A1 => ?_
  obtain rfl : x = v := q1
  cases x with
  | true => exact ⟨m1, L, h1, ρ, S1, A1⟩
  | false => exact ⟨m1, L, h1, ρ, S1, A1⟩
theorem mc_ch {op op' : CmpOp} {f g : B2} {r r' : R2} (ho : OpR X (compareOp op) r) (hf : OkB X.K f r) (ho' : OpR X (compareOp op') r') (hf' : OkB X.K g r') (ha : ME X Z a ra) (hb : ME X Z b rb) (hc : ME X Z c rc)
    (hm : lastMarks [op, op'] [b, c] = false := by with_unfolding_all rfl) : MC X Z (.Compare a [op, op'] [b, c] pos) (eCh f g ra rb rc) := by
  refine mc_of (pe_chain ho ho' ha hb hc hm) (pt_chain ho ho' ha hb hc hm) fun σ H Q ⟨m, L, h, ρ, S, A⟩ => ?_
  refine Rg.bind (RC := rD X.K) S A fun m1 h1 H1 x v S1 l1 p1 q1 A1 => ?_
  refine Rg.bind (RC := rD X.K) S1 A1 fun m2 h2 H2 y u S2 l2 p2 q2 A2 => ?_
  refine hf Z.G L m2 h2 H2 x y v u _ _ S2.rh S2.lk (q1.mono p2 l2) q2 (Aft.then (RC := rD X.K) S2 A2 fun m3 h3 H3 z w S3 l3 p3 q3 A3 => ?_)
  split at A3
  · cases q3
    refine ⟨true, rfl, iteT ?_⟩
    refine Rg.bind (RC := rD X.K) S3 A3 fun m4 h4 H4 d d' S4 l4 p4 q4 A4 => ?_
    exact hf' _ L m4 h4 H4 y d u d' Q _ S4.rh S4.lk ((q2.mono p3 l3).mono p4 l4) q4 A4
  · cases q3
    exact ⟨false, rfl, iteF (Aft.ok (RA := rD X.K) S3 A3 (.bl _))⟩
  · exact False.elim A3
/-! ### built-ins by name -/
theorem me_cb {id : String} {x : Str} {p : Pos} {f : List D → Hh → R D} {r : List V → Hp → VK → Prop} (hc : CallR X (.builtin id) r) (hf : OkL X.K f r) (hg : Gl X x) (hm : X.mg x = none) (hv : bootBuiltins x = some (.builtin id)) (ha : MA X Z (e :: es) rs)
    (hn : x ≠ "__name__" := by decide) (hdb : (x == ("__debug__" : Str)) = false := by decide) (he : starEach (e :: es) X.env = (false, eval e X.env) :: starEach es X.env := by rfl) (hpl : (backTo pos (starEach es X.env)).any (·.1) = false := by rfl) : ME X Z (.Call (.Name x p) (e :: es) [] pos) (eCB f rs) := by
  refine PE.imp (pe_callB hc hg hm hv ha hn hdb he hpl) fun σ H Q ⟨m, L, h, ρ, S, A⟩ => ?_
  refine Rg.bind (RC := rD X.K) S A fun m1 h1 H1 x v S1 l1 p1 q1 A1 => ?_
  exact hf _ L m1 h1 H1 x v Q _ S1.rh S1.lk q1 A1
theorem me_cty {T : String} {x : Str} {p : Pos} {f : List D → Hh → R D} {r : List V → Hp → VK → Prop} (hc : CallR X (.type T) r) (hf : OkL X.K f r) (hg : Gl X x) (hm : X.mg x = none) (hv : bootBuiltins x = some (.type T)) (ha : MA X Z (e :: es) rs)
    (hn : x ≠ "__name__" := by decide) (hdb : (x == ("__debug__" : Str)) = false := by decide) (he : starEach (e :: es) X.env = (false, eval e X.env) :: starEach es X.env := by rfl) (hpl : (backTo pos (starEach es X.env)).any (·.1) = false := by rfl) : ME X Z (.Call (.Name x p) (e :: es) [] pos) (eCB f rs) := by
  refine PE.imp (pe_callTy hc hg hm hv ha hn hdb he hpl) fun σ H Q ⟨m, L, h, ρ, S, A⟩ => ?_
  refine Rg.bind (RC := rD X.K) S A fun m1 h1 H1 x v S1 l1 p1 q1 A1 => ?_
  exact hf _ L m1 h1 H1 x v Q _ S1.rh S1.lk q1 A1
end
/-! ### a def's promise -/
/-- the def does what f says -/
def spF (K : PySem.W.Frag) (G : Gx) (np : Nat) (f : FX) : Sp := fun vs H Q E => vs.length = np ∧ ∃ (m : List Addr) (L : List Nat) (h : Hh) (ds : List D), RH K G L m h H ∧ (∀ k ∈ L, k < h.length) ∧ RDs K H m ds vs ∧ Aft K (rD K) G L m H (f ds L h) Q E
section
variable {X : Cx} {Z : Zx X.K} {e : Expr} {es : List Expr} {rs : AX} {pos p : Pos} {k np : Nat} {f : Addr} {fd : FuncData} {ps : List Str} {fx : FX} {x : Str}
/-- f(e, ..) -/
theorem me_call (F : FnOk X.prog X.w X.K X.mg X.base (L2.CX X.prog X.w) k f fd ps (spF X.K Z.G np fx)) (hr : Room k X.A) (hg : Gl X x) (hm : X.mg x = some (.ref f)) (hk : PySem.W.keepIn X.K (.ref f) = true) (hb : Binds X.K fd ps []) (tk : Takes X Z.W)
    (ha : MA X Z (e :: es) rs) (hdb : (x == ("__debug__" : Str)) = false := by decide) (he : starEach (e :: es) X.env = (false, eval e X.env) :: starEach es X.env := by rfl) (hpl : (backTo pos (starEach es X.env)).any (·.1) = false := by rfl) : ME X Z (.Call (.Name x p) (e :: es) [] pos) (eCall np fx rs) := by
  refine PE.imp (pe_callS F hr hg hm hk hb (fun σ => passAt tk σ) ha hdb he hpl) fun σ H Q ⟨m, L, h, ρ, S, A⟩ => ?_
  refine Rg.bind (RC := rD X.K) S A fun m1 h1 H1 ds vs S1 l1 p1 q1 A1 => ?_
  split at A1
  · rename_i hl
    exact ⟨by rw [← q1.length]; exact hl, m1, L, h1, ds, S1.rh, S1.lk, q1, A1⟩
  · exact False.elim A1
end
end Mi

/-! Mi, part E: statements, loops, a def's body. -/
namespace Mi
open PySem PySem.Spec PyProof.Rows L2
/-- behind a statement -/
def AftS (K : PySem.W.Frag) (G : Gx) (L : List Nat) (m : List Addr) (H : Hp) (r : SR) (D : Ends) (W : WX) : Prop := match r with
  | .nx ρ h => ∀ m' H' σ', Le m m' → Pers K H H' → RH K G L m' h H' → RS K H' m' ρ σ' → D.nx σ' H'
  | .ret d h => ∀ m' H' v, Le m m' → Pers K H H' → RH K G L m' h H' → RD K H' m' d v → D.rt v H'
  | .brk ρ h => ∀ m' H' σ', Le m m' → Pers K H H' → RH K G L m' h H' → RS K H' m' ρ σ' → D.bk σ' H'
  | .cnt ρ h => ∀ m' H' σ', Le m m' → Pers K H H' → RH K G L m' h H' → RS K H' m' ρ σ' → D.ct σ' H'
  | .exc c p ρ h => ∀ m' H' σ' cls d, Le m m' → Pers K H H' → RH K G L m' h H' → RS K H' m' ρ σ' → RX K G c p m' H' cls d → W cls d σ' H'
  | .bad => False
theorem AftS.mono {K : PySem.W.Frag} {G : Gx} {L : List Nat} {m m1 : List Addr} {H H1 : Hp} {r : SR} {D : Ends} {W : WX} (A : AftS K G L m H r D W) (l : Le m m1) (p : Pers K H H1) : AftS K G L m1 H1 r D W := by
  cases r with
  | nx ρ h => exact fun m' H' σ' l' p' r' q => A m' H' σ' (l.trans l') (p.trans p') r' q
  | ret d h => exact fun m' H' σ' l' p' r' q => A m' H' σ' (l.trans l') (p.trans p') r' q
  | brk ρ h => exact fun m' H' σ' l' p' r' q => A m' H' σ' (l.trans l') (p.trans p') r' q
  | cnt ρ h => exact fun m' H' σ' l' p' r' q => A m' H' σ' (l.trans l') (p.trans p') r' q
  | exc c q ρ h => exact fun m' H' σ' cls d l' p' r' q x => A m' H' σ' cls d (l.trans l') (p.trans p') r' q x
  | bad => exact A
/-- the reading of a statement -/
def Rs (K : PySem.W.Frag) (Z : Zx K) (s : SX) : TS := fun D σ H => ∃ m L h ρ, Stt K Z L m h ρ σ H ∧ AftS K Z.G L m H (s ρ L h) D Z.W
/-- the reading of a target -/
abbrev rR (K : PySem.W.Frag) : Rl Rho L2.St := fun m H ρ σ => RS K H m ρ σ
def Rt (K : PySem.W.Frag) (Z : Zx K) (g : GX) : TG := fun v σ H Q => ∃ m L h ρ d, Stt K Z L m h ρ σ H ∧ RD K H m d v ∧ Aft K (rR K) Z.G L m H (g d ρ L h) Q (wS Z.W σ)
def Rts (K : PySem.W.Frag) (Z : Zx K) (g : GsX) : TGs := fun v σ H Q => ∃ m L h ρ d, Stt K Z L m h ρ σ H ∧ RDs K H m d v ∧ Aft K (rR K) Z.G L m H (g d ρ L h) Q (wS Z.W σ)
abbrev MS (X : Cx) (Z : Zx X.K) (st : Stmt) (s : SX) : Prop := PS X st (Rs X.K Z s)
abbrev MB (X : Cx) (Z : Zx X.K) (st : List Stmt) (s : SX) : Prop := PSs X st (Rs X.K Z s)
abbrev MG (X : Cx) (Z : Zx X.K) (t : Expr) (g : GX) : Prop := PG X t (Rt X.K Z g)
abbrev MGs (X : Cx) (Z : Zx X.K) (t : List Expr) (g : GsX) : Prop := PGs X t (Rts X.K Z g)
section
variable {α β : Type} {K : PySem.W.Frag} {RA : Rl α β} {Z : Zx K} {L : List Nat} {m : List Addr} {h : Hh} {ρ : Rho} {σ : L2.St} {H : Hp} {D : Ends}
theorem Stt.set [NoJ Z] {ρ' : Rho} {σ' : L2.St} (S : Stt K Z L m h ρ σ H) (r : RS K H m ρ' σ') : Stt K Z L m h ρ' σ' H := ⟨S.rh, r, S.iv, S.lk, fun p e => by rw [NoJ.h] at e; cases e⟩
theorem AftS.nx (S : Stt K Z L m h ρ σ H) {W : WX} (A : AftS K Z.G L m H (.nx ρ h) D W) : D.nx σ H := A m H σ (Le.refl m) (Pers.refl H) S.rh S.rs
/-- an expression, then the rest of the statement -/
theorem Rg.toS {ra : Rho → List Nat → Hh → R α} {f : α → Hh → SR} {F : β → Hp → Prop} (S : Stt K Z L m h ρ σ H) (A : AftS K Z.G L m H ((ra ρ L h).toS ρ f) D Z.W)
    (k : ∀ m1 h1 H1 a x, Stt K Z L m1 h1 ρ σ H1 → Le m m1 → Pers K H H1 → RA m1 H1 a x → AftS K Z.G L m1 H1 (f a h1) D Z.W → F x H1) : Rg K RA Z ra σ H F := by
  refine ⟨m, L, h, ρ, S, ?_⟩
  cases e : ra ρ L h with
  | ok a h1 =>
    rw [e] at A
    exact fun m1 H1 v l p r q => k m1 h1 H1 a v (S.on l p r) l p q (AftS.mono (A : AftS K Z.G L m H (f a h1) D Z.W) l p)
  | exc c q h1 =>
    rw [e] at A
    exact fun m1 H1 cls d l p r x => (A : AftS K Z.G L m H (.exc c q ρ h1) D Z.W) m1 H1 σ cls d l p r (S.rs.mono p l) x
  | bad =>
    rw [e] at A
    exact False.elim A
theorem Rg.toSE {ra : Rho → List Nat → Hh → R α} {f : α → Hh → SR} {F : β → Hp → Prop} (S : Stt K Z L m h ρ σ H) (A : AftS K Z.G L m H ((ra ρ L h).toS ρ f) D Z.W)
    (k : ∀ m1 h1 H1 a x, ra ρ L h = .ok a h1 → Stt K Z L m1 h1 ρ σ H1 → Le m m1 → Pers K H H1 → RA m1 H1 a x → AftS K Z.G L m1 H1 (f a h1) D Z.W → F x H1) : Rg K RA Z ra σ H F := by
  refine ⟨m, L, h, ρ, S, ?_⟩
  cases e : ra ρ L h with
  | ok a h1 =>
    rw [e] at A
    exact fun m1 H1 v l p r q => k m1 h1 H1 a v e (S.on l p r) l p q (AftS.mono (A : AftS K Z.G L m H (f a h1) D Z.W) l p)
  | exc c q h1 =>
    rw [e] at A
    exact fun m1 H1 cls d l p r x => (A : AftS K Z.G L m H (.exc c q ρ h1) D Z.W) m1 H1 σ cls d l p r (S.rs.mono p l) x
  | bad =>
    rw [e] at A
    exact False.elim A
/-- a result by values, then the rest of the statement -/
theorem Aft.toS {r : R α} {f : α → Hh → SR} {F : β → Hp → Prop} (S : Stt K Z L m h ρ σ H) (A : AftS K Z.G L m H (r.toS ρ f) D Z.W)
    (k : ∀ m1 h1 H1 a x, Stt K Z L m1 h1 ρ σ H1 → Le m m1 → Pers K H H1 → RA m1 H1 a x → AftS K Z.G L m1 H1 (f a h1) D Z.W → F x H1) : Aft K RA Z.G L m H r F (wS Z.W σ) := by
  cases r with
  | ok a h1 => exact fun m1 H1 v l p r q => k m1 h1 H1 a v (S.on l p r) l p q (AftS.mono (A : AftS K Z.G L m H (f a h1) D Z.W) l p)
  | exc c q h1 => exact fun m1 H1 cls d l p r x => (A : AftS K Z.G L m H (.exc c q ρ h1) D Z.W) m1 H1 σ cls d l p r (S.rs.mono p l) x
  | bad => exact A
end
section
variable {X : Cx} {Z : Zx X.K} {a b c e o i tg : Expr} {st : Stmt} {sts body orelse : List Stmt} {ra rb rc : EX} {pos pos' : Pos} {tx : TX} {s t : SX} {g : GX} {gs : GsX}
theorem mb_nil : MB X Z [] sNil := PSs.imp pss_nil fun D σ H ⟨m, L, h, ρ, S, A⟩ => A.nx S
theorem ms_pass : MS X Z (.Pass pos) sNil := PS.imp ps_pass fun D σ H ⟨m, L, h, ρ, S, A⟩ => A.nx S
theorem ms_brk : MS X Z (.Break pos) sBrk := PS.imp ps_break fun D σ H ⟨m, L, h, ρ, S, A⟩ => (A : ∀ _, _) m H σ (Le.refl m) (Pers.refl H) S.rh S.rs
theorem ms_cnt : MS X Z (.Continue pos) sCnt := PS.imp ps_continue fun D σ H ⟨m, L, h, ρ, S, A⟩ => (A : ∀ _, _) m H σ (Le.refl m) (Pers.refl H) S.rh S.rs
theorem mb_one (h : MS X Z st s) : MB X Z [st] s := pss_one h
/-- the reading of what follows -/
theorem aft_seq {K : PySem.W.Frag} {Z : Zx K} [NoJ Z] {L : List Nat} {m : List Addr} {h : Hh} {ρ : Rho} {σ : L2.St} {H : Hp} {D : Ends} {r : SR} (S : Stt K Z L m h ρ σ H) (A : AftS K Z.G L m H (r.seq fun ρ' h' => t ρ' L h') D Z.W) :
    AftS K Z.G L m H r { D with nx := Rs K Z t D } Z.W := by
  cases r with
  | nx ρ1 h1 => exact fun m' H' σ' l p r q => ⟨m', L, h1, ρ1, (S.on l p r).set q, AftS.mono (A : AftS K Z.G L m H (t ρ1 L h1) D Z.W) l p⟩
  | _ => exact A
theorem mb_cons [NoJ Z] (h1 : MS X Z st s) (h2 : MB X Z sts t) : MB X Z (st :: sts) (sSeq s t) :=
  PSs.imp (pss_cons h1 h2) fun D σ H ⟨m, L, h, ρ, S, A⟩ => ⟨m, L, h, ρ, S, aft_seq S A⟩
theorem ms_expr (he : ME X Z e ra) (hs : swapsWith e none pos.line X.env = pure false := by rfl) : MS X Z (.Expr e pos) (sDrop ra) := by
  refine PS.imp (ps_expr he hs) fun D σ H ⟨m, L, h, ρ, S, A⟩ => ?_
  exact Rg.toS S A fun m1 h1 H1 x v S1 l1 p1 q1 A1 => A1.nx S1
theorem ms_doc {x : Str} {j : Nat} : MS X Z (.Expr (.Constant (.str x) j pos) pos') sNil := PS.imp ps_doc fun D σ H ⟨m, L, h, ρ, S, A⟩ => A.nx S
theorem ms_ret (he : ME X Z e ra) : MS X Z (.Return (some e) pos) (sRet ra) := by
  refine PS.imp (ps_ret he) fun D σ H ⟨m, L, h, ρ, S, A⟩ => ?_
  exact Rg.toS S A fun m1 h1 H1 x v S1 l1 p1 q1 A1 => (A1 : ∀ _, _) m1 H1 v (Le.refl _) (Pers.refl _) S1.rh q1
theorem ms_retN : MS X Z (.Return none pos) sRetN := PS.imp ps_retN fun D σ H ⟨m, L, h, ρ, S, A⟩ => (A : ∀ _, _) m H .non (Le.refl _) (Pers.refl _) S.rh .non
theorem ms_if (hc : MT X Z c tx) (ha : MB X Z body s) (hb : MB X Z orelse t) : MS X Z (.If c body orelse pos) (sIf tx s t) := by
  refine PS.imp (ps_if hc ha hb) fun D σ H ⟨m, L, h, ρ, S, A⟩ => ?_
  refine Rg.toS S A fun m1 h1 H1 x v S1 l1 p1 q1 A1 => ?_
  obtain rfl : x = v := q1
  cases x with
  | true => exact ⟨m1, L, h1, ρ, S1, A1⟩
  | false => exact ⟨m1, L, h1, ρ, S1, A1⟩
/-! ### targets -/
theorem mg_name {i : Nat} {x : Str} (hN : X.N.Nodup) (hi : X.N[i]? = some x) (hx : Loc X.env.scope x) (hf : X.fn x = true ∨ X.env.scope.names.lookup x = some .local := by first | exact .inl rfl | exact .inr rfl | assumption) : MG X Z (.Name x pos) (gVar i) :=
  PG.imp (pg_name hN hi hx hf) fun v σ H Q ⟨m, L, h, ρ, d, S, r, A⟩ => (A : ∀ _, _) m H _ (Le.refl _) (Pers.refl _) S.rh (S.rs.set i r)
theorem PGs.imp {X : Cx} {e : List Expr} {t t' : TGs} (h : PGs X e t) (i : ∀ v σ H Q, t' v σ H Q → t v σ H Q) : PGs X e t' := ⟨fun pins s σ H v u Q I r q => h.run pins s σ H v u Q I r (i v σ H Q q)⟩
theorem mgs_nil : MGs X Z [] gsNil := PGs.imp pgs_nil fun v σ H Q ⟨m, L, h, ρ, d, S, r, A⟩ => by
  cases r with
  | nil => exact ⟨rfl, (A : ∀ _, _) m H _ (Le.refl _) (Pers.refl _) S.rh S.rs⟩
  | cons _ _ => exact False.elim A
theorem mgs_cons [NoJ Z] {es : List Expr} (h1 : MG X Z e g) (h2 : MGs X Z es gs) (hs : (assignEach (e :: es) X.env).map (·.2) = assign e X.env :: (assignEach es X.env).map (·.2) := by rfl) : MGs X Z (e :: es) (gsCons g gs) :=
  PGs.imp (pgs_cons h1 h2 hs) fun v σ H Q ⟨m, L, h, ρ, d, S, r, A⟩ => by
    cases r with
    | nil => exact False.elim A
    | cons q t =>
      refine ⟨_, _, rfl, m, L, h, ρ, _, S, q, Aft.then (RC := rR X.K) S A fun m1 h1 H1 ρ1 σ1 S1 l1 p1 q1 A1 => ?_⟩
      have A1' : Aft X.K (rR X.K) Z.G L m1 H1 (gs _ ρ1 L h1).noExc Q (wS Z.W σ) := A1
      refine ⟨m1, L, h1, ρ1, _, S1.set q1, t.mono p1 l1, ?_⟩
      cases e2 : gs _ ρ1 L h1 with
      | ok a h2 => rw [e2] at A1'; exact A1'
      | exc c q h2 => rw [e2] at A1'; exact False.elim A1'
      | bad => rw [e2] at A1'; exact A1'
theorem mg_tup {es : List Expr} {k n : Nat} (hc : X.calm = true) (h : MGs X Z es gs) (hn : (assignEach es X.env).length = n := by rfl) (hst : (assignEach es X.env).findIdx? (·.1) = none := by rfl) : MG X Z (.Tuple es k pos) (gTupX n gs) :=
  PG.imp (pg_tup hc h hn hst) fun v σ H Q ⟨m, L, h, ρ, d, S, r, A⟩ => by
    cases r with
    | tup hh t =>
      simp only [gTupX] at A
      split at A
      · rename_i hl
        exact ⟨_, _, rfl, hh.t, by rw [← t.length]; exact hl, m, L, h, ρ, _, S, t, A⟩
      · exact False.elim A
    | _ => exact False.elim A
/-! ### stores -/
theorem aft_rho {K : PySem.W.Frag} {Z : Zx K} {L : List Nat} {m : List Addr} {h : Hh} {ρ : Rho} {σ : L2.St} {H : Hp} {D : Ends} {r : R Rho} (S : Stt K Z L m h ρ σ H) (A : AftS K Z.G L m H (r.toS ρ fun ρ' h' => .nx ρ' h') D Z.W) : Aft K (rR K) Z.G L m H r D.nx (wS Z.W σ) :=
  Aft.toS S A fun m1 h1 H1 ρ1 σ1 S1 l1 p1 q1 A1 => (A1 : ∀ _, _) m1 H1 σ1 (Le.refl _) (Pers.refl _) S1.rh q1
theorem ms_asg (he : ME X Z e ra) (hg : MG X Z tg g) (hs : swapsWithSole [tg] e pos.line X.env = pure false := by rfl) (hw : swappedStores [tg] e X.env = pure none := by rfl)
    (h1 : (assignEach [tg] X.env).map (·.2) = [assign tg X.env] := by rfl) : MS X Z (.Assign [tg] e pos) (sAsg ra g) := by
  refine PS.imp (ps_asg he hg hs hw h1) fun D σ H ⟨m, L, h, ρ, S, A⟩ => ?_
  refine Rg.toS S A fun m1 h1 H1 x v S1 l1 p1 q1 A1 => ?_
  exact ⟨m1, L, h1, ρ, x, S1, q1, aft_rho S1 A1⟩
theorem ms_set {i : Nat} {x : Str} (hN : X.N.Nodup) (hi : X.N[i]? = some x) (hx : Loc X.env.scope x) (he : ME X Z e ra) (hs : swapsWith e (some (.Name x pos')) pos.line X.env = pure false := by rfl) (hf : X.fn x = true ∨ X.env.scope.names.lookup x = some .local := by first | exact .inl rfl | exact .inr rfl | assumption) :
    MS X Z (.Assign [.Name x pos'] e pos) (sAsg ra (gVar i)) := by
  refine PS.imp (ps_set hN hi hx he hs hf) fun D σ H ⟨m, L, h, ρ, S, A⟩ => ?_
  refine Rg.toS S A fun m1 h1 H1 x v S1 l1 p1 q1 A1 => ?_
  exact (A1 : ∀ _, _) m1 H1 _ (Le.refl _) (Pers.refl _) S1.rh (S1.rs.set i q1)
theorem ms_aug {i : Nat} {x : Str} {op : Operator} {f : B2} {r : R2} (ho : PIp X op r) (hf' : OkB X.K f r) (hN : X.N.Nodup) (hi : X.N[i]? = some x) (hx : Loc X.env.scope x) (he : ME X Z e ra) (hf : X.fn x = true ∨ X.env.scope.names.lookup x = some .local := by first | exact .inl rfl | exact .inr rfl | assumption) :
    MS X Z (.AugAssign (.Name x pos') op e pos) (sAug i f ra) := by
  refine PS.imp (ps_aug hN hi hx he ho hf) fun D σ H ⟨m, L, h, ρ, S, A⟩ => ?_
  unfold sAug at A
  split at A
  · rename_i x ex
    obtain ⟨v, hv, rv⟩ := S.rs.2 i x ex
    refine ⟨v, hv, Rg.toS S A fun m1 h1 H1 y u S1 l1 p1 q1 A1 => ?_⟩
    refine hf' _ L m1 h1 H1 x y v u _ _ S1.rh S1.lk (rv.mono p1 l1) q1 (Aft.toS S1 A1 fun m2 h2 H2 z w S2 l2 p2 q2 A2 => ?_)
    exact (A2 : ∀ _, _) m2 H2 _ (Le.refl _) (Pers.refl _) S2.rh (S2.rs.set i q2)
  · exact False.elim A
theorem RK.put {κ : Type} [DecidableEq κ] {K : PySem.W.Frag} {H : Hp} {m : List Addr} {ds : List (κ × D)} {vs : List (κ × V)} {k : κ} {d : D} {v : V} (r : RK K H m ds vs) (q : RD K H m d v) : RK K H m (putD ds k d) (putK vs k v) := by
  have ha : ∀ {ds : List (κ × D)} {vs : List (κ × V)}, RK K H m ds vs → (ds.any fun kv => decide (kv.1 = k)) = vs.any fun kv => decide (kv.1 = k) := by
    intro ds vs r
    induction r with
    | nil => rfl
    | cons q t ih => rw [List.any_cons, List.any_cons, ih, q.1]
  have hm : ∀ {ds : List (κ × D)} {vs : List (κ × V)}, RK K H m ds vs → RK K H m (ds.map fun kv => if kv.1 = k then (kv.1, d) else kv) (vs.map fun kv => if kv.1 = k then (kv.1, v) else kv) := by
    intro ds vs r
    induction r with
    | nil => exact .nil
    | cons q' t ih =>
      rename_i p p' _ _
      refine .cons ?_ ih
      obtain ⟨k1, d1⟩ := p
      obtain ⟨k2, v2⟩ := p'
      obtain ⟨rfl, q2⟩ : k1 = k2 ∧ RD K H m d1 v2 := q'
      by_cases e : k1 = k
      · simp only [e, if_true]; exact ⟨trivial, q⟩
      · simp only [e, if_false]; exact ⟨trivial, q2⟩
  have hs : ∀ {ds : List (κ × D)} {vs : List (κ × V)}, RK K H m ds vs → RK K H m (ds ++ [(k, d)]) (vs ++ [(k, v)]) := by
    intro ds vs r
    induction r with
    | nil => exact .cons ⟨rfl, q⟩ .nil
    | cons q' t ih => exact .cons q' ih
  unfold putD putK
  rw [ha r]
  split
  · exact hm r
  · exact hs r
/-- is the thing a list -/
def isLst (x : D) (h : Hh) : Bool := match x with
  | .ref n => (match h[n]? with
    | some (.lst _) => true
    | _ => false)
  | _ => false
theorem setIx_lst {K : PySem.W.Frag} {Z : Zx K} {L : List Nat} {m : List Addr} {h h' : Hh} {ρ : Rho} {σ : L2.St} {H : Hp} {x y d : D} {v u w : V} {D' : Ends} (S : Stt K Z L m h ρ σ H) (rx : RD K H m x v) (ry : RD K H m y u) (rd : RD K H m d w)
    (e : setIx x y d L h = some h') (A : AftS K Z.G L m H (.nx ρ h') D' Z.W) : (isLst x h = true → rSetL v u w H (fun H' => D'.nx σ H')) ∧ (isLst x h = false → ∃ a H4, v = .ref a ∧ DPut H a u w H4 ∧ D'.nx σ H4) := by
  cases rx with
  | ref hn =>
    rename_i n a
    simp only [setIx] at e
    split at e
    · cases e
    · rename_i nl
      split at e
      · rename_i xs ex
        obtain ⟨vs, hv, t⟩ := S.rh.lstH hn ex
        cases ry with
        | int k =>
          simp only at e
          split at e
          · rename_i j hj
            cases e
            obtain ⟨r', p'⟩ := S.rh.put ex hn nl (o' := .lst (xs.set j d)) (u' := .lst (vs.set j w)) (RDs.set rd j t)
            exact ⟨fun _ => ⟨a, vs, k, j, rfl, rfl, hv, by rw [← t.length]; exact hj, (A : ∀ _, _) m _ σ (Le.refl _) p' r' (S.rs.mono p' (Le.refl _))⟩, fun z => by simp [isLst, ex] at z⟩
          · cases e
        | _ => cases e
      · rename_i kvs ex
        obtain ⟨u0, q0, i1, i2⟩ := S.rh.at_ n _ a ex hn
        cases u0 <;> first | exact False.elim q0 | skip
        rename_i kvs'
        split at e
        · rename_i k hk
          split at e
          · rename_i hl
            cases e
            obtain ⟨r', p'⟩ := S.rh.put ex hn nl (o' := .dic (putD kvs k d)) (u' := .dK (putK kvs' k w)) (RK.put q0 rd)
            exact ⟨fun z => by simp [isLst, ex] at z, fun _ => ⟨a, _, rfl, .inl ⟨kvs', k, i2 nl, keyD_ok ry hk, by rw [← RK.length q0]; exact hl, rfl⟩, (A : ∀ _, _) m _ σ (Le.refl _) p' r' (S.rs.mono p' (Le.refl _))⟩⟩
          · cases e
        · cases e
      · rename_i kvs ex
        obtain ⟨u0, q0, i1, i2⟩ := S.rh.at_ n _ a ex hn
        cases u0 <;> first | exact False.elim q0 | skip
        rename_i kvs'
        split at e
        · rename_i ds
          split at e
          · rename_i ks hk
            split at e
            · rename_i hl
              cases e
              cases ry with
              | tup hh t =>
                rename_i b us
                obtain ⟨e1, e2⟩ := keysD_ok t hk
                have hb : H b = some (.tup us) := hh.elim id fun z => absurd z.1 e2
                obtain ⟨r', p'⟩ := S.rh.put ex hn nl (o' := .dct (putD kvs ks d)) (u' := .dT (putK kvs' ks w)) (RK.put q0 rd)
                exact ⟨fun z => by simp [isLst, ex] at z, fun _ => ⟨a, _, rfl, .inr ⟨kvs', ks, b, i2 nl, rfl, by rw [hb, e1], by rw [← RK.length q0]; exact hl, rfl⟩, (A : ∀ _, _) m _ σ (Le.refl _) p' r' (S.rs.mono p' (Le.refl _))⟩⟩
            · cases e
          · cases e
        · cases e
      · cases e
  | _ => cases e
theorem ms_put (hu : X.A.units + 1 < cLine) (ho : ME X Z o rb) (hi : ME X Z i rc) (he : ME X Z e ra) (hs : swapsWithSole [.Subscript o i pos'] e pos.line X.env = pure false := by rfl) (hs' : swapsWith e (some (.Subscript o i pos')) pos.line X.env = pure false := by rfl) (hw : swappedStores [.Subscript o i pos'] e X.env = pure none := by rfl)
    (h1 : (assignEach [.Subscript o i pos'] X.env).map (·.2) = [assign (.Subscript o i pos') X.env] := by rfl)
    (hq : ∀ v, assign (.Subscript o i pos') X.env v = (do
      let ov ← holding [v] (eval o X.env)
      let iv ← holding [v, ov] (eval i X.env)
      standAt pos'
      holding [v, ov, iv] (setItem ov iv v)
      release [v, ov, iv] []) := by intro _; rfl) : MS X Z (.Assign [.Subscript o i pos'] e pos) (sPut rb rc ra) := by
  refine PS.imp (PS.or (ps_asg he (pg_sub ho hi set_list hq) hs hw h1) (ps_dput hu ho hi he hs')) fun D σ H ⟨m, L, h, ρ, S, A⟩ => ?_
  by_cases hd : ∃ d h1 x h2 y h3, ra ρ L h = .ok d h1 ∧ rb ρ L h1 = .ok x h2 ∧ rc ρ L h2 = .ok y h3 ∧ isLst x h3 = false
  · refine .inr ?_
    obtain ⟨d, h1, x, h2, y, h3, e1, e2, e3, e4⟩ := hd
    refine Rg.toSE S A fun m1 h1' H1 d' w f1 S1 l1 p1 q1 A1 => ?_
    rw [e1] at f1
    cases f1
    refine Rg.toSE S1 A1 fun m2 h2' H2 x' v f2 S2 l2 p2 q2 A2 => ?_
    rw [e2] at f2
    cases f2
    refine Rg.toSE S2 A2 fun m3 h3' H3 y' u f3 S3 l3 p3 q3 A3 => ?_
    rw [e3] at f3
    cases f3
    split at A3
    · rename_i h4 es
      exact (setIx_lst S3 (q2.mono p3 l3) q3 ((q1.mono p2 l2).mono p3 l3) es A3).2 e4
    · exact False.elim A3
  · refine .inl ?_
    refine Rg.toSE S A fun m1 h1 H1 d w f1 S1 l1 p1 q1 A1 => ?_
    show Rg X.K (rD X.K) Z rb σ H1 _
    refine Rg.toSE S1 A1 fun m2 h2 H2 x v f2 S2 l2 p2 q2 A2 => ?_
    refine Rg.toSE S2 A2 fun m3 h3 H3 y u f3 S3 l3 p3 q3 A3 => ?_
    split at A3
    · rename_i h4 es
      refine (setIx_lst S3 (q2.mono p3 l3) q3 ((q1.mono p2 l2).mono p3 l3) es A3).1 ?_
      cases z : isLst x h3 with
      | true => rfl
      | false => exact absurd ⟨d, h1, x, h2, y, h3, f1, f2, f3, z⟩ hd
    · exact False.elim A3

/-! ### loops -/
/-- what is walked: at turn i the item i of xs comes, while P stands -/
structure Src (K : PySem.W.Frag) (G : Gx) (J : It) (xs : List D) (P : List Addr → Hp → Prop) : Prop where
  mono : ∀ {m m' : List Addr} {H H' : Hp}, P m H → Le m m' → Pers K H H' → P m' H'
  go : ∀ {i : Nat} {m : List Addr} {H : Hp}, P m H → i < xs.length → J.go i H
  yld : ∀ {i : Nat} {m : List Addr} {H H' : Hp} {d : D} {v : V}, P m H → xs[i]? = some d → J.yld i H v H' → Pers K H H' ∧ (∀ L h, RH K G L m h H → RH K G L m h H') ∧ RD K H' m d v
  stop : ∀ {i : Nat} {m : List Addr} {H : Hp}, P m H → xs.length ≤ i → J.stop i H
/-- behind a turn -/
theorem aft_turn {K : PySem.W.Frag} {Z : Zx K} [NoJ Z] {L : List Nat} {m : List Addr} {h : Hh} {ρ : Rho} {σ : L2.St} {H : Hp} {D : Ends} {r : SR} {go : Rho → Hh → SR} {N : L2.St → Hp → Prop} (S : Stt K Z L m h ρ σ H)
    (A : AftS K Z.G L m H (match r with
      | .nx ρ2 h2 => go ρ2 h2
      | .cnt ρ2 h2 => go ρ2 h2
      | .brk ρ2 h2 => .nx ρ2 h2
      | r => r) D Z.W) (hN : ∀ m1 h1 ρ1 H1 σ1, Stt K Z L m1 h1 ρ1 σ1 H1 → Le m m1 → Pers K H H1 → AftS K Z.G L m1 H1 (go ρ1 h1) D Z.W → N σ1 H1) :
    AftS K Z.G L m H r { D with nx := N, ct := N, bk := D.nx } Z.W := by
  cases r with
  | nx ρ1 h1 => exact fun m' H' σ' l p r q => hN m' h1 ρ1 H' σ' ((S.on l p r).set q) l p (AftS.mono (A : AftS K Z.G L m H (go ρ1 h1) D Z.W) l p)
  | cnt ρ1 h1 => exact fun m' H' σ' l p r q => hN m' h1 ρ1 H' σ' ((S.on l p r).set q) l p (AftS.mono (A : AftS K Z.G L m H (go ρ1 h1) D Z.W) l p)
  | brk ρ1 h1 => exact A
  | ret d h1 => exact A
  | exc c q ρ1 h1 => exact A
  | bad => exact A
/-- one turn: the target takes the item, the body runs -/
theorem turn_ok {K : PySem.W.Frag} {Z : Zx K} [NoJ Z] {L : List Nat} {m : List Addr} {h : Hh} {ρ : Rho} {σ : L2.St} {H : Hp} {D : Ends} {g : GX} {b : SX} {d : Mi.D} {v : V} {go : Rho → Hh → SR} {N : L2.St → Hp → Prop} (S : Stt K Z L m h ρ σ H) (q : RD K H m d v)
    (A : AftS K Z.G L m H (match (g d ρ L h).toS ρ fun ρ1 h1 => b ρ1 L h1 with
      | .nx ρ2 h2 => go ρ2 h2
      | .cnt ρ2 h2 => go ρ2 h2
      | .brk ρ2 h2 => .nx ρ2 h2
      | r => r) D Z.W) (hN : ∀ m1 h1 ρ1 H1 σ1, Stt K Z L m1 h1 ρ1 σ1 H1 → Le m m1 → Pers K H H1 → AftS K Z.G L m1 H1 (go ρ1 h1) D Z.W → N σ1 H1) :
    Rt K Z g v σ H fun σ2 H2 => Rs K Z b { D with nx := N, ct := N, bk := D.nx } σ2 H2 := by
  refine ⟨m, L, h, ρ, d, S, q, ?_⟩
  cases e : g d ρ L h with
  | ok ρ1 h1 =>
    rw [e] at A
    intro m1 H1 σ1 l p r q1
    exact ⟨m1, L, h1, ρ1, (S.on l p r).set q1, aft_turn ((S.on l p r).set q1) (AftS.mono A l p) fun m2 h2 ρ2 H2 σ2 S2 l2 p2 A2 => hN m2 h2 ρ2 H2 σ2 S2 (l.trans l2) (p.trans p2) A2⟩
  | exc c p h1 =>
    rw [e] at A
    exact fun m1 H1 cls d l p r x => (A : AftS K Z.G L m H (.exc c _ ρ h1) D Z.W) m1 H1 σ cls d l p r (S.rs.mono p l) x
  | bad =>
    rw [e] at A
    exact False.elim A
/-- the loop over items that stand still -/
theorem for_still {K : PySem.W.Frag} {Z : Zx K} [NoJ Z] {J : It} {xs : List Mi.D} {P : List Addr → Hp → Prop} (B : Src K Z.G J xs P) {L : List Nat} {m : List Addr} {h : Hh} {ρ : Rho} {σ : L2.St} {H : Hp} {D : Ends} {g : GX} {b : SX} (S : Stt K Z L m h ρ σ H) (hP : P m H)
    (A : AftS K Z.G L m H (loopV g b xs ρ L h) D Z.W) :
    ∃ W : Nat → Nat → L2.St → Hp → Prop, (∃ k, W 0 k σ H) ∧ ∀ i k σ H, W i k σ H →
      (J.stop i H ∧ D.nx σ H) ∨ (J.go i H ∧ ∃ N : L2.St → Hp → Prop, (∀ σ' H', N σ' H' → ∃ k', k' < k ∧ W (i + 1) k' σ' H') ∧ ∀ x H', J.yld i H x H' → Rt K Z g x σ H' fun σ2 H2 => Rs K Z b { D with nx := N, ct := N, bk := D.nx } σ2 H2) := by
  refine ⟨fun i k σ H => k = xs.length - i ∧ i ≤ xs.length ∧ ∃ m L h ρ, Stt K Z L m h ρ σ H ∧ P m H ∧ AftS K Z.G L m H (loopV g b (xs.drop i) ρ L h) D Z.W, ⟨_, rfl, Nat.zero_le _, m, L, h, ρ, S, hP, A⟩, ?_⟩
  rintro i k σ H ⟨rfl, hi, m, L, h, ρ, S, hP, A⟩
  by_cases e : i = xs.length
  · subst e
    rw [List.drop_length] at A
    exact .inl ⟨B.stop hP (Nat.le_refl _), A.nx S⟩
  · have hlt : i < xs.length := by omega
    rw [List.drop_eq_getElem_cons hlt] at A
    refine .inr ⟨B.go hP hlt, fun σ' H' => xs.length - (i + 1) = xs.length - (i + 1) ∧ i + 1 ≤ xs.length ∧ ∃ m L h ρ, Stt K Z L m h ρ σ' H' ∧ P m H' ∧ AftS K Z.G L m H' (loopV g b (xs.drop (i + 1)) ρ L h) D Z.W, fun σ' H' z => ⟨_, by omega, z⟩, fun x H' y => ?_⟩
    obtain ⟨p1, r1, q1⟩ := B.yld hP (List.getElem?_eq_getElem hlt) y
    have S1 : Stt K Z L m h ρ σ H' := S.on (Le.refl _) p1 (r1 _ _ S.rh)
    exact turn_ok S1 q1 (AftS.mono A (Le.refl _) p1) fun m1 h1 ρ1 H1 σ1 S2 l2 p2 A2 => ⟨rfl, hlt, m1, L, h1, ρ1, S2, B.mono hP l2 (p1.trans p2), A2⟩
/-- the loop over a list that stands at a number -/
theorem for_live {K : PySem.W.Frag} {Z : Zx K} [NoJ Z] {n : Nat} {a : Addr} {L : List Nat} {m : List Addr} {h : Hh} {ρ : Rho} {σ : L2.St} {H : Hp} {D : Ends} {g : GX} {b : SX} {f : Nat} (S : Stt K Z L m h ρ σ H) (hn : m[n]? = some a)
    (A : AftS K Z.G L m H (loopL g b n f 0 ρ L h) D Z.W) :
    ∃ W : Nat → Nat → L2.St → Hp → Prop, (∃ k, W 0 k σ H) ∧ ∀ i k σ H, W i k σ H →
      ((Itl K a).stop i H ∧ D.nx σ H) ∨ ((Itl K a).go i H ∧ ∃ N : L2.St → Hp → Prop, (∀ σ' H', N σ' H' → ∃ k', k' < k ∧ W (i + 1) k' σ' H') ∧ ∀ x H', (Itl K a).yld i H x H' → Rt K Z g x σ H' fun σ2 H2 => Rs K Z b { D with nx := N, ct := N, bk := D.nx } σ2 H2) := by
  refine ⟨fun i k σ H => ∃ m L h ρ, Stt K Z L m h ρ σ H ∧ m[n]? = some a ∧ AftS K Z.G L m H (loopL g b n k i ρ L h) D Z.W, ⟨f, m, L, h, ρ, S, hn, A⟩, ?_⟩
  rintro i k σ H ⟨m, L, h, ρ, S, hn, A⟩
  cases k with
  | zero => exact False.elim A
  | succ k =>
    simp only [loopL] at A
    split at A
    · rename_i xs ex
      obtain ⟨vs, hv, t⟩ := S.rh.lstH hn ex
      split at A
      · rename_i e
        exact .inl ⟨⟨vs, .of hv, List.getElem?_eq_none_iff.mp (t.none_of e)⟩, A.nx S⟩
      · rename_i x e
        obtain ⟨v, hv1, q⟩ := t.get e
        refine .inr ⟨⟨vs, v, .of hv, hv1⟩, fun σ' H' => ∃ m L h ρ, Stt K Z L m h ρ σ' H' ∧ m[n]? = some a ∧ AftS K Z.G L m H' (loopL g b n k (i + 1) ρ L h) D Z.W, fun σ' H' z => ⟨k, Nat.lt_succ_self _, z⟩, fun x' H' y => ?_⟩
        obtain ⟨rfl, y⟩ := y
        have ex' : x' = v := by
          have := y vs (.of hv)
          rw [hv1] at this
          exact (Option.some.inj this).symm
        subst ex'
        exact turn_ok S q A fun m1 h1 ρ1 H1 σ1 S2 l2 p2 A2 => ⟨m1, L, h1, ρ1, S2, l2 _ _ hn, A2⟩
    · exact False.elim A
theorem src_tup {K : PySem.W.Frag} {G : Gx} {a : Addr} {xs : List Mi.D} {vs : List V} : Src K G (Itt K a) xs fun m H => SqD K H a vs ∧ RDs K H m xs vs where
  mono := fun h l p => ⟨p.tup _ _ h.1, h.2.mono p l⟩
  go := fun {i m H} h hi => ⟨vs, vs[i]'(by rw [← h.2.length]; exact hi), h.1.t, List.getElem?_eq_getElem _⟩
  yld := fun h e y => by
    obtain ⟨rfl, y⟩ := y
    obtain ⟨w, hw, q⟩ := h.2.get e
    have := y vs h.1.t
    rw [hw] at this
    cases this
    exact ⟨Pers.refl _, fun _ _ r => r, q⟩
  stop := fun h hi => ⟨vs, h.1.t, by rw [← h.2.length]; exact hi⟩
theorem src_frl {K : PySem.W.Frag} {G : Gx} {a : Addr} {xs : List Mi.D} {vs : List V} : Src K G (Itl K a) xs fun m H => SqF K H a vs ∧ RDs K H m xs vs where
  mono := fun h l p => ⟨p.frl _ _ h.1, h.2.mono p l⟩
  go := fun {i m H} h hi => ⟨vs, vs[i]'(by rw [← h.2.length]; exact hi), h.1.l, List.getElem?_eq_getElem _⟩
  yld := fun h e y => by
    obtain ⟨rfl, y⟩ := y
    obtain ⟨w, hw, q⟩ := h.2.get e
    have := y vs h.1.l
    rw [hw] at this
    cases this
    exact ⟨Pers.refl _, fun _ _ r => r, q⟩
  stop := fun h hi => ⟨vs, h.1.l, by rw [← h.2.length]; exact hi⟩
theorem src_str {K : PySem.W.Frag} {G : Gx} {z : Str} : Src K G (Its z) (strsOf z) fun _ _ => True where
  mono := fun h _ _ => h
  go := fun h hi => by simpa [strsOf, Its] using hi
  yld := fun {i m H H' d v} h e y => by
    obtain ⟨rfl, c, hc, rfl⟩ := y
    refine ⟨Pers.refl _, fun _ _ r => r, ?_⟩
    have e' : d = .str ⟨#[c]⟩ := by
      simp only [strsOf, List.getElem?_map, Array.getElem?_toList, hc] at e
      exact (Option.some.inj e).symm
    subst e'
    exact .str _
  stop := fun h hi => by simpa [strsOf, Its] using hi
theorem src_rng {K : PySem.W.Frag} {G : Gx} {lo hi : Int} : Src K G (Itr lo (hi - lo).toNat) (rngD lo hi) fun _ _ => True where
  mono := fun h _ _ => h
  go := fun h hi => by simpa [rngD, Itr] using hi
  yld := fun {i m H H' d v} h e y => by
    obtain ⟨rfl, rfl⟩ := y
    refine ⟨Pers.refl _, fun _ _ r => r, ?_⟩
    have hl : i < (rngD lo hi).length := (List.getElem?_eq_some_iff.mp e).1
    have e' : d = .int (lo + i) := by
      simp only [rngD, List.length_map, List.length_range] at hl
      simp only [rngD, List.getElem?_map, List.getElem?_range hl] at e
      exact (Option.some.inj e).symm
    subst e'
    exact .int _
  stop := fun h hi => by simpa [rngD, Itr] using hi
end
end Mi

/-! Mi, part F: for and comprehensions. -/
namespace Mi
open PySem PySem.Spec PyProof.Rows L2
/-- no error is wished for -/
abbrev Zx.quiet {K : PySem.W.Frag} (Z : Zx K) : Zx K := { Z with W := fun _ _ _ _ => False }
instance {K : PySem.W.Frag} (Z : Zx K) [i : NoJ Z] : NoJ Z.quiet := ⟨i.h⟩
/-- an expression that changes nothing and does not lean on the locks -/
def Pure (r : EX) : Prop := ∀ ρ L h, (∃ x, ∀ L', r ρ L' h = .ok x h) ∨ r ρ L h = .bad
theorem pure_var {i : Nat} : Pure (eVar i) := fun ρ L h => by
  unfold eVar
  split
  · rename_i d e
    exact .inl ⟨d, fun _ => rfl⟩
  · exact .inr rfl
theorem pure_fld {cs : List Nat} {f : Str} {o : EX} (ho : Pure o) : Pure (eFld cs f o) := fun ρ L h => by
  rcases ho ρ L h with ⟨x, e⟩ | e
  · unfold eFld
    by_cases z : ∃ n c fs v, x = .ref n ∧ h[n]? = some (.ins c fs) ∧ c ∈ cs ∧ fs.lookup f = some v
    · obtain ⟨n, c, fs, v, rfl, h1, h2, h3⟩ := z
      exact .inl ⟨v, fun L' => by simp [e L', h1, h2, h3]⟩
    · refine .inr ?_
      rw [e L, R.bind_ok]
      split
      · rename_i n
        split
        · rename_i c fs h1
          split
          · rename_i h2
            split
            · rename_i v h3
              exact absurd ⟨n, c, fs, v, rfl, h1, h2, h3⟩ z
            · rfl
          · rfl
        · rfl
      · rfl
  · refine .inr ?_
    unfold eFld
    rw [e]
    rfl
section
variable {X : Cx} {Z : Zx X.K} [NoJ Z] {e tg : Expr} {body : List Stmt} {ra rb : EX} {pos p : Pos} {g : GX} {b : SX}
theorem ms_for (hp : PassesOwn (model X.prog X.w) X.A X.env X.xe) (hc : X.calm = true) (he : ME X Z e ra) (hg : MG X Z tg g) (hb : MB X Z body b) (hs : ∀ x, foldedSetIterable e X.env x = pure x := by intro _; rfl) : MS X Z (.For tg e body [] pos) (sFor ra g b) := by
  refine PS.imp (PS.or (ps_for hp hc (pi_list he) hg hb hs) (PS.or (ps_for hp hc (pi_tup he) hg hb hs) (ps_for hp hc (pi_str he) hg hb hs))) fun D σ H ⟨m, L, h, ρ, S, A⟩ => ?_
  by_cases hd : ∃ xs h1, ra ρ L h = .ok (.tup xs) h1
  · refine .inr (.inl ?_)
    obtain ⟨xs, h1, e1⟩ := hd
    refine Rg.toSE S A fun m1 h1' H1 x v f1 S1 l1 p1 q1 A1 => ?_
    rw [e1] at f1
    cases f1
    cases q1 with
    | tup hh t => exact ⟨_, rfl, ⟨_, hh.t⟩, for_still src_tup S1 ⟨hh, t⟩ A1⟩
  · by_cases hd2 : ∃ z h1, ra ρ L h = .ok (.str z) h1
    · refine .inr (.inr ?_)
      obtain ⟨z, h1, e1⟩ := hd2
      refine Rg.toSE S A fun m1 h1' H1 x v f1 S1 l1 p1 q1 A1 => ?_
      rw [e1] at f1
      cases f1
      cases q1
      exact ⟨_, rfl, for_still src_str S1 trivial A1⟩
    · refine .inl ?_
      refine Rg.toSE S A fun m1 h1 H1 x v f1 S1 l1 p1 q1 A1 => ?_
      cases q1 with
      | tup hh t => exact absurd ⟨_, _, f1⟩ hd
      | str z => exact absurd ⟨_, _, f1⟩ hd2
      | frl hh t => exact ⟨_, rfl, ⟨_, hh.l⟩, for_still src_frl S1 ⟨hh, t⟩ A1⟩
      | ref hn =>
        rename_i n a
        refine ⟨a, rfl, ?_, for_live S1 hn A1⟩
        have A1' : AftS X.K Z.G L m1 H1 (loopL g b n fuel 0 ρ L h1) D Z.W := A1
        have ef : fuel = 99999 + 1 := rfl
        rw [ef, loopL] at A1'
        dsimp only at A1'
        split at A1'
        · rename_i xs ex
          obtain ⟨vs, hv, t⟩ := S1.rh.lstH hn ex
          exact ⟨vs, .of hv⟩
        · exact False.elim A1'
      | _ => exact False.elim A1
end
section
variable {X : Cx} {Z : Zx X.K} [NoJ Z] {a1 a2 a3 tg : Expr} {body : List Stmt} {rs : AX} {pos p pc : Pos} {g : GX} {b : SX}
/-- a range's turns -/
theorem src_rng0 {K : PySem.W.Frag} {G : Gx} {hi : Int} : Src K G (Itr 0 hi.toNat) (rngD 0 hi) fun _ _ => True := by
  have B := src_rng (K := K) (G := G) (lo := 0) (hi := hi)
  rw [Int.sub_zero] at B
  exact B
theorem src_rngC {K : PySem.W.Frag} {G : Gx} {lo c : Int} {n : Nat} : Src K G (Itc lo c n) ((List.range n).map fun (k : Nat) => Mi.D.int (lo + (k : Int) * c)) fun _ _ => True where
  mono := fun h _ _ => h
  go := fun h hi => by simpa [Itc] using hi
  yld := fun {i m H H' d v} h e y => by
    obtain ⟨rfl, rfl⟩ := y
    refine ⟨Pers.refl _, fun _ _ r => r, ?_⟩
    have hl : i < n := by simpa using (List.getElem?_eq_some_iff.mp e).1
    have e' : d = .int (lo + (i : Int) * c) := by
      simp only [List.getElem?_map, List.getElem?_range hl] at e
      exact (Option.some.inj e).symm
    subst e'
    exact .int _
  stop := fun h hi => by simpa [Itc] using hi
theorem sm62_ok {i : Int} (h : sm62 i = true) : -(2 ^ 62) ≤ i ∧ i < 2 ^ 62 := of_decide_eq_true h
theorem rng1_ok {K : PySem.W.Frag} {G : Gx} {H : Hp} {m : List Addr} {xs ys : List Mi.D} {vs : List V} (q : RDs K H m xs vs) (e : rng1 xs = some ys) : ∃ j : Int, vs = [.int j] ∧ -(2 ^ 62) ≤ j ∧ j < 2 ^ 62 ∧ Src K G (Itr 0 j.toNat) ys fun _ _ => True := by
  unfold rng1 at e
  split at e
  · rename_i j
    split at e
    · rename_i hj
      cases e
      cases q with
      | cons q t =>
        cases t
        cases q
        exact ⟨j, rfl, (sm62_ok hj).1, (sm62_ok hj).2, src_rng0⟩
    · cases e
  · cases e
theorem rng2_ok {K : PySem.W.Frag} {G : Gx} {H : Hp} {m : List Addr} {xs ys : List Mi.D} {vs : List V} (q : RDs K H m xs vs) (e : rng2 xs = some ys) : ∃ i j : Int, vs = [.int i, .int j] ∧ (-(2 ^ 62) ≤ i ∧ i < 2 ^ 62 ∧ -(2 ^ 62) ≤ j ∧ j < 2 ^ 62) ∧ Src K G (Itr i (j - i).toNat) ys fun _ _ => True := by
  unfold rng2 at e
  split at e
  · rename_i i j
    split at e
    · rename_i hj
      cases e
      obtain ⟨h1, h2⟩ := Bool.and_eq_true_iff.mp hj
      cases q with
      | cons q t =>
        cases t with
        | cons q2 t =>
          cases t
          cases q
          cases q2
          exact ⟨i, j, rfl, ⟨(sm62_ok h1).1, (sm62_ok h1).2, (sm62_ok h2).1, (sm62_ok h2).2⟩, src_rng⟩
    · cases e
  · cases e
theorem rng3_ok {K : PySem.W.Frag} {G : Gx} {H : Hp} {m : List Addr} {xs ys : List Mi.D} {vs : List V} (q : RDs K H m xs vs) (e : rng3 xs = some ys) : ∃ (i j c : Int) (n : Nat), vs = [.int i, .int j, .int c] ∧ RgC i j c n ∧ Src K G (Itc i c n) ys fun _ _ => True := by
  unfold rng3 at e
  split at e
  · rename_i i j c
    split at e
    · rename_i hj
      cases e
      obtain ⟨h12, h3⟩ := Bool.and_eq_true_iff.mp hj
      obtain ⟨h1, h2⟩ := Bool.and_eq_true_iff.mp h12
      have hc := of_decide_eq_true h3
      subst hc
      cases q with
      | cons q t =>
        cases t with
        | cons q2 t =>
          cases t with
          | cons q3 t =>
            cases t
            cases q
            cases q2
            cases q3
            exact ⟨i, j, -1, _, rfl, RgC.neg (sm62_ok h1).1 (sm62_ok h1).2 (sm62_ok h2).1 (sm62_ok h2).2, src_rngC⟩
    · cases e
  · cases e
theorem ms_forR1 (hp : PassesOwn (model X.prog X.w) X.A X.env X.xe) (hc : X.calm = true) (hgl : Gl X "range") (hm : X.mg "range" = none) (ha : MA X Z [a1] rs) (hg : MG X Z tg g) (hb : MB X Z body b) (hq : starEach [a1] X.env = [(false, eval a1 X.env)] := by rfl)
    (hs : ∀ x, foldedSetIterable (.Call (.Name "range" p) [a1] [] pc) X.env x = pure x := by intro _; rfl) : MS X Z (.For tg (.Call (.Name "range" p) [a1] [] pc) body [] pos) (sForR rng1 rs g b) := by
  refine PS.imp (ps_for hp hc (pi_range1 hgl hm ha hq) hg hb hs) fun D σ H ⟨m, L, h, ρ, S, A⟩ => ?_
  refine Rg.toS S A fun m1 h1 H1 x v S1 l1 p1 q1 A1 => ?_
  split at A1
  · rename_i ys e
    obtain ⟨j, rfl, b1, b2, B⟩ := rng1_ok (G := Z.G) q1 e
    exact ⟨j, rfl, b1, b2, for_still B S1 trivial A1⟩
  · exact False.elim A1
theorem ms_forR2 (hp : PassesOwn (model X.prog X.w) X.A X.env X.xe) (hc : X.calm = true) (hgl : Gl X "range") (hm : X.mg "range" = none) (ha : MA X Z [a1, a2] rs) (hg : MG X Z tg g) (hb : MB X Z body b) (hq : starEach [a1, a2] X.env = [(false, eval a1 X.env), (false, eval a2 X.env)] := by rfl) (hq2 : starEach [a2] X.env = [(false, eval a2 X.env)] := by rfl)
    (hs : ∀ x, foldedSetIterable (.Call (.Name "range" p) [a1, a2] [] pc) X.env x = pure x := by intro _; rfl) : MS X Z (.For tg (.Call (.Name "range" p) [a1, a2] [] pc) body [] pos) (sForR rng2 rs g b) := by
  refine PS.imp (ps_for hp hc (pi_range2 hgl hm ha hq hq2) hg hb hs) fun D σ H ⟨m, L, h, ρ, S, A⟩ => ?_
  refine Rg.toS S A fun m1 h1 H1 x v S1 l1 p1 q1 A1 => ?_
  split at A1
  · rename_i ys e
    obtain ⟨i, j, rfl, b1, B⟩ := rng2_ok (G := Z.G) q1 e
    exact ⟨i, j, rfl, b1, for_still B S1 trivial A1⟩
  · exact False.elim A1
theorem ms_forR3 (hp : PassesOwn (model X.prog X.w) X.A X.env X.xe) (hc : X.calm = true) (hgl : Gl X "range") (hm : X.mg "range" = none) (ha : MA X Z [a1, a2, a3] rs) (hg : MG X Z tg g) (hb : MB X Z body b) (hq : starEach [a1, a2, a3] X.env = (false, eval a1 X.env) :: starEach [a2, a3] X.env := by rfl)
    (hpl : (backTo pc (starEach [a2, a3] X.env)).any (·.1) = false := by rfl)
    (hs : ∀ x, foldedSetIterable (.Call (.Name "range" p) [a1, a2, a3] [] pc) X.env x = pure x := by intro _; rfl) : MS X Z (.For tg (.Call (.Name "range" p) [a1, a2, a3] [] pc) body [] pos) (sForR rng3 rs g b) := by
  refine PS.imp (ps_for hp hc (pi_range3 hgl hm ha hq hpl) hg hb hs) fun D σ H ⟨m, L, h, ρ, S, A⟩ => ?_
  refine Rg.toS S A fun m1 h1 H1 x v S1 l1 p1 q1 A1 => ?_
  split at A1
  · rename_i ys e
    obtain ⟨i, j, c, n, rfl, b1, B⟩ := rng3_ok (G := Z.G) q1 e
    exact ⟨i, j, c, n, rfl, b1, for_still B S1 trivial A1⟩
  · exact False.elim A1
end
/-! ### a dict that stands, walked -/
theorem kk_ok {κ : Type} {K : PySem.W.Frag} {H : Hp} {m : List Addr} : ∀ {ds : List (κ × Mi.D)} {vs : List (κ × V)}, RK K H m ds vs → ds.map (·.1) = vs.map (·.1)
  | _, _, .nil => rfl
  | _, _, .cons q t => by rw [List.map_cons, List.map_cons, kk_ok t, q.1]
theorem keysOf_get {κ : Type} {f : κ → Mi.D} {kvs : List (κ × Mi.D)} {vs : List (κ × V)} (e : kvs.map (·.1) = vs.map (·.1)) {i : Nat} {d : Mi.D} (h : (keysOf f kvs)[i]? = some d) : ∀ {k : κ} {v : V}, vs[i]? = some (k, v) → d = f k := by
  intro k v hv
  unfold keysOf at h
  have e1 : (kvs.map (·.1))[i]? = (vs.map (·.1))[i]? := by rw [e]
  rw [List.getElem?_map, List.getElem?_map, hv] at e1
  rw [List.getElem?_map] at h
  cases hk : kvs[i]? with
  | none => rw [hk] at e1; cases e1
  | some kv =>
    rw [hk] at e1 h
    have e2 : kv.1 = k := Option.some.inj e1
    rw [← e2]
    exact (Option.some.inj h).symm
theorem src_key {K : PySem.W.Frag} {G : Gx} {d : Addr} {o : Obj} {kvs : List (Key × Mi.D)} {vs : List (Key × V)} (e : kvs.map (·.1) = vs.map (·.1)) : Src K G (Itk d o vs) (keysOf keyV kvs) fun _ H => H d = some (.frz o (.dK vs)) where
  mono := fun h _ p => p.frz _ _ _ h
  go := fun h hi => ⟨h, by have := congrArg List.length e; simp [keysOf] at hi this; omega⟩
  yld := fun {i m H H' d v} h ed y => by
    obtain ⟨rfl, k, w, hk, rfl⟩ := y
    refine ⟨Pers.refl _, fun _ _ r => r, ?_⟩
    rw [keysOf_get e ed hk]
    cases k with
    | inl k => exact .int k
    | inr x => exact .str x
  stop := fun h hi => ⟨h, by have := congrArg List.length e; simp [keysOf] at hi this; omega⟩
theorem keyVs_rd {K : PySem.W.Frag} {H : Hp} {m : List Addr} : ∀ ks : List Key, RDs K H m (ks.map keyV) (ks.map kV)
  | [] => .nil
  | .inl i :: r => .cons (.int i) (keyVs_rd r)
  | .inr x :: r => .cons (.str x) (keyVs_rd r)
theorem src_keyT {K : PySem.W.Frag} {G : Gx} {d : Addr} {o : Obj} {kvs : List (List Key × Mi.D)} {vs : List (List Key × V)} (e : kvs.map (·.1) = vs.map (·.1)) : Src K G (Itkt d o vs) (keysOf (fun ks => .tup (ks.map keyV)) kvs) fun _ H => H d = some (.frz o (.dT vs)) where
  mono := fun h _ p => p.frz _ _ _ h
  go := fun h hi => ⟨h, by have := congrArg List.length e; simp [keysOf] at hi this; omega⟩
  yld := fun {i m H H' d v} h ed y => by
    obtain ⟨rfl, k, w, q, hk, rfl, hq⟩ := y
    refine ⟨Pers.refl _, fun _ _ r => r, ?_⟩
    rw [keysOf_get e ed hk]
    exact .tup (.inl hq) (keyVs_rd k)
  stop := fun h hi => ⟨h, by have := congrArg List.length e; simp [keysOf] at hi this; omega⟩
section
variable {K : PySem.W.Frag} {G : Gx} {L : List Nat} {m : List Addr} {h : Hh} {H : Hp} {n : Nat} {d : Addr} {u : HO} {od : Obj}
theorem RH.same {L' : List Nat} (r : RH K G L m h H) (e : ∀ k, k ∈ L ↔ k ∈ L') : RH K G L' m h H := ⟨r.len, r.nd, fun n o a e1 e2 => by
  obtain ⟨u, q, h1, h2⟩ := r.at_ n o a e1 e2
  exact ⟨u, q, fun z => h1 ((e n).mpr z), fun z => h2 fun y => z ((e n).mp y)⟩⟩
/-- a dict is locked -/
theorem RH.lock (r : RH K G L m h H) {o : Ob} (e : h[n]? = some o) (ed : m[n]? = some d) (hd : o.isDic = true) (hu : H d = some u) (nl : n ∉ L) : RH K G (n :: L) m h (upd H d (.frz od u)) ∧ Pers K H (upd H d (.frz od u)) ∧ RO K G H m o u := by
  obtain ⟨u0, q0, i1, i2⟩ := r.at_ n o d e ed
  have e0 : u0 = u := by
    have := i2 nl
    rw [hu] at this
    exact (Option.some.inj this).symm
  subst e0
  have P : Pers K H (upd H d (.frz od u0)) := pers_upd fun u1 e1 => by
    rw [hu] at e1
    cases e1
    exact q0.chg
  refine ⟨⟨r.len, r.nd, fun k o' a e1 e2 => ?_⟩, P, q0⟩
  by_cases hk : k = n
  · subst hk
    have ea : a = d := by rw [ed] at e2; exact (Option.some.inj e2).symm
    subst ea
    have eo : o' = o := by rw [e] at e1; exact (Option.some.inj e1).symm
    subst eo
    exact ⟨u0, q0.mono P (Le.refl _), fun _ => ⟨hd, od, upd_same⟩, fun z => absurd List.mem_cons_self z⟩
  · have na : a ≠ d := fun z => hk (by subst z; exact r.inj e2 ed)
    obtain ⟨u1, q1, j1, j2⟩ := r.at_ k o' a e1 e2
    refine ⟨u1, q1.mono P (Le.refl _), fun z => ?_, fun z => ?_⟩
    · rcases List.mem_cons.mp z with z | z
      · exact absurd z hk
      · obtain ⟨g1, od', g2⟩ := j1 z
        exact ⟨g1, od', by rw [upd_ne na]; exact g2⟩
    · rw [upd_ne na]
      exact j2 fun y => z (List.mem_cons_of_mem _ y)
/-- a dict's object -/
def DicO : HO → Prop
  | .dK _ => True
  | .dT _ => True
  | _ => False
theorem RO.dicO {o : Ob} (q : RO K G H m o u) (hd : o.isDic = true) : DicO u := by
  cases o <;> cases u <;> first | exact q.elim | exact True.intro | cases hd
/-- .. and let go -/
theorem PersD.unlock (hu : H d = some (.frz od u)) (hc : DicO u) : PersD K H (upd H d u) := by
  refine ⟨fun a vs t => ?_, fun a vs t => ?_⟩
  · rcases t with t | ⟨rfl, (t | ⟨o, t⟩) | t⟩
    · exact .inl (by rw [upd_ne (fun z => by subst z; rw [hu] at t; cases t)]; exact t)
    · exact .inl (by rw [upd_ne (fun z => by subst z; rw [hu] at t; cases t)]; exact t)
    · exact .inr ⟨rfl, .inl (.inr ⟨o, by rw [upd_ne (fun z => by subst z; rw [hu] at t; cases t; exact hc)]; exact t⟩)⟩
    · exact .inr ⟨rfl, .inr t⟩
  · rcases t with ⟨o, t⟩ | t
    · exact .inl ⟨o, by rw [upd_ne (fun z => by subst z; rw [hu] at t; cases t; exact hc)]; exact t⟩
    · exact .inr t
theorem Pers.unlock {H0 H' : Hp} (hH : H d = some u) (hc : DicO u) (e0 : H0 = upd H d (.frz od u)) (p0 : Pers K H H0) (p : Pers K H0 H') : Pers K H (upd H' d u) := by
  have hd : H' d = some (.frz od u) := p.frz _ _ _ (by rw [e0]; exact upd_same)
  have q := (p0.trans p).toPersD
  have ul := PersD.unlock (K := K) hd hc
  refine ⟨⟨fun a vs t => ul.tup _ _ (q.tup _ _ t), fun a vs t => ul.frl _ _ (q.frl _ _ t)⟩, fun a fs t => ?_, fun a o w t => ?_⟩
  · have na : a ≠ d := fun z => by
      subst z
      rw [hH] at t
      cases t
      exact hc
    rw [upd_ne na]
    exact p.xd _ _ (p0.xd _ _ t)
  · have na : a ≠ d := fun z => by
      subst z
      rw [hH] at t
      cases t
      exact hc
    rw [upd_ne na]
    exact p.frz _ _ _ (p0.frz _ _ _ t)
theorem RH.unlock (r : RH K G (n :: L) m h H) (ed : m[n]? = some d) (hu : H d = some (.frz od u)) (hc : DicO u) (nl : n ∉ L) : RH K G L m h (upd H d u) := by
  have ul := PersD.unlock (K := K) hu hc
  refine ⟨r.len, r.nd, fun k o a e1 e2 => ?_⟩
  obtain ⟨u1, q1, j1, j2⟩ := r.at_ k o a e1 e2
  by_cases hk : k = n
  · subst hk
    have ea : a = d := by rw [ed] at e2; exact (Option.some.inj e2).symm
    subst ea
    obtain ⟨g1, od', g2⟩ := j1 List.mem_cons_self
    have e0 : u1 = u := by
      rw [hu] at g2
      cases g2
      rfl
    subst e0
    exact ⟨u1, q1.monoD ul (Le.refl _), fun z => absurd z nl, fun _ => upd_same⟩
  · have na : a ≠ d := fun z => hk (by subst z; exact r.inj e2 ed)
    refine ⟨u1, q1.monoD ul (Le.refl _), fun z => ?_, fun z => ?_⟩
    · obtain ⟨g1, od', g2⟩ := j1 (List.mem_cons_of_mem _ z)
      exact ⟨g1, od', by rw [upd_ne na]; exact g2⟩
    · rw [upd_ne na]
      exact j2 fun y => by
        rcases List.mem_cons.mp y with y | y
        · exact hk y
        · exact z y
/-- what is walked of a dict -/
theorem keysAt_ok {x : Mi.D} {v : V} {k : Nat} {xs : List Mi.D} (r : RH K G L m h H) (q : RD K H m x v) (e : keysAt x h = some (k, xs)) :
    ∃ a ob, x = .ref k ∧ v = .ref a ∧ m[k]? = some a ∧ h[k]? = some ob ∧ ob.isDic = true := by
  cases q with
  | ref hn =>
    simp only [keysAt] at e
    split at e
    · rename_i kvs ek
      cases e
      exact ⟨_, _, rfl, rfl, hn, ek, rfl⟩
    · rename_i kvs ek
      cases e
      exact ⟨_, _, rfl, rfl, hn, ek, rfl⟩
    · cases e
  | _ => cases e
/-- the walk over the locked dict -/
theorem src_at {a : Addr} {k : Nat} {xs : List Mi.D} {ob : Ob} {H' : Hp} (q : RO K G H m ob u) (ek : h[k]? = some ob) (e : keysAt (.ref k) h = some (k, xs)) (hu : H' a = some (.frz od u)) :
    (∃ kvs, u = .dK kvs ∧ Src K G (Itk a od kvs) xs fun _ H => H a = some (.frz od (.dK kvs))) ∨ ∃ kvs, u = .dT kvs ∧ Src K G (Itkt a od kvs) xs fun _ H => H a = some (.frz od (.dT kvs)) := by
  simp only [keysAt, ek] at e
  cases ob <;> simp at e
  · cases u <;> first | exact False.elim q | skip
    subst e
    exact .inl ⟨_, rfl, src_key (kk_ok q)⟩
  · cases u <;> first | exact False.elim q | skip
    subst e
    exact .inr ⟨_, rfl, src_keyT (kk_ok q)⟩
end
section
variable {X : Cx} {Z : Zx X.K} [NoJ Z] {e tg : Expr} {body : List Stmt} {ra rb : EX} {pos p : Pos} {g : GX} {b : SX}
theorem noExc_ne {r : SR} {c : Nat} {p : Option Mi.D} {ρ : Rho} {h : Hh} : r.noExc ≠ .exc c p ρ h := by
  cases r <;> intro z <;> cases z
theorem aft_noExc {K : PySem.W.Frag} {G : Gx} {L : List Nat} {m : List Addr} {H : Hp} {r : SR} {D : Ends} {W W' : WX} (A : AftS K G L m H r.noExc D W) : AftS K G L m H r D W' := by
  cases r <;> first | exact A | exact False.elim A
theorem ms_forK (pu : Pure ra) (hp : PassesOwn (model X.prog X.w) X.A X.env X.xe) (hc : X.calm = true) (he : ME X Z.quiet e ra) (hg : MG X Z.quiet tg g) (hb : MB X Z.quiet body b) (hs : ∀ x, foldedSetIterable e X.env x = pure x := by intro _; rfl) : MS X Z (.For tg e body [] pos) (sForK ra g b) := by
  have F : PS X (.For tg e body [] pos) (tFor (iKeys (Rg X.K (rD X.K) Z.quiet ra)) (Rt X.K Z.quiet g) (Rs X.K Z.quiet b)) := ps_for hp hc (pi_keys he) hg hb hs
  refine PS.imp (PS.or (ps_lock F) F) fun D σ H ⟨m, L, h, ρ, S, A⟩ => ?_
  unfold sForK at A
  rcases pu ρ L h with ⟨x, ex⟩ | ex
  rotate_left 1
  · rw [ex] at A
    exact False.elim A
  rw [ex L, R.toS_ok] at A
  split at A
  rotate_left 1
  · exact False.elim A
  rename_i k xs ek
  -- the dict
  have hx : ∃ ob, x = .ref k ∧ h[k]? = some ob ∧ ob.isDic = true := by
    cases x <;> simp [keysAt] at ek
    rename_i n
    split at ek
    · rename_i kvs e1
      cases ek
      exact ⟨_, rfl, e1, rfl⟩
    · rename_i kvs e1
      cases ek
      exact ⟨_, rfl, e1, rfl⟩
    · cases ek
  obtain ⟨ob, rfl, hob, hdic⟩ := hx
  obtain ⟨a, ha⟩ := S.rh.adr hob
  by_cases nl : k ∈ L
  · -- locked already
    refine .inr ?_
    obtain ⟨u, q, i1, i2⟩ := S.rh.at_ k ob a hob ha
    obtain ⟨_, od, hu⟩ := i1 nl
    refine ⟨m, L, h, ρ, ⟨S.rh, S.rs, S.iv, S.lk, S.jv⟩, ?_⟩
    rw [ex L]
    intro m1 H1 v l p r qv
    have hu1 : H1 a = some (.frz od u) := p.frz _ _ _ hu
    have ev : v = .ref a := by
      cases qv with
      | ref hn =>
        have := l _ _ ha
        rw [hn] at this
        cases this
        rfl
    subst ev
    have e1 : ∀ j, j ∈ L ↔ j ∈ k :: L := fun j => ⟨List.mem_cons_of_mem _, fun y => (List.mem_cons.mp y).elim (fun z => by subst z; exact nl) id⟩
    have S1 : Stt X.K Z.quiet (k :: L) m1 h ρ σ H1 := by
      have S' := S.on l p r
      exact ⟨r.same e1, S'.rs, S'.iv, fun j hj => S'.lk j ((e1 j).mpr hj), S'.jv⟩
    have A2 : AftS X.K Z.quiet.G (k :: L) m1 H1 (loopV g b xs ρ (k :: L) h) D Z.quiet.W := by
      refine aft_noExc (W := Z.W) ?_
      have A' := AftS.mono A l p
      revert A'
      generalize (loopV g b xs ρ (k :: L) h).noExc = rr
      intro A'
      cases rr with
      | nx ρ1 h1 => exact fun m' H' σ' l p r q => A' m' H' σ' l p (r.same fun j => (e1 j).symm) q
      | ret d h1 => exact fun m' H' σ' l p r q => A' m' H' σ' l p (r.same fun j => (e1 j).symm) q
      | brk ρ1 h1 => exact fun m' H' σ' l p r q => A' m' H' σ' l p (r.same fun j => (e1 j).symm) q
      | cnt ρ1 h1 => exact fun m' H' σ' l p r q => A' m' H' σ' l p (r.same fun j => (e1 j).symm) q
      | exc c q ρ1 h1 => exact fun m' H' σ' cls d l p r q x => A' m' H' σ' cls d l p (r.same fun j => (e1 j).symm) q x
      | bad => exact A'
    rcases src_at (G := Z.G) q hob ek hu1 with ⟨kvs, rfl, B⟩ | ⟨kvs, rfl, B⟩
    · exact ⟨a, od, rfl, .inl ⟨kvs, hu1, for_still (Z := Z.quiet) B S1 hu1 A2⟩⟩
    · exact ⟨a, od, rfl, .inr ⟨kvs, hu1, for_still (Z := Z.quiet) B S1 hu1 A2⟩⟩
  · refine .inl ?_
    obtain ⟨u, q, i1, i2⟩ := S.rh.at_ k ob a hob ha
    have hu := i2 nl
    have hdo := q.dicO hdic
    refine ⟨a, u, hu, ?_, fun od => ?_⟩
    · cases u <;> first | exact True.intro | exact hdo
    obtain ⟨rL, pL, _⟩ := S.rh.lock (od := od) hob ha hdic hu nl
    have SL : Stt X.K Z.quiet (k :: L) m h ρ σ (upd H a (.frz od u)) := ⟨rL, S.rs.mono pL (Le.refl _), Z.keep S.iv (Le.refl _) pL, fun j hj => by
      rcases List.mem_cons.mp hj with z | z
      · subst z
        exact (List.getElem?_eq_some_iff.mp hob).1
      · exact S.lk j z, S.jv⟩
    refine ⟨m, k :: L, h, ρ, SL, ?_⟩
    rw [ex (k :: L)]
    intro m1 H1 v l p r qv
    have hu1 : H1 a = some (.frz od u) := p.frz _ _ _ upd_same
    have ev : v = .ref a := by
      cases qv with
      | ref hn =>
        have := l _ _ ha
        rw [hn] at this
        cases this
        rfl
    subst ev
    have S1 : Stt X.K Z.quiet (k :: L) m1 h ρ σ H1 := SL.on l p r
    have A2 : AftS X.K Z.quiet.G (k :: L) m1 H1 (loopV g b xs ρ (k :: L) h) ⟨fun σ' H' => H' a = some (.frz od u) ∧ D.nx σ' (upd H' a u), fun v H' => H' a = some (.frz od u) ∧ D.rt v (upd H' a u), fun σ' H' => H' a = some (.frz od u) ∧ D.bk σ' (upd H' a u), fun σ' H' => H' a = some (.frz od u) ∧ D.ct σ' (upd H' a u)⟩ Z.quiet.W := by
      refine aft_noExc (W := Z.W) ?_
      revert A
      generalize hrr : (loopV g b xs ρ (k :: L) h).noExc = rr
      intro A
      have fin : ∀ {m' h' H'}, Le m1 m' → Pers X.K H1 H' → RH X.K Z.G (k :: L) m' h' H' → H' a = some (.frz od u) ∧ Le m m' ∧ Pers X.K H (upd H' a u) ∧ RH X.K Z.G L m' h' (upd H' a u) ∧ PersD X.K H' (upd H' a u) := by
        intro m' h' H' l' p' r'
        have hH := p'.frz _ _ _ hu1
        exact ⟨hH, l.trans l', Pers.unlock hu hdo rfl pL (p.trans p'), r'.unlock (l' _ _ (l _ _ ha)) hH hdo nl, PersD.unlock hH hdo⟩
      cases rr with
      | nx ρ1 h1 =>
        intro m' H' σ' l' p' r' q'
        obtain ⟨f1, f2, f3, f4, f5⟩ := fin l' p' r'
        exact ⟨f1, A m' _ σ' f2 f3 f4 (q'.monoD f5 (Le.refl _))⟩
      | ret d h1 =>
        intro m' H' v' l' p' r' q'
        obtain ⟨f1, f2, f3, f4, f5⟩ := fin l' p' r'
        exact ⟨f1, A m' _ v' f2 f3 f4 (q'.monoD f5 (Le.refl _))⟩
      | brk ρ1 h1 =>
        intro m' H' σ' l' p' r' q'
        obtain ⟨f1, f2, f3, f4, f5⟩ := fin l' p' r'
        exact ⟨f1, A m' _ σ' f2 f3 f4 (q'.monoD f5 (Le.refl _))⟩
      | cnt ρ1 h1 =>
        intro m' H' σ' l' p' r' q'
        obtain ⟨f1, f2, f3, f4, f5⟩ := fin l' p' r'
        exact ⟨f1, A m' _ σ' f2 f3 f4 (q'.monoD f5 (Le.refl _))⟩
      | exc c q ρ1 h1 => exact absurd hrr noExc_ne
      | bad => exact A
    rcases src_at (G := Z.G) q hob ek hu1 with ⟨kvs, rfl, B⟩ | ⟨kvs, rfl, B⟩
    · exact ⟨a, od, rfl, .inl ⟨kvs, hu1, for_still (Z := Z.quiet) B S1 hu1 A2⟩⟩
    · exact ⟨a, od, rfl, .inr ⟨kvs, hu1, for_still (Z := Z.quiet) B S1 hu1 A2⟩⟩
end
end Mi

/-! Mi, part G: list comprehensions. -/
namespace Mi
open PySem PySem.Spec PyProof.Rows L2
theorem wipe_getN {σ : L2.St} : ∀ {vs : List Nat} {i : Nat}, i ∈ vs → (wipe σ vs)[i]? = none ∨ (wipe σ vs)[i]? = some none
  | v :: vs, i, h => by
    show ((wipe σ vs).set v none)[i]? = none ∨ ((wipe σ vs).set v none)[i]? = some none
    by_cases e : v = i
    · subst e
      by_cases hl : v < (wipe σ vs).length
      · exact .inr (List.getElem?_set_self hl)
      · exact .inl (List.getElem?_eq_none_iff.mpr (by rw [List.length_set]; omega))
    · rw [List.getElem?_set_ne e]
      exact wipe_getN ((List.mem_cons.mp h).resolve_left (fun z => e z.symm))
theorem wipe_ext {σ σ' : L2.St} {vs : List Nat} (hl : σ.length = σ'.length) (h : ∀ i, i ∉ vs → σ[i]? = σ'[i]?) : wipe σ vs = wipe σ' vs := by
  refine List.ext_getElem? fun i => ?_
  by_cases hi : i ∈ vs
  · have l1 : (wipe σ vs).length = (wipe σ' vs).length := by rw [wipe_length, wipe_length, hl]
    by_cases hb : i < (wipe σ vs).length
    · have a1 := wipe_getN (σ := σ) hi
      have a2 := wipe_getN (σ := σ') hi
      have n1 : (wipe σ vs)[i]? ≠ none := fun z => by rw [List.getElem?_eq_none_iff] at z; omega
      have n2 : (wipe σ' vs)[i]? ≠ none := fun z => by rw [List.getElem?_eq_none_iff] at z; omega
      rw [a1.resolve_left n1, a2.resolve_left n2]
    · rw [List.getElem?_eq_none_iff.mpr (by omega), List.getElem?_eq_none_iff.mpr (by omega)]
  · rw [wipe_out hi, wipe_out hi, h i hi]
theorem wipe_set {σ : L2.St} {vs : List Nat} {i : Nat} {x : Option V} (h : i ∈ vs) : wipe (σ.set i x) vs = wipe σ vs :=
  wipe_ext (List.length_set ..) fun j hj => List.getElem?_set_ne fun e => hj (by subst e; exact h)
theorem wipe_wipe {σ : L2.St} {vs : List Nat} : wipe (wipe σ vs) vs = wipe σ vs :=
  wipe_ext (wipe_length ..) fun j hj => wipe_out hj
theorem RS.wipe {K : PySem.W.Frag} {H : Hp} {m : List Addr} {ρ : Rho} {σ : L2.St} (r : RS K H m ρ σ) : ∀ own : List Nat, RS K H m (wipeR ρ own) (L2.wipe σ own)
  | [] => r
  | v :: vs => (RS.wipe r vs).del v none
/-- a comprehension's target: it stores its own names alone -/
def GtOk (K : PySem.W.Frag) (own : List Nat) (g : GX) (t : TG) : Prop := ∀ (G : Gx) (L : List Nat) (m : List Addr) (h h1 : Hh) (ρ ρ1 : Rho) (σ : L2.St) (H : Hp) (d : D) (v : V), RS K H m ρ σ → RD K H m d v → g d ρ L h = .ok ρ1 h1 →
  h1 = h ∧ ∃ σ1, RS K H m ρ1 σ1 ∧ wipe σ1 own = wipe σ own ∧ ∀ Q : L2.St → Hp → Prop, Q σ1 H → t v σ H Q
def GtsOk (K : PySem.W.Frag) (own : List Nat) (g : GsX) (t : TGs) : Prop := ∀ (G : Gx) (L : List Nat) (m : List Addr) (h h1 : Hh) (ρ ρ1 : Rho) (σ : L2.St) (H : Hp) (d : List D) (v : List V), RS K H m ρ σ → RDs K H m d v → g d ρ L h = .ok ρ1 h1 →
  h1 = h ∧ ∃ σ1, RS K H m ρ1 σ1 ∧ wipe σ1 own = wipe σ own ∧ ∀ Q : L2.St → Hp → Prop, Q σ1 H → t v σ H Q
theorem gt_name {K : PySem.W.Frag} {own : List Nat} {i : Nat} (h : i ∈ own) : GtOk K own (gVar i) (gName i) := by
  intro G L m h0 h1 ρ ρ1 σ H d v r q e
  cases e
  exact ⟨rfl, _, r.set i q, wipe_set h, fun Q z => z⟩
theorem gts_nil {K : PySem.W.Frag} {own : List Nat} : GtsOk K own gsNil gNil := by
  intro G L m h0 h1 ρ ρ1 σ H d v r q e
  cases q with
  | nil =>
    cases e
    exact ⟨rfl, _, r, rfl, fun Q z => ⟨rfl, z⟩⟩
  | cons _ _ => cases e
theorem gts_cons {K : PySem.W.Frag} {own : List Nat} {g : GX} {t : TG} {gs : GsX} {ts : TGs} (h1 : GtOk K own g t) (h2 : GtsOk K own gs ts) : GtsOk K own (gsCons g gs) (gCons t ts) := by
  intro G L m h0 h3 ρ ρ3 σ H d v r q e
  cases q with
  | nil => cases e
  | cons q qs =>
    rename_i d ds v vs
    simp only [gsCons] at e
    cases e1 : g d ρ L h0 with
    | ok ρ1 h1' =>
      rw [e1, R.bind_ok] at e
      obtain ⟨rfl, σ1, r1, w1, k1⟩ := h1 G L m h0 h1' ρ ρ1 σ H d v r q e1
      cases e2 : gs ds ρ1 L h1' with
      | ok ρ2 h2' =>
        rw [e2, R.noExc_ok] at e
        cases e
        obtain ⟨rfl, σ2, r2, w2, k2⟩ := h2 G L m _ _ ρ1 _ σ1 H ds vs r1 qs e2
        exact ⟨rfl, σ2, r2, w2.trans w1, fun Q z => ⟨v, vs, rfl, k1 _ (k2 Q z)⟩⟩
      | exc c p h => rw [e2] at e; cases e
      | bad => rw [e2] at e; cases e
    | exc c p h => rw [e1] at e; cases e
    | bad => rw [e1] at e; cases e
theorem gt_tup {K : PySem.W.Frag} {own : List Nat} {n : Nat} {gs : GsX} {ts : TGs} (h : GtsOk K own gs ts) : GtOk K own (gTupX n gs) (gTup K n ts) := by
  intro G L m h0 h1 ρ ρ1 σ H d v r q e
  cases q with
  | tup hh t =>
    simp only [gTupX] at e
    split at e
    · rename_i hl
      obtain ⟨e0, σ1, r1, w1, k1⟩ := h G L m h0 h1 ρ ρ1 σ H _ _ r t e
      exact ⟨e0, σ1, r1, w1, fun Q z => ⟨_, _, rfl, hh.t, by rw [← t.length]; exact hl, k1 Q z⟩⟩
    · cases e
  | _ => cases e
section
variable {K : PySem.W.Frag} {Z : Zx K} [NoJ Z] {own : List Nat} {g : GX} {gt : TG} {tx : TX} {te : EX} {L : List Nat} {n : Nat} {E : Addr}
theorem aft_noExcR {α β : Type} {Rel : Rl α β} {G : Gx} {m : List Addr} {H : Hp} {r : R α} {Q : β → Hp → Prop} {E E' : XK} (A : Aft K Rel G L m H r.noExc Q E) : Aft K Rel G L m H r Q E' := by
  cases r <;> first | exact A | exact False.elim A
/-- one turn of a comprehension -/
theorem comp_turn {m : List Addr} {h : Hh} {ρ : Rho} {σ : L2.St} {H : Hp} {d : D} {v : V} {go : Hh → R D} {Q : VK} {Nx : Hp → Prop} (GO : GtOk K own g gt) (S : Stt K Z.quiet L m h ρ (wipe σ own) H) (nl : n ∉ L) (hn : m[n]? = some E) (q : RD K H m d v)
    (A : Aft K (rD K) Z.G L m H ((g d ρ L h).noExc.bind fun ρ1 h1 => (tx ρ1 L h1).bind fun b h2 => if b then (te ρ1 L h2).bind fun y h3 => (match h3[n]? with
      | some (.lst acc) => if acc.length < sizeLine then go (h3.set n (.lst (acc ++ [y]))) else .bad
      | _ => .bad)
    else go h2) Q (fun _ _ _ => False))
    (hN : ∀ m1 h1 H1, Stt K Z.quiet L m1 h1 ρ (wipe σ own) H1 → Le m m1 → Pers K H H1 → Aft K (rD K) Z.G L m1 H1 (go h1) Q (fun _ _ _ => False) → Nx H1) :
    gt v (wipe σ own) H fun σ2 H2 => wipe σ2 own = wipe σ own ∧ Rg K (rE Bool) Z.quiet tx σ2 H2 fun b H3 => if b = true then Rg K (rD K) Z.quiet te σ2 H3 fun y H4 => ∃ acc, H4 E = some (.lst acc) ∧ acc.length < sizeLine ∧ Nx (upd H4 E (.lst (acc ++ [y]))) else Nx H3 := by
  cases eg : g d ρ L h with
  | exc c p h1 => rw [eg] at A; exact False.elim A
  | bad => rw [eg] at A; exact False.elim A
  | ok ρ1 h1 =>
    rw [eg, R.noExc_ok, R.bind_ok] at A
    obtain ⟨rfl, σ1, r1, w1, k1⟩ := GO Z.G L m h h1 ρ ρ1 _ H d v S.rs q eg
    refine k1 _ ⟨w1.trans wipe_wipe, ?_⟩
    have S1 : Stt K Z.quiet L m h1 ρ1 σ1 H := S.set r1
    refine Rg.bind (RC := rD K) (Z := Z.quiet) S1 A fun m2 h2 H2 b b' S2 l2 p2 q2 A2 => ?_
    obtain rfl : b = b' := q2
    have back : ∀ {m' h' H'}, Stt K Z.quiet L m' h' ρ1 σ1 H' → Le m m' → Pers K H H' → Stt K Z.quiet L m' h' ρ (wipe σ own) H' := fun S' l p => S'.set (S.rs.mono p l)
    cases b with
    | false => exact iteF (hN m2 h2 H2 (back S2 l2 p2) l2 p2 A2)
    | true =>
      refine iteT ?_
      refine Rg.bind (RC := rD K) (Z := Z.quiet) S2 A2 fun m3 h3 H3 y u S3 l3 p3 q3 A3 => ?_
      split at A3
      · rename_i acc ea
        split at A3
        · rename_i hl
          have hn3 : m3[n]? = some E := l3 _ _ (l2 _ _ hn)
          obtain ⟨vs, hv, t⟩ := S3.rh.lstH hn3 ea
          obtain ⟨r4, p4⟩ := S3.rh.put ea hn3 nl (o' := .lst (acc ++ [y])) (u' := .lst (vs ++ [u])) (RDs.snoc t q3)
          refine ⟨vs, hv, by rw [← t.length]; exact hl, ?_⟩
          have l03 := l2.trans l3
          have p03 := p2.trans p3
          exact hN m3 _ _ ((back S3 l03 p03).on (Le.refl _) p4 r4) l03 (p03.trans p4) (Aft.mono A3 (Le.refl _) p4)
        · exact False.elim A3
      · exact False.elim A3
/-- what a comprehension asks behind its first store -/
def LcAll (J : It) (E : Addr) (H1 : Hp) (g : TG) (tt : TT) (te : TE) (vs : List Nat) (σ : L2.St) (Q : VK) : Prop := ∃ W : Nat → Nat → Hp → Prop, (∃ m, W 0 m (upd H1 E (.lst []))) ∧ ∀ i m H, W i m H →
  (J.stop i H ∧ Q (.ref E) H) ∨ (J.go i H ∧ ∃ Nx : Hp → Prop, (∀ H', Nx H' → ∃ m', m' < m ∧ W (i + 1) m' H') ∧ ∀ x H', J.yld i H x H' → g x (wipe σ vs) H' fun σ2 H2 => wipe σ2 vs = wipe σ vs ∧ tt σ2 H2 fun b H3 =>
    if b = true then te σ2 H3 fun y H4 => ∃ acc, H4 E = some (.lst acc) ∧ acc.length < sizeLine ∧ Nx (upd H4 E (.lst (acc ++ [y]))) else Nx H3)
theorem comp_start {m : List Addr} {h : Hh} {ρ : Rho} {σ : L2.St} {H : Hp} (S : Stt K Z L m h ρ σ H) (hE : H E = none) : Stt K Z.quiet L (m ++ [E]) (h ++ [.lst []]) (wipeR ρ own) (wipe σ own) (upd H E (.lst [])) ∧ h.length ∉ L ∧ (m ++ [E])[h.length]? = some E ∧ Pers K H (upd H E (.lst [])) := by
  have r := S.rh.new hE (o := .lst []) (u := .lst []) (show RDs _ _ _ [] [] from .nil) S.lk
  have p : Pers K H (upd H E (.lst [])) := pers_new hE
  have S1 := S.on (Le.app m [E]) p r
  exact ⟨⟨r, S1.rs.wipe own, S1.iv, S1.lk, fun p e => by rw [NoJ.h] at e; cases e⟩, fun z => Nat.lt_irrefl _ (S.lk _ z), by rw [← S.rh.len]; simp, p⟩
theorem comp_still {J : It} {xs : List D} {P : List Addr → Hp → Prop} (B : Src K Z.G J xs P) (GO : GtOk K own g gt) {m : List Addr} {h : Hh} {ρ : Rho} {σ : L2.St} {H : Hp} {Q : VK} {W0 : XK} (S : Stt K Z L m h ρ σ H) (hP : P m H)
    (A : Aft K (rD K) Z.G L m H (compV g tx te h.length xs (wipeR ρ own) L (h ++ [.lst []])).noExc Q W0) (hE : H E = none) :
    LcAll J E H gt (Rg K (rE Bool) Z.quiet tx) (Rg K (rD K) Z.quiet te) own σ Q := by
  obtain ⟨S0, nl, hn, p0⟩ := comp_start (own := own) S hE
  have A0 : Aft K (rD K) Z.G L (m ++ [E]) (upd H E (.lst [])) (compV g tx te h.length xs (wipeR ρ own) L (h ++ [.lst []])) Q (fun _ _ _ => False) := aft_noExcR (Aft.mono A (Le.app _ _) p0)
  have hP0 := B.mono hP (Le.app m [E]) p0
  refine ⟨fun i k H => k = xs.length - i ∧ i ≤ xs.length ∧ ∃ m1 h1, Stt K Z.quiet L m1 h1 (wipeR ρ own) (wipe σ own) H ∧ m1[h.length]? = some E ∧ P m1 H ∧ Aft K (rD K) Z.G L m1 H (compV g tx te h.length (xs.drop i) (wipeR ρ own) L h1) Q (fun _ _ _ => False),
    ⟨_, rfl, Nat.zero_le _, _, _, S0, hn, hP0, A0⟩, ?_⟩
  rintro i k H1 ⟨rfl, hi, m1, h1, S1, hn1, hP1, A1⟩
  by_cases e : i = xs.length
  · subst e
    rw [List.drop_length] at A1
    exact .inl ⟨B.stop hP1 (Nat.le_refl _), AftB.ok S1.rh A1 (.ref hn1)⟩
  · have hlt : i < xs.length := by omega
    rw [List.drop_eq_getElem_cons hlt] at A1
    refine .inr ⟨B.go hP1 hlt, fun H' => xs.length - (i + 1) = xs.length - (i + 1) ∧ i + 1 ≤ xs.length ∧ ∃ m1 h1, Stt K Z.quiet L m1 h1 (wipeR ρ own) (wipe σ own) H' ∧ m1[h.length]? = some E ∧ P m1 H' ∧ Aft K (rD K) Z.G L m1 H' (compV g tx te h.length (xs.drop (i + 1)) (wipeR ρ own) L h1) Q (fun _ _ _ => False), fun H' z => ⟨_, by omega, z⟩, fun x H' y => ?_⟩
    obtain ⟨p1, r1, q1⟩ := B.yld hP1 (List.getElem?_eq_getElem hlt) y
    have S2 : Stt K Z.quiet L m1 h1 (wipeR ρ own) (wipe σ own) H' := S1.on (Le.refl _) p1 (r1 _ _ S1.rh)
    exact comp_turn (go := fun h => compV g tx te _ (xs.drop (i + 1)) (wipeR ρ own) L h) GO S2 nl hn1 q1 (Aft.mono A1 (Le.refl _) p1) fun m3 h3 H3 S3 l3 p3 A3 => ⟨rfl, hlt, m3, h3, S3, l3 _ _ hn1, B.mono hP1 l3 (p1.trans p3), A3⟩
theorem comp_live {kk : Nat} {a : Addr} {f : Nat} (GO : GtOk K own g gt) {m : List Addr} {h : Hh} {ρ : Rho} {σ : L2.St} {H : Hp} {Q : VK} {W0 : XK} (S : Stt K Z L m h ρ σ H) (ha : m[kk]? = some a)
    (A : Aft K (rD K) Z.G L m H (compL g tx te h.length kk f 0 (wipeR ρ own) L (h ++ [.lst []])).noExc Q W0) (hE : H E = none) :
    LcAll (Itl K a) E H gt (Rg K (rE Bool) Z.quiet tx) (Rg K (rD K) Z.quiet te) own σ Q := by
  obtain ⟨S0, nl, hn, p0⟩ := comp_start (own := own) S hE
  have A0 : Aft K (rD K) Z.G L (m ++ [E]) (upd H E (.lst [])) (compL g tx te h.length kk f 0 (wipeR ρ own) L (h ++ [.lst []])) Q (fun _ _ _ => False) := aft_noExcR (Aft.mono A (Le.app _ _) p0)
  refine ⟨fun i k H => ∃ m1 h1, Stt K Z.quiet L m1 h1 (wipeR ρ own) (wipe σ own) H ∧ m1[h.length]? = some E ∧ m1[kk]? = some a ∧ Aft K (rD K) Z.G L m1 H (compL g tx te h.length kk k i (wipeR ρ own) L h1) Q (fun _ _ _ => False),
    ⟨f, _, _, S0, hn, Le.app _ _ _ _ ha, A0⟩, ?_⟩
  rintro i k H1 ⟨m1, h1, S1, hn1, ha1, A1⟩
  cases k with
  | zero => exact False.elim A1
  | succ k =>
    simp only [compL] at A1
    split at A1
    · rename_i xs ex
      obtain ⟨vs, hv, t⟩ := S1.rh.lstH ha1 ex
      split at A1
      · rename_i e
        exact .inl ⟨⟨vs, .of hv, List.getElem?_eq_none_iff.mp (t.none_of e)⟩, AftB.ok S1.rh A1 (.ref hn1)⟩
      · rename_i x e
        obtain ⟨v, hv1, q⟩ := t.get e
        refine .inr ⟨⟨vs, v, .of hv, hv1⟩, fun H' => ∃ m1 h1, Stt K Z.quiet L m1 h1 (wipeR ρ own) (wipe σ own) H' ∧ m1[h.length]? = some E ∧ m1[kk]? = some a ∧ Aft K (rD K) Z.G L m1 H' (compL g tx te h.length kk k (i + 1) (wipeR ρ own) L h1) Q (fun _ _ _ => False), fun H' z => ⟨k, Nat.lt_succ_self _, z⟩, fun x' H' y => ?_⟩
        obtain ⟨rfl, y⟩ := y
        have ex' : x' = v := by
          have := y vs (.of hv)
          rw [hv1] at this
          exact (Option.some.inj this).symm
        subst ex'
        exact comp_turn (go := fun h => compL g tx te _ kk k (i + 1) (wipeR ρ own) L h) GO S1 nl hn1 q A1 fun m3 h3 H3 S3 l3 p3 A3 => ⟨m3, h3, S3, l3 _ _ hn1, l3 _ _ ha1, A3⟩
    · exact False.elim A1
end
end Mi

/-! Mi, part H: comprehensions as expressions and as stored values. -/
namespace Mi
open PySem PySem.Spec PyProof.Rows L2
theorem PI.or {X : Cx} {tg it : Expr} {w1 w2 : TI} (h1 : PI X tg it w1) (h2 : PI X tg it w2) : PI X tg it (fun σ H R => w1 σ H R ∨ w2 σ H R) :=
  ⟨fun pins s σ H R I q => q.elim (h1.run pins s σ H R I) (h2.run pins s σ H R I)⟩
def iSeq (K : PySem.W.Frag) (t : TE) : TI := fun σ H R => iList K t σ H R ∨ (iTup K t σ H R ∨ iStr t σ H R)
theorem pi_seq {X : Cx} {tg e : Expr} {t : TE} (h : PE X e t) : PI X tg e (iSeq X.K t) := PI.or (pi_list h) (PI.or (pi_tup h) (pi_str h))
section
variable {K : PySem.W.Frag} {Z : Zx K} [NoJ Z] {own : List Nat} {g : GX} {gt : TG} {tx : TX} {te ra : EX} {rs : AX}
theorem comp_rd (GO : GtOk K own g gt) {σ : L2.St} {H : Hp} {Q : VK} (h : Rg K (rD K) Z (eComp own ra g tx te) σ H Q) : tLc (iSeq K (Rg K (rD K) Z ra)) gt (Rg K (rE Bool) Z.quiet tx) (Rg K (rD K) Z.quiet te) own σ H Q := by
  obtain ⟨m, L, h, ρ, S, A⟩ := h
  by_cases hd : ∃ xs h1, ra ρ L h = .ok (.tup xs) h1
  · refine .inr (.inl ?_)
    obtain ⟨xs, h1, e1⟩ := hd
    refine Rg.bindE (RC := rD K) S A fun m1 h1' H1 x v f1 S1 l1 p1 q1 A1 => ?_
    rw [e1] at f1
    cases f1
    cases q1 with
    | tup hh t => exact ⟨_, rfl, ⟨_, hh.t⟩, fun E hE => comp_still src_tup GO S1 ⟨hh, t⟩ A1 hE⟩
  · by_cases hd2 : ∃ z h1, ra ρ L h = .ok (.str z) h1
    · refine .inr (.inr ?_)
      obtain ⟨z, h1, e1⟩ := hd2
      refine Rg.bindE (RC := rD K) S A fun m1 h1' H1 x v f1 S1 l1 p1 q1 A1 => ?_
      rw [e1] at f1
      cases f1
      cases q1
      exact ⟨_, rfl, fun E hE => comp_still src_str GO S1 trivial A1 hE⟩
    · refine .inl ?_
      refine Rg.bindE (RC := rD K) S A fun m1 h1 H1 x v f1 S1 l1 p1 q1 A1 => ?_
      cases q1 with
      | tup hh t => exact absurd ⟨_, _, f1⟩ hd
      | str z => exact absurd ⟨_, _, f1⟩ hd2
      | frl hh t => exact ⟨_, rfl, ⟨_, hh.l⟩, fun E hE => comp_still src_frl GO S1 ⟨hh, t⟩ A1 hE⟩
      | ref hn =>
        rename_i n a
        refine ⟨a, rfl, ?_, fun E hE => comp_live GO S1 hn A1 hE⟩
        have A2 : Aft K (rD K) Z.G L m1 H1 (compL g tx te h1.length n fuel 0 (wipeR ρ own) L (h1 ++ [.lst []])).noExc Q (wS Z.W σ) := A1
        have ef : fuel = 99999 + 1 := rfl
        rw [ef, compL] at A2
        dsimp only at A2
        split at A2
        · rename_i xs ex
          have hl : n < h1.length := by
            rw [← S1.rh.len]
            exact (List.getElem?_eq_some_iff.mp hn).1
          rw [List.getElem?_append_left hl] at ex
          obtain ⟨vs, hv, t⟩ := S1.rh.lstH hn ex
          exact ⟨vs, .of hv⟩
        · exact False.elim A2
      | _ => exact False.elim A1
theorem comp_rdR1 (GO : GtOk K own g gt) {σ : L2.St} {H : Hp} {Q : VK} (h : Rg K (rD K) Z (eCompR rng1 own rs g tx te) σ H Q) : tLc (iRng1 (Rg K (rDs K) Z rs)) gt (Rg K (rE Bool) Z.quiet tx) (Rg K (rD K) Z.quiet te) own σ H Q := by
  obtain ⟨m, L, h, ρ, S, A⟩ := h
  refine Rg.bind (RC := rD K) S A fun m1 h1 H1 x v S1 l1 p1 q1 A1 => ?_
  split at A1
  · rename_i ys e
    obtain ⟨j, rfl, b1, b2, B⟩ := rng1_ok (G := Z.G) q1 e
    exact ⟨j, rfl, b1, b2, fun E hE => comp_still B GO S1 trivial A1 hE⟩
  · exact False.elim A1
theorem comp_rdR2 (GO : GtOk K own g gt) {σ : L2.St} {H : Hp} {Q : VK} (h : Rg K (rD K) Z (eCompR rng2 own rs g tx te) σ H Q) : tLc (iRng2 (Rg K (rDs K) Z rs)) gt (Rg K (rE Bool) Z.quiet tx) (Rg K (rD K) Z.quiet te) own σ H Q := by
  obtain ⟨m, L, h, ρ, S, A⟩ := h
  refine Rg.bind (RC := rD K) S A fun m1 h1 H1 x v S1 l1 p1 q1 A1 => ?_
  split at A1
  · rename_i ys e
    obtain ⟨i, j, rfl, b1, B⟩ := rng2_ok (G := Z.G) q1 e
    exact ⟨i, j, rfl, b1, fun E hE => comp_still B GO S1 trivial A1 hE⟩
  · exact False.elim A1
/-- a walk under a lock, where the dict is locked by others | by this walk -/
theorem comp_rdK (pu : Pure ra) (GO : GtOk K own g gt) {σ : L2.St} {H : Hp} {Q : VK} (h : Rg K (rD K) Z (eCompK own ra g tx te) σ H Q) :
    tLockE (tLc (iKeys (Rg K (rD K) Z.quiet ra)) gt (Rg K (rE Bool) Z.quiet tx) (Rg K (rD K) Z.quiet te) own) σ H Q ∨ tLc (iKeys (Rg K (rD K) Z.quiet ra)) gt (Rg K (rE Bool) Z.quiet tx) (Rg K (rD K) Z.quiet te) own σ H Q := by
  obtain ⟨m, L, h, ρ, S, A⟩ := h
  unfold eCompK at A
  rcases pu ρ L h with ⟨x, ex⟩ | ex
  rotate_left 1
  · rw [ex] at A
    exact False.elim A
  rw [ex L, R.bind_ok] at A
  split at A
  rotate_left 1
  · exact False.elim A
  rename_i k xs ek
  have hx : ∃ ob, x = .ref k ∧ h[k]? = some ob ∧ ob.isDic = true := by
    cases x <;> simp [keysAt] at ek
    rename_i n
    split at ek
    · rename_i kvs e1
      cases ek
      exact ⟨_, rfl, e1, rfl⟩
    · rename_i kvs e1
      cases ek
      exact ⟨_, rfl, e1, rfl⟩
    · cases ek
  obtain ⟨ob, rfl, hob, hdic⟩ := hx
  obtain ⟨a, ha⟩ := S.rh.adr hob
  by_cases nl : k ∈ L
  · refine .inr ?_
    obtain ⟨u, q, i1, i2⟩ := S.rh.at_ k ob a hob ha
    obtain ⟨_, od, hu⟩ := i1 nl
    refine ⟨m, L, h, ρ, ⟨S.rh, S.rs, S.iv, S.lk, S.jv⟩, ?_⟩
    rw [ex L]
    intro m1 H1 v l p r qv
    have hu1 : H1 a = some (.frz od u) := p.frz _ _ _ hu
    have ev : v = .ref a := by
      cases qv with
      | ref hn =>
        have := l _ _ ha
        rw [hn] at this
        cases this
        rfl
    subst ev
    have e1 : ∀ j, j ∈ L ↔ j ∈ k :: L := fun j => ⟨List.mem_cons_of_mem _, fun y => (List.mem_cons.mp y).elim (fun z => by subst z; exact nl) id⟩
    have S1 : Stt K Z.quiet (k :: L) m1 h ρ σ H1 := by
      have S' := S.on l p r
      exact ⟨r.same e1, S'.rs, S'.iv, fun j hj => S'.lk j ((e1 j).mpr hj), S'.jv⟩
    have A2 : Aft K (rD K) Z.quiet.G (k :: L) m1 H1 (compV g tx te h.length xs (wipeR ρ own) (k :: L) (h ++ [.lst []])).noExc Q (wS Z.W σ) := by
      have A' := Aft.mono A l p
      revert A'
      generalize (compV g tx te h.length xs (wipeR ρ own) (k :: L) (h ++ [.lst []])).noExc = rr
      intro A'
      cases rr with
      | ok d h1 => exact fun m' H' v l p r q => A' m' H' v l p (r.same fun j => (e1 j).symm) q
      | exc c q h1 => exact fun m' H' cls d l p r x => A' m' H' cls d l p (r.same fun j => (e1 j).symm) x
      | bad => exact A'
    rcases src_at (G := Z.G) q hob ek hu1 with ⟨kvs, rfl, B⟩ | ⟨kvs, rfl, B⟩
    · exact ⟨a, od, rfl, .inl ⟨kvs, hu1, fun E hE => comp_still (Z := Z.quiet) B GO S1 hu1 A2 hE⟩⟩
    · exact ⟨a, od, rfl, .inr ⟨kvs, hu1, fun E hE => comp_still (Z := Z.quiet) B GO S1 hu1 A2 hE⟩⟩
  · refine .inl ?_
    obtain ⟨u, q, i1, i2⟩ := S.rh.at_ k ob a hob ha
    have hu := i2 nl
    have hdo := q.dicO hdic
    refine ⟨a, u, hu, ?_, fun od => ?_⟩
    · cases u <;> first | exact True.intro | exact hdo
    obtain ⟨rL, pL, _⟩ := S.rh.lock (od := od) hob ha hdic hu nl
    have SL : Stt K Z.quiet (k :: L) m h ρ σ (upd H a (.frz od u)) := ⟨rL, S.rs.mono pL (Le.refl _), Z.keep S.iv (Le.refl _) pL, fun j hj => by
      rcases List.mem_cons.mp hj with z | z
      · subst z
        exact (List.getElem?_eq_some_iff.mp hob).1
      · exact S.lk j z, S.jv⟩
    refine ⟨m, k :: L, h, ρ, SL, ?_⟩
    rw [ex (k :: L)]
    intro m1 H1 v l p r qv
    have hu1 : H1 a = some (.frz od u) := p.frz _ _ _ upd_same
    have ev : v = .ref a := by
      cases qv with
      | ref hn =>
        have := l _ _ ha
        rw [hn] at this
        cases this
        rfl
    subst ev
    have S1 : Stt K Z.quiet (k :: L) m1 h ρ σ H1 := SL.on l p r
    have A2 : Aft K (rD K) Z.quiet.G (k :: L) m1 H1 (compV g tx te h.length xs (wipeR ρ own) (k :: L) (h ++ [.lst []])).noExc (fun v H' => H' a = some (.frz od u) ∧ Q v (upd H' a u)) (fun _ _ _ => False) := by
      revert A
      generalize hrr : (compV g tx te h.length xs (wipeR ρ own) (k :: L) (h ++ [.lst []])) = rr
      intro A
      cases rr with
      | ok d h1 =>
        intro m' H' v' l' p' r' q'
        have hH := p'.frz _ _ _ hu1
        exact ⟨hH, A m' _ v' (l.trans l') (Pers.unlock hu hdo rfl pL (p.trans p')) (r'.unlock (l' _ _ (l _ _ ha)) hH hdo nl) (q'.monoD (PersD.unlock hH hdo) (Le.refl _))⟩
      | exc c q h1 => exact False.elim A
      | bad => exact False.elim A
    rcases src_at (G := Z.G) q hob ek hu1 with ⟨kvs, rfl, B⟩ | ⟨kvs, rfl, B⟩
    · exact ⟨a, od, rfl, .inl ⟨kvs, hu1, fun E hE => comp_still (Z := Z.quiet) B GO S1 hu1 A2 hE⟩⟩
    · exact ⟨a, od, rfl, .inr ⟨kvs, hu1, fun E hE => comp_still (Z := Z.quiet) B GO S1 hu1 A2 hE⟩⟩
end
/-! ### the rules -/
/-- the block's context -/
abbrev Blk (X : Cx) (scope : Scope) (F : Cx → Prop) : Prop := ∀ (s : Shared) (H : Hp) (C : Addr) (cl : List (Str × Addr)) (fp : List Addr), F (X.blk s H scope (compEnvC scope cl C X.env) fp)
section
variable {X : Cx} {Z : Zx X.K} [NoJ Z] {elt tg iter a1 a2 : Expr} {ifs : List Expr} {scope : Scope} {own : List (Str × Nat)} {pos spos p pc py : Pos} {g : GX} {gt : TG} {tx : TX} {te ra : EX} {rs : AX} {i : Nat} {y : Str}
theorem mts_nil {X : Cx} {K : PySem.W.Frag} {Z : Zx K} : PTs X [] (Rg K (rE Bool) Z tYesX) := by
  refine ⟨fun pins s σ H Q I ⟨m, L, h, ρ, S, A⟩ => pts_nil.run pins s σ H Q I ?_⟩
  exact Aft.ok (RA := rE Bool) S A rfl
/-- the block's parts: the target, the tests, the element -/
structure BlkP (X : Cx) (K : PySem.W.Frag) (Z : Zx K) (scope : Scope) (tg : Expr) (gt : TG) (ifs : List Expr) (tx : TX) (elt : Expr) (te : EX) : Prop where
  g : ∀ (s : Shared) (H : Hp) (C : Addr) (cl : List (Str × Addr)) (fp : List Addr), PG (X.blk s H scope (compEnvC scope cl C X.env) fp) tg gt
  t : ∀ (s : Shared) (H : Hp) (C : Addr) (cl : List (Str × Addr)) (fp : List Addr), PTs (X.blk s H scope (compEnvC scope cl C X.env) fp) ifs (Rg K (rE Bool) Z tx)
  e : ∀ (s : Shared) (H : Hp) (C : Addr) (cl : List (Str × Addr)) (fp : List Addr), PE (X.blk s H scope (compEnvC scope cl C X.env) fp) elt (Rg K (rD K) Z te)
theorem me_comp (hc : X.calm = true) (hN : X.N.Nodup) (he : ME X Z iter ra) (ok : BlkOk X.N X.env.scope scope own) (GO : GtOk X.K (own.map (·.2)) g gt) (B : BlkP X X.K Z.quiet scope tg gt ifs tx elt te) (hs : ∀ x, foldedSetIterable iter X.env x = pure x := by intro _; rfl) :
    ME X Z (.ListComp elt [⟨tg, iter, ifs, 0⟩] scope pos) (eComp (own.map (·.2)) ra g tx te) :=
  PE.imp (pe_lc hc hN (pi_seq he) ok B.g B.t B.e hs) fun σ H Q h => comp_rd GO h
theorem ms_comp (hc : X.calm = true) (hN : X.N.Nodup) (hy : X.N[i]? = some y) (hyl : X.env.scope.names.lookup y = some .local) (hsw : swapsWith (.ListComp elt [⟨tg, iter, ifs, 0⟩] scope pos) (some (.Name y py)) spos.line X.env = pure true) (he : ME X Z iter ra) (ok : BlkOk X.N X.env.scope scope own)
    (GO : GtOk X.K (own.map (·.2)) g gt) (B : BlkP X X.K Z.quiet scope tg gt ifs tx elt te) (hs : ∀ x, foldedSetIterable iter X.env x = pure x := by intro _; rfl) :
    MS X Z (.Assign [.Name y py] (.ListComp elt [⟨tg, iter, ifs, 0⟩] scope pos) spos) (sAsg (eComp (own.map (·.2)) ra g tx te) (gVar i)) :=
  PS.imp (ps_setLc hc hN hy hyl hsw (pi_seq he) ok B.g B.t B.e hs) fun D σ H ⟨m, L, h, ρ, S, A⟩ => comp_rd GO (Rg.toS S A fun m1 h1 H1 x v S1 l1 p1 q1 A1 => (A1 : ∀ _, _) m1 H1 _ (Le.refl _) (Pers.refl _) S1.rh (S1.rs.set i q1))
theorem me_compR1 (hc : X.calm = true) (hN : X.N.Nodup) (hgl : Gl X "range") (hm : X.mg "range" = none) (ha : MA X Z [a1] rs) (ok : BlkOk X.N X.env.scope scope own) (GO : GtOk X.K (own.map (·.2)) g gt) (B : BlkP X X.K Z.quiet scope tg gt ifs tx elt te)
    (hq : starEach [a1] X.env = [(false, eval a1 X.env)] := by rfl) (hs : ∀ x, foldedSetIterable (.Call (.Name "range" p) [a1] [] pc) X.env x = pure x := by intro _; rfl) :
    ME X Z (.ListComp elt [⟨tg, .Call (.Name "range" p) [a1] [] pc, ifs, 0⟩] scope pos) (eCompR rng1 (own.map (·.2)) rs g tx te) :=
  PE.imp (pe_lc hc hN (pi_range1 hgl hm ha hq) ok B.g B.t B.e hs) fun σ H Q h => comp_rdR1 GO h
theorem ms_compR1 (hc : X.calm = true) (hN : X.N.Nodup) (hy : X.N[i]? = some y) (hyl : X.env.scope.names.lookup y = some .local) (hsw : swapsWith (.ListComp elt [⟨tg, .Call (.Name "range" p) [a1] [] pc, ifs, 0⟩] scope pos) (some (.Name y py)) spos.line X.env = pure true)
    (hgl : Gl X "range") (hm : X.mg "range" = none) (ha : MA X Z [a1] rs) (ok : BlkOk X.N X.env.scope scope own) (GO : GtOk X.K (own.map (·.2)) g gt) (B : BlkP X X.K Z.quiet scope tg gt ifs tx elt te)
    (hq : starEach [a1] X.env = [(false, eval a1 X.env)] := by rfl) (hs : ∀ x, foldedSetIterable (.Call (.Name "range" p) [a1] [] pc) X.env x = pure x := by intro _; rfl) :
    MS X Z (.Assign [.Name y py] (.ListComp elt [⟨tg, .Call (.Name "range" p) [a1] [] pc, ifs, 0⟩] scope pos) spos) (sAsg (eCompR rng1 (own.map (·.2)) rs g tx te) (gVar i)) :=
  PS.imp (ps_setLc hc hN hy hyl hsw (pi_range1 hgl hm ha hq) ok B.g B.t B.e hs) fun D σ H ⟨m, L, h, ρ, S, A⟩ => comp_rdR1 GO (Rg.toS S A fun m1 h1 H1 x v S1 l1 p1 q1 A1 => (A1 : ∀ _, _) m1 H1 _ (Le.refl _) (Pers.refl _) S1.rh (S1.rs.set i q1))
theorem me_compR2 (hc : X.calm = true) (hN : X.N.Nodup) (hgl : Gl X "range") (hm : X.mg "range" = none) (ha : MA X Z [a1, a2] rs) (ok : BlkOk X.N X.env.scope scope own) (GO : GtOk X.K (own.map (·.2)) g gt) (B : BlkP X X.K Z.quiet scope tg gt ifs tx elt te)
    (hq : starEach [a1, a2] X.env = [(false, eval a1 X.env), (false, eval a2 X.env)] := by rfl) (hq2 : starEach [a2] X.env = [(false, eval a2 X.env)] := by rfl) (hs : ∀ x, foldedSetIterable (.Call (.Name "range" p) [a1, a2] [] pc) X.env x = pure x := by intro _; rfl) :
    ME X Z (.ListComp elt [⟨tg, .Call (.Name "range" p) [a1, a2] [] pc, ifs, 0⟩] scope pos) (eCompR rng2 (own.map (·.2)) rs g tx te) :=
  PE.imp (pe_lc hc hN (pi_range2 hgl hm ha hq hq2) ok B.g B.t B.e hs) fun σ H Q h => comp_rdR2 GO h
theorem me_compK (pu : Pure ra) (hc : X.calm = true) (hN : X.N.Nodup) (he : ME X Z.quiet iter ra) (ok : BlkOk X.N X.env.scope scope own) (GO : GtOk X.K (own.map (·.2)) g gt) (B : BlkP X X.K Z.quiet scope tg gt ifs tx elt te) (hs : ∀ x, foldedSetIterable iter X.env x = pure x := by intro _; rfl) :
    ME X Z (.ListComp elt [⟨tg, iter, ifs, 0⟩] scope pos) (eCompK (own.map (·.2)) ra g tx te) :=
  have F := pe_lc (pos := pos) hc hN (pi_keys he) ok B.g B.t B.e hs
  PE.imp (PE.or (pe_lock F) F) fun σ H Q h => comp_rdK pu GO h
end
end Mi

/-! Mi, part I: built-ins, a def's body. -/
namespace Mi
open PySem PySem.Spec PyProof.Rows L2
section
variable {K : PySem.W.Frag}
theorem rds1 {H : Hp} {m : List Addr} {x : D} {vs : List V} (r : RDs K H m [x] vs) : ∃ v, vs = [v] ∧ RD K H m x v := by
  cases r with
  | cons q t => cases t; exact ⟨_, rfl, q⟩
def rLenX (K : PySem.W.Frag) : List V → Hp → VK → Prop := fun xs H Q => (∃ x n, xs = [x] ∧ LenV K x H n ∧ Q (.int n) H) ∨ ∃ a kvs, xs = [V.ref a] ∧ Rd H a (.dK kvs) ∧ Q (.int kvs.length) H
theorem call_lenX {X : Cx} : CallR X (.builtin "len") (rLenX X.K) := by
  refine CallR.or call_len ?_
  intro pins s σ H xs us Q I r ⟨a, kvs, e, ha, q⟩
  subst e
  obtain ⟨u, rfl, ru⟩ := vals1 r
  cases ru
  exact d_len I ha fun t s' I' => ⟨.int kvs.length, _, I', show RelV (.int kvs.length) (Value.int kvs.length t) from ⟨t, rfl⟩, q⟩
theorem ok_len : OkL K fLen (rLenX K) := by
  intro G L m h H x v Q E S lk r A
  unfold fLen at A
  split at A
  · rename_i x
    obtain ⟨v, rfl, q⟩ := rds1 r
    cases q with
    | str y =>
      simp only at A
      split at A
      · rename_i hl
        exact .inl ⟨_, _, rfl, ⟨hl, rfl⟩, AftB.ok S A (.int _)⟩
      · exact False.elim A
    | tup hh t => exact .inl ⟨_, _, rfl, .inr ⟨_, hh.t, rfl⟩, by rw [← t.length]; exact AftB.ok S A (.int _)⟩
    | frl hh t => exact .inl ⟨_, _, rfl, .inl ⟨_, hh.l, rfl⟩, by rw [← t.length]; exact AftB.ok S A (.int _)⟩
    | ref hn =>
      simp only at A
      split at A
      · rename_i ys ey
        obtain ⟨vs, hv, t⟩ := S.lstH hn ey
        exact .inl ⟨_, _, rfl, .inl ⟨_, .of hv, rfl⟩, by rw [← t.length]; exact AftB.ok S A (.int _)⟩
      · rename_i kvs ek
        obtain ⟨u, q, hr⟩ := S.rd ek hn
        cases u <;> first | exact False.elim q | skip
        exact .inr ⟨_, _, rfl, hr, by rw [← RK.length q]; exact AftB.ok S A (.int _)⟩
      · exact False.elim A
    | _ => exact False.elim A
  · exact False.elim A
theorem ok_int : OkL K fInt (fun xs H Q => (∃ i, xs = [.int i] ∧ Q (.int i) H) ∨ ∃ k, xs = [.bl k] ∧ Q (.int (if k then 1 else 0)) H) := by
  intro G L m h H x v Q E S lk r A
  unfold fInt at A
  split at A
  · obtain ⟨v, rfl, q⟩ := rds1 r
    cases q
    exact .inl ⟨_, rfl, AftB.ok S A (.int _)⟩
  · obtain ⟨v, rfl, q⟩ := rds1 r
    cases q
    exact .inr ⟨_, rfl, AftB.ok S A (.int _)⟩
  · exact False.elim A
theorem keys_rds {H : Hp} {m : List Addr} : ∀ {kvs : List (Key × D)} {vs : List (Key × V)}, RK K H m kvs vs → RDs K H m (keysOf keyV kvs) (vs.map fun kv => kV kv.1)
  | _, _, .nil => .nil
  | (k, d) :: r, (k', v) :: r', .cons q t => by
    obtain ⟨rfl, _⟩ : k = k' ∧ _ := q
    refine .cons ?_ (keys_rds t)
    cases k with
    | inl i => exact .int i
    | inr x => exact .str x
theorem ok_list : OkL K fList (fun xs H Q => ∃ p ys, xs = [.ref p] ∧ (SqL K H p ys ∨ SqT K H p ys) ∧ ∀ l, H l = none → Q (.ref l) (upd H l (.lst ys))) := by
  intro G L m h H x v Q E S lk r A
  unfold fList at A
  split at A
  · rename_i x
    obtain ⟨v, rfl, q⟩ := rds1 r
    split at A
    · rename_i ys ey
      obtain ⟨a, vs, rfl, hs, t⟩ := S.seq q ey
      exact ⟨a, vs, rfl, hs, Aft.new S lk A fun p hp => RDs.mono (pers_new hp) (Le.app _ _) t⟩
    · exact False.elim A
  · exact False.elim A
theorem ok_tuple : OkL K fTuple (fun xs H Q => ∃ p ys, xs = [.ref p] ∧ ((SqL K H p ys ∧ ∀ l, H l = none → Q (.ref l) (upd H l (.tup ys))) ∨ (SqT K H p ys ∧ Q (.ref p) H))) := by
  intro G L m h H x v Q E S lk r A
  unfold fTuple at A
  split at A
  · obtain ⟨v, rfl, q⟩ := rds1 r
    cases q with
    | tup hh t => exact ⟨_, _, rfl, .inr ⟨hh.t, AftB.ok S A (.tup hh t)⟩⟩
  · rename_i x _
    obtain ⟨v, rfl, q⟩ := rds1 r
    split at A
    · rename_i ys ey
      obtain ⟨a, vs, rfl, hs, t⟩ := S.lst q ey
      exact ⟨a, vs, rfl, .inl ⟨hs, Aft.newT S A t⟩⟩
    · exact False.elim A
  · exact False.elim A
theorem ok_min2 : OkL K fMin2 (fun xs H Q => ∃ i j, xs = [.int i, .int j] ∧ Q (.int (if j < i then j else i)) H) := by
  intro G L m h H x v Q E S lk r A
  unfold fMin2 at A
  split at A
  · cases r with
    | cons q1 t => cases t with
      | cons q2 t => cases t; cases q1; cases q2; exact ⟨_, _, rfl, AftB.ok S A (.int _)⟩
  · exact False.elim A
theorem ok_max2 : OkL K fMax2 (fun xs H Q => ∃ i j, xs = [.int i, .int j] ∧ Q (.int (if j > i then j else i)) H) := by
  intro G L m h H x v Q E S lk r A
  unfold fMax2 at A
  split at A
  · cases r with
    | cons q1 t => cases t with
      | cons q2 t => cases t; cases q1; cases q2; exact ⟨_, _, rfl, AftB.ok S A (.int _)⟩
  · exact False.elim A
theorem intsD_ok {H : Hp} {m : List Addr} : ∀ {xs : List D} {vs : List V} {ns : List Int}, RDs K H m xs vs → intsD xs = some ns → vs = ns.map V.int
  | _, _, _, .nil, e => by cases e; rfl
  | d :: ds, _, ns, .cons q t, e => by
    cases q <;> simp [intsD] at e
    obtain ⟨r, e1, rfl⟩ := e
    rw [intsD_ok t e1]; rfl
theorem blsD_ok {H : Hp} {m : List Addr} : ∀ {xs : List D} {vs : List V} {ns : List Bool}, RDs K H m xs vs → blsD xs = some ns → vs = ns.map V.bl
  | _, _, _, .nil, e => by cases e; rfl
  | d :: ds, _, ns, .cons q t, e => by
    cases q <;> simp [blsD] at e
    obtain ⟨r, e1, rfl⟩ := e
    rw [blsD_ok t e1]; rfl
theorem strsD_ok {H : Hp} {m : List Addr} : ∀ {xs : List D} {vs : List V} {ns : List Str}, RDs K H m xs vs → strsD xs = some ns → vs = ns.map V.str
  | _, _, _, .nil, e => by cases e; rfl
  | d :: ds, _, ns, .cons q t, e => by
    cases q <;> simp [strsD] at e
    obtain ⟨r, e1, rfl⟩ := e
    rw [strsD_ok t e1]; rfl
theorem strs_rds {H : Hp} {m : List Addr} : ∀ ss : List Str, RDs K H m (ss.map D.str) (ss.map V.str)
  | [] => .nil
  | s :: r => .cons (.str s) (strs_rds r)
theorem ok_sum : OkL K fSum (rSum K) := by
  intro G L m h H x v Q E S lk r A
  unfold fSum at A
  split at A
  · obtain ⟨v, rfl, q⟩ := rds1 r
    split at A
    · rename_i ns e
      rw [Option.bind_eq_some_iff] at e
      obtain ⟨ys, e1, e2⟩ := e
      obtain ⟨a, vs, rfl, hs, t⟩ := S.lst q e1
      exact ⟨a, ns, rfl, by rw [← intsD_ok t e2]; exact hs, AftB.ok S A (.int _)⟩
    · exact False.elim A
  · exact False.elim A
theorem ok_all : OkL K fAll (rAll K) := by
  intro G L m h H x v Q E S lk r A
  unfold fAll at A
  split at A
  · obtain ⟨v, rfl, q⟩ := rds1 r
    split at A
    · rename_i ns e
      rw [Option.bind_eq_some_iff] at e
      obtain ⟨ys, e1, e2⟩ := e
      obtain ⟨a, vs, rfl, hs, t⟩ := S.lst q e1
      exact ⟨a, ns, rfl, by rw [← blsD_ok t e2]; exact hs, AftB.ok S A (.bl _)⟩
    · exact False.elim A
  · exact False.elim A
theorem ok_any : OkL K fAny (rAny K) := by
  intro G L m h H x v Q E S lk r A
  unfold fAny at A
  split at A
  · obtain ⟨v, rfl, q⟩ := rds1 r
    split at A
    · rename_i ns e
      rw [Option.bind_eq_some_iff] at e
      obtain ⟨ys, e1, e2⟩ := e
      obtain ⟨a, vs, rfl, hs, t⟩ := S.lst q e1
      exact ⟨a, ns, rfl, by rw [← blsD_ok t e2]; exact hs, AftB.ok S A (.bl _)⟩
    · exact False.elim A
  · exact False.elim A
/-! ### sorted texts -/
theorem ltCps_irrefl : ∀ l : List Nat, ltCps l l = false
  | [] => rfl
  | a :: r => by simp [ltCps, ltCps_irrefl r]
theorem ltCps_trans : ∀ {a b c : List Nat}, ltCps a b = true → ltCps b c = true → ltCps a c = true
  | [], [], _, h, _ => by simp [ltCps] at h
  | [], _ :: _, [], _, h => by simp [ltCps] at h
  | [], _ :: _, _ :: _, _, _ => rfl
  | _ :: _, [], _, h, _ => by simp [ltCps] at h
  | _ :: _, _ :: _, [], _, h => by simp [ltCps] at h
  | a :: r, b :: s, c :: t, h1, h2 => by
    simp only [ltCps, Bool.or_eq_true, decide_eq_true_eq, Bool.and_eq_true, beq_iff_eq] at h1 h2 ⊢
    rcases h1 with h1 | ⟨rfl, h1⟩
    · rcases h2 with h2 | ⟨rfl, h2⟩
      · exact .inl (by omega)
      · exact .inl h1
    · rcases h2 with h2 | ⟨rfl, h2⟩
      · exact .inl h2
      · exact .inr ⟨rfl, ltCps_trans h1 h2⟩
theorem ltCps_total : ∀ {a b : List Nat}, ltCps a b = false → ltCps b a = false → a = b
  | [], [], _, _ => rfl
  | [], _ :: _, h, _ => by simp [ltCps] at h
  | _ :: _, [], _, h => by simp [ltCps] at h
  | a :: r, b :: s, h1, h2 => by
    simp only [ltCps, Bool.or_eq_false_iff, decide_eq_false_iff_not, Bool.and_eq_false_iff, beq_eq_false_iff_ne] at h1 h2
    have e : a = b := by omega
    subst e
    have e2 : r = s := ltCps_total (h1.2.resolve_left (fun z => z rfl)) (h2.2.resolve_left (fun z => z rfl))
    rw [e2]
theorem leS_trans {a b c : Str} (h1 : leS a b = true) (h2 : leS b c = true) : leS a c = true := by
  unfold leS at *
  rw [Bool.not_eq_true'] at *
  cases e : ltCps c.cps.toList a.cps.toList with
  | false => rfl
  | true =>
    cases e2 : ltCps a.cps.toList b.cps.toList with
    | true =>
      have := ltCps_trans e e2
      rw [h2] at this
      cases this
    | false =>
      have e3 := ltCps_total h1 e2
      rw [← e3, h2] at e
      cases e
theorem leS_total (a b : Str) : (leS a b || leS b a) = true := by
  unfold leS
  cases e : ltCps b.cps.toList a.cps.toList with
  | false => rfl
  | true =>
    cases e2 : ltCps a.cps.toList b.cps.toList with
    | false => rfl
    | true =>
      have := ltCps_trans e e2
      rw [ltCps_irrefl] at this
      cases this
theorem leS_anti {a b : Str} (h1 : leS a b = true) (h2 : leS b a = true) : a = b := by
  unfold leS at h1 h2
  rw [Bool.not_eq_true'] at h1 h2
  have e := ltCps_total h2 h1
  obtain ⟨x⟩ := a
  obtain ⟨y⟩ := b
  congr 1
  exact Array.toList_inj.mp e
theorem risingS_pw : ∀ (ys : List Str) (p : Str), risingS p ys = true → (∀ y ∈ ys, leS p y = true) ∧ ys.Pairwise fun x y => leS x y = true
  | [], _, _ => ⟨fun y hy => by simp at hy, List.Pairwise.nil⟩
  | x :: r, p, h => by
    simp only [risingS, Bool.and_eq_true] at h
    obtain ⟨h1, h2⟩ := risingS_pw r x h.2
    have hp : leS p x = true := h.1
    refine ⟨fun y hy => ?_, List.pairwise_cons.mpr ⟨h1, h2⟩⟩
    rcases List.mem_cons.mp hy with rfl | hy
    · exact hp
    · exact leS_trans hp (h1 y hy)
theorem sortedS_pw {ys : List Str} (h : sortedS ys = true) : ys.Pairwise fun x y => leS x y = true := by
  cases ys with
  | nil => exact List.Pairwise.nil
  | cons x r =>
    obtain ⟨h1, h2⟩ := risingS_pw r x h
    exact List.pairwise_cons.mpr ⟨h1, h2⟩
theorem sortS_eq {xs ys : List Str} (hp : ys.Perm xs) (hs : sortedS ys = true) : ys = sortS xs := by
  have h2 : (sortS xs).Pairwise fun x y => leS x y = true := List.pairwise_mergeSort (le := leS) (fun a b c => leS_trans) leS_total xs
  have h3 : ys.Perm (sortS xs) := hp.trans (List.mergeSort_perm xs leS).symm
  exact List.Perm.eq_of_pairwise (le := fun x y => leS x y = true) (fun a b _ _ h1 h2 => leS_anti h1 h2) (sortedS_pw hs) h2 h3
theorem ok_sortS : OkL K fSortS (rSortedS K) := by
  intro G L m h H x v Q E S lk r A
  unfold fSortS at A
  split at A
  · obtain ⟨v, rfl, q⟩ := rds1 r
    split at A
    · rename_i ss e
      rw [Option.bind_eq_some_iff] at e
      obtain ⟨ys, e1, e2⟩ := e
      obtain ⟨a, vs, rfl, hs, t⟩ := S.lst q e1
      split at A
      · rename_i hl
        refine ⟨a, ss, rfl, by rw [← strsD_ok t e2]; exact hs, hl, fun zs p hperm hsort hp => ?_⟩
        rw [sortS_eq hperm hsort]
        exact Aft.new (u := .lst ((sortS ss).map V.str)) S lk A (fun p hp => (strs_rds (sortS ss) : RDs K _ _ _ _)) p hp
      · exact False.elim A
    · exact False.elim A
  · exact False.elim A
theorem strs_keys {H : Hp} {m : List Addr} : ∀ {kvs : List (Key × D)} {vs : List (Key × V)} {ss : List Str}, RK K H m kvs vs → strsD (keysOf keyV kvs) = some ss → vs.map (·.1) = ss.map Sum.inr
  | _, _, _, .nil, e => by cases e; rfl
  | (k, d) :: r, (k', v) :: r', ss, .cons q t, e => by
    obtain ⟨rfl, _⟩ : k = k' ∧ _ := q
    cases k with
    | inl i => simp [keysOf, keyV, strsD] at e
    | inr x =>
      simp only [keysOf, List.map_cons, keyV, strsD, Option.map_eq_some_iff] at e
      obtain ⟨r2, e1, rfl⟩ := e
      rw [List.map_cons, strs_keys t e1]; rfl
def rSortK : List V → Hp → VK → Prop := fun xs H Q => ∃ (a : Addr) (kvs : List (Key × V)) (ks : List Str), xs = [.ref a] ∧ Rd H a (.dK kvs) ∧ kvs.map (·.1) = ks.map Sum.inr ∧ ks.length < 64 ∧
    ∀ ys p, ys.Perm ks → sortedS ys = true → H p = none → Q (.ref p) (upd H p (.lst (ys.map V.str)))
theorem ok_sortK : OkL K fSortK rSortK := by
  intro G L m h H x v Q E S lk r A
  unfold fSortK at A
  split at A
  · obtain ⟨v, rfl, q⟩ := rds1 r
    split at A
    · rename_i kvs ek
      cases q with
      | ref hn =>
        obtain ⟨u, q, hr⟩ := S.rd ek hn
        cases u <;> first | exact False.elim q | skip
        split at A
        · rename_i ss e
          split at A
          · rename_i hl
            refine ⟨_, _, ss, rfl, hr, strs_keys q e, hl, fun zs p hperm hsort hp => ?_⟩
            rw [sortS_eq hperm hsort]
            exact Aft.new (u := .lst ((sortS ss).map V.str)) S lk A (fun p hp => (strs_rds (sortS ss) : RDs K _ _ _ _)) p hp
          · exact False.elim A
        · exact False.elim A
    · exact False.elim A
  · exact False.elim A
end
section
variable {X : Cx} {Z : Zx X.K} {a e o : Expr} {es : List Expr} {ra rb : EX} {rs : AX} {pos p p2 apos : Pos}
theorem me_listK (hc : X.calm = true) (hg : Gl X "list") (hm : X.mg "list" = none) (ha : ME X Z a ra) (hn : ("list" : Str) ≠ "__name__" := by decide) (hv : bootBuiltins "list" = some (.type "list") := by decide +kernel)
    (he : starEach [a] X.env = (false, eval a X.env) :: starEach [] X.env := by rfl) (hpl : (backTo pos (starEach [] X.env)).any (·.1) = false := by rfl) : ME X Z (.Call (.Name "list" p) [a] [] pos) (eListK ra) := by
  refine PE.imp (pe_callTy (call_list_dK hc) hg hm hv (pa_cons ha pa_nil he) hn (by decide) he hpl) fun σ H Q ⟨m, L, h, ρ, S, A⟩ => ?_
  refine Rg.bind (RC := rD X.K) S A fun m1 h1 H1 x v S1 l1 p1 q1 A1 => ?_
  cases q1 with
  | ref hn =>
    simp only at A1
    split at A1
    · exact False.elim A1
    · rename_i nl
      split at A1
      · rename_i kvs ek
        obtain ⟨u, q, i1, i2⟩ := S1.rh.at_ _ _ _ ek hn
        cases u <;> first | exact False.elim q | skip
        exact ⟨_, _, rfl, i2 nl, Aft.new S1.rh S1.lk A1 fun p hp => RDs.mono (pers_new hp) (Le.app _ _) (keys_rds q)⟩
      · exact False.elim A1
  | _ => exact False.elim A1
/-! ### isinstance -/
theorem tyD_ok {K : PySem.W.Frag} {G : Gx} {L : List Nat} {m : List Addr} {h : Hh} {H : Hp} {x : D} {v : V} {t : String} (S : RH K G L m h H) (r : RD K H m x v) (e : tyD x h = some t) : TyX K H v (.type t) := by
  cases r with
  | non => cases e; exact .base .non
  | bl b => cases e; exact .base (.bl b)
  | int i => cases e; exact .base (.int i)
  | str x => cases e; exact .base (.str x)
  | tup hh t =>
    cases e
    rcases hh with hh | ⟨_, (hh | ⟨o, hh⟩) | ⟨o, its, n, h1, h2, _⟩⟩
    · exact .base (.tup hh)
    · exact .base (.tup hh)
    · exact .fTuple hh
    · exact .kTuple h1 h2
  | frl hh t =>
    cases e
    rcases hh with ⟨o, hh⟩ | ⟨o, its, n, h1, h2, _⟩
    · exact .base (.frz hh)
    · exact .kList h1 h2
  | ref hn =>
    simp only [tyD] at e
    split at e
    · rename_i xs ex
      cases e
      obtain ⟨vs, hv, _⟩ := S.lstH hn ex
      exact .base (.lst hv)
    · rename_i kvs ex
      cases e
      obtain ⟨u, q, hr⟩ := S.rd ex hn
      cases u <;> first | exact False.elim q | skip
      rcases hr with hr | ⟨o, hr⟩
      · exact .base (.dK hr)
      · exact .fDict hr
    · cases e
/-- the types that are asked for -/
def tyNames : List String := ["NoneType", "bool", "int", "str", "tuple", "list", "dict"]
theorem tyD_mem {x : D} {h : Hh} {t : String} (e : tyD x h = some t) : t ∈ tyNames := by
  cases x <;> simp [tyD] at e <;> first | (subst e; decide) | skip
  split at e <;> simp at e <;> subst e <;> decide
theorem isB_kit {K : PySem.W.Frag} {a b : String} (ha : a ∈ tyNames) (hb : b ∈ tyNames) : PySem.W.kitOne K (.type a) (.type b) = some (a == b || (a == "bool" && b == "int")) := by
  refine kit_ty ?_
  have all : ∀ a ∈ tyNames, ∀ b ∈ tyNames, kitB a b = some (a == b || (a == "bool" && b == "int")) := by decide +kernel
  exact all a ha b hb
/-- isinstance(x, T) -/
theorem me_isi1 {T : String} {tp : Pos} {x : Str} (hT : T ∈ tyNames) (hg : Gl X "isinstance") (hm : X.mg "isinstance" = none) (hgT : Gl X x) (hmT : X.mg x = none) (hvT : bootBuiltins x = some (.type T)) (ha : ME X Z a ra) (hnT : x ≠ "__name__" := by decide) (hdT : (x == ("__debug__" : Str)) = false := by decide)
    (hv : bootBuiltins "isinstance" = some (.builtin "isinstance") := by decide +kernel)
    (he : starEach [a, .Name x tp] X.env = (false, eval a X.env) :: starEach [.Name x tp] X.env := by rfl) (hpl : (backTo pos (starEach [.Name x tp] X.env)).any (·.1) = false := by rfl) : ME X Z (.Call (.Name "isinstance" p) [a, .Name x tp] [] pos) (eUn (uIsi [T]) ra) := by
  refine PE.imp (pe_callB (call_isi (X := X)) hg hm hv (pa_cons ha (pa_cons (pe_bltn (v := .ty T) hgT hmT hvT rfl hnT hdT) pa_nil) he) (by decide) (by decide) he hpl) fun σ H Q ⟨m, L, h, ρ, S, A⟩ => ?_
  refine Rg.bind (RC := rD X.K) S A fun m1 h1 H1 d v S1 l1 p1 q1 A1 => ?_
  unfold uIsi at A1
  split at A1
  · rename_i t e
    refine ⟨v, .ty T, _, _, _, rfl, .ty T, tyD_ok S1.rh q1 e, isB_kit (tyD_mem e) hT, ?_⟩
    have e2 : isB t [T] = (t == T || (t == "bool" && T == "int")) := by simp [isB]
    rw [← e2]
    exact Aft.ok (RA := rD X.K) S1 A1 (.bl _)
  · exact False.elim A1
/-- isinstance(x, (T, U)) -/
theorem me_isi2 {T U : String} {tp up : Pos} {x y : Str} {kk : Nat} {ttp : Pos} (hT : T ∈ tyNames) (hU : U ∈ tyNames) (hg : Gl X "isinstance") (hm : X.mg "isinstance" = none) (hgT : Gl X x) (hmT : X.mg x = none) (hvT : bootBuiltins x = some (.type T)) (hgU : Gl X y) (hmU : X.mg y = none) (hvU : bootBuiltins y = some (.type U)) (ha : ME X Z a ra)
    (hnT : x ≠ "__name__" := by decide) (hdT : (x == ("__debug__" : Str)) = false := by decide) (hnU : y ≠ "__name__" := by decide) (hdU : (y == ("__debug__" : Str)) = false := by decide)
    (hv : bootBuiltins "isinstance" = some (.builtin "isinstance") := by decide +kernel)
    (he : starEach [a, .Tuple [.Name x tp, .Name y up] kk ttp] X.env = (false, eval a X.env) :: starEach [.Tuple [.Name x tp, .Name y up] kk ttp] X.env := by rfl) (hpl : (backTo pos (starEach [.Tuple [.Name x tp, .Name y up] kk ttp] X.env)).any (·.1) = false := by rfl) :
    ME X Z (.Call (.Name "isinstance" p) [a, .Tuple [.Name x tp, .Name y up] kk ttp] [] pos) (eUn (uIsi [T, U]) ra) := by
  refine PE.imp (pe_callB (call_isiT (X := X)) hg hm hv (pa_cons ha (pa_cons (pe_tup (pa_cons (pe_bltn (v := .ty T) hgT hmT hvT rfl hnT hdT) (pa_cons (pe_bltn (v := .ty U) hgU hmU hvU rfl hnU hdU) pa_nil))) pa_nil) he) (by decide) (by decide) he hpl) fun σ H Q ⟨m, L, h, ρ, S, A⟩ => ?_
  refine Rg.bind (RC := rD X.K) S A fun m1 h1 H1 d v S1 l1 p1 q1 A1 => ?_
  refine ⟨by show 2 ≤ sizeLine; decide, fun tp' htp => ?_⟩
  unfold uIsi at A1
  split at A1
  · rename_i t e
    have pn : Pers X.K H1 (upd H1 tp' (.tup [.ty T, .ty U])) := pers_new htp
    have ty : TyX X.K (upd H1 tp' (.tup [.ty T, .ty U])) v (.type t) := tyD_ok (S1.rh.more htp) (q1.mono pn (Le.refl _)) e
    refine ⟨v, tp', [.ty T, .ty U], _, [.type T, .type U], isB t [T, U], rfl, upd_same, .cons (.ty T) (.cons (.ty U) .nil), ty, ?_, ?_⟩
    · have kT := isB_kit (K := X.K) (tyD_mem e) hT
      have kU := isB_kit (K := X.K) (tyD_mem e) hU
      have e2 : isB t [T, U] = ((t == T || (t == "bool" && T == "int")) || (t == U || (t == "bool" && U == "int"))) := by simp [isB]
      rw [e2]
      refine kitAny_cons kT (fun z => ?_) (fun z => by rw [z]; rfl)
      rw [z, Bool.false_or]
      refine kitAny_cons kU (fun z => ?_) (fun z => z)
      rw [z]
      exact kitAny_nil
    · exact (A1 : ∀ _, _) m1 _ (.bl _) (Le.refl _) pn (S1.rh.more htp) (.bl _)
  · exact False.elim A1
/-! ### methods of lists and texts -/
theorem me_app {args : Expr} (ho : ME X Z o ra) (ha : ME X Z a rb) (hbase : attributeBase o "append" X.env (eval o X.env) = eval o X.env := by rfl)
    (hfew : ((backTo pos (starEach [a] X.env)).all (fun x => !x.1) && (backToKw pos (keywordEach [] X.env)).all (fun x => x.1.isSome)
      && decide (([a] : List Expr).length + ([] : List Keyword).length + (if ([] : List Keyword).isEmpty then 0 else 1) < 30)) = true := by rfl)
    (hline : (apos.endLine == pos.line) = true := by rfl) (hs : starEach [a] X.env = (false, eval a X.env) :: starEach [] X.env := by rfl) (hplain : (backTo pos (starEach [] X.env)).any (·.1) = false := by rfl) : ME X Z (.Call (.Attribute o "append" apos) [a] [] pos) (eApp ra rb) := by
  refine PE.imp (pe_bm PySem.F.plainAttrs_list PySem.F.slot_list_append PySem.F.type_list_append mt_append ho (pa_cons ha pa_nil hs) hbase hfew hline hs hplain) fun σ H Q ⟨m, L, h, ρ, S, A⟩ => ?_
  refine Rg.bind (RC := rD X.K) S A fun m1 h1 H1 x v S1 l1 p1 q1 A1 => ?_
  cases q1 with
  | ref hn =>
    rename_i n b
    simp only at A1
    split at A1
    · rename_i xs0 ex0
      obtain ⟨vs0, hv0, t0⟩ := S1.rh.lstH hn ex0
      refine ⟨.inl ⟨rfl, vs0, .of hv0⟩, ?_⟩
      refine Rg.bind (RC := rD X.K) S1 A1 fun m2 h2 H2 y u S2 l2 p2 q2 A2 => ?_
      split at A2
      · rename_i xs ex
        split at A2
        · rename_i hl
          have hn2 := l2 _ _ hn
          obtain ⟨vs, hv, t⟩ := S2.rh.lstH hn2 ex
          have nl : n ∉ L := fun z => by
            obtain ⟨u', q', i1, i2⟩ := S2.rh.at_ n _ b ex hn2
            have := (i1 z).1
            cases this
          obtain ⟨r', p'⟩ := S2.rh.put ex hn2 nl (o' := .lst (xs ++ [y])) (u' := .lst (vs ++ [u])) (RDs.snoc t q2)
          exact ⟨b, vs, u, rfl, rfl, hv, by rw [← t.length]; exact hl, (A2 : ∀ _, _) m2 _ .non (Le.refl _) p' r' .non⟩
        · exact False.elim A2
      · exact False.elim A2
    · exact False.elim A1
  | _ => exact False.elim A1
theorem me_join (ho : ME X Z o ra) (he : ME X Z a rb) (hs : starEach [a] X.env = [(false, eval a X.env)] := by rfl) (hbase : attributeBase o "join" X.env (eval o X.env) = eval o X.env := by rfl) (hline : (apos.endLine == pos.line) = true := by rfl) : ME X Z (.Call (.Attribute o "join" apos) [a] [] pos) (eJoin ra rb) := by
  refine PE.imp (pe_join ho he hs hbase hline) fun σ H Q ⟨m, L, h, ρ, S, A⟩ => ?_
  refine Rg.bind (RC := rD X.K) S A fun m1 h1 H1 x v S1 l1 p1 q1 A1 => ?_
  cases q1 with
  | str s =>
    refine ⟨⟨s, rfl⟩, ?_⟩
    refine Rg.bind (RC := rD X.K) S1 A1 fun m2 h2 H2 y u S2 l2 p2 q2 A2 => ?_
    split at A2
    · rename_i ss e
      rw [Option.bind_eq_some_iff] at e
      obtain ⟨ys, e1, e2⟩ := e
      obtain ⟨b, vs, rfl, hsq, t⟩ := S2.rh.seq q2 e1
      split at A2
      · rename_i hl
        have ev := strsD_ok t e2
        subst ev
        exact ⟨s, b, ss, rfl, rfl, hsq, hl, Aft.ok (RA := rD X.K) S2 A2 (.str _)⟩
      · exact False.elim A2
    · exact False.elim A2
  | _ => exact False.elim A1
end
/-! ### a def's body -/
/-- around a def's body -/
def zDef {K : PySem.W.Frag} (G : Gx) (E : XK) : Zx K := ⟨G, fun cls d _ H => E cls d H, fun _ _ => True, fun _ _ _ => trivial, none⟩
instance {K : PySem.W.Frag} {G : Gx} {E : XK} : NoJ (zDef (K := K) G E) := ⟨rfl⟩
theorem start_rs {K : PySem.W.Frag} {H : Hp} {m : List Addr} {ds : List D} {vs : List V} (r : RDs K H m ds vs) (N : List Str) : RS K H m (ds.map some ++ List.replicate (N.length - ds.length) none) (start N vs) := by
  refine ⟨by simp [L2.start, r.length], fun i d e => ?_⟩
  by_cases hi : i < ds.length
  · rw [List.getElem?_append_left (by simpa using hi), List.getElem?_map] at e
    cases e1 : ds[i]? with
    | none => rw [e1] at e; cases e
    | some d' =>
      rw [e1] at e
      cases e
      obtain ⟨v, h1, h2⟩ := r.get e1
      refine ⟨v, ?_, h2⟩
      unfold L2.start
      rw [List.getElem?_append_left (by rw [List.length_map, ← r.length]; exact hi), List.getElem?_map, h1]
      rfl
  · rw [List.getElem?_append_right (by simpa using Nat.le_of_not_lt hi), List.getElem?_replicate] at e
    split at e
    · cases e
    · cases e
theorem fn_ok {P : Program} {w : World} {K : PySem.W.Frag} {mg : Str → Option Value} {base : Heap} {G : Gx} {x qual : Str} {params : Arguments} {body : List Stmt} {scope : Scope} {dvs : List V} {kws : List (Str × V)} {f : Addr} {fd : FuncData} {N ps : List Str} {k : Nat} {b : SX}
    (F : FunD K x qual params body scope dvs kws f fd) (S : FnScope N ps scope)
    (hb : ∀ (cdv : Value) (A : Around) (outer : List Env) (s : Shared) (H : Hp) (E : XK), Room k (A.deeper (envOfC qual scope s.heap.objs.size f cdv)) →
      MB (cxOf (L2.CX P w) P w K mg base N qual scope f cdv A outer s H E) (zDef G E) body b) : FnOk P w K mg base (L2.CX P w) (k + 1) f fd ps (spF K G ps.length (bodyX N.length b)) := by
  refine F.ok S (fun vs H Q E h => h.1) fun cdv A outer s H vs Q E hr h => ?_
  obtain ⟨hl, m, L, h, ds, rh, lk, rds, Af⟩ := h
  refine ⟨_, hb cdv A outer s H E hr, m, L, h, _, ⟨rh, start_rs rds N, trivial, lk, fun p e => nomatch e⟩, ?_⟩
  unfold bodyX SR.fin at Af
  split at Af
  · rename_i ρ h' e
    rw [e]
    exact fun m' H' σ' l p r q => Af m' H' .non l p r .non
  · rename_i d h' e
    rw [e]
    exact fun m' H' v l p r q => Af m' H' v l p r q
  · rename_i c p ρ h' e
    rw [e]
    exact fun m' H' σ' cls d l p r q x => Af m' H' cls d l p r x
  · exact False.elim Af
theorem fn_bad {P : Program} {w : World} {K : PySem.W.Frag} {mg : Str → Option Value} {base : Heap} {G : Gx} {f : Addr} {fd : FuncData} {ps : List Str} : FnOk P w K mg base (L2.CX P w) 0 f fd ps (spF K G ps.length (fun _ _ _ => .bad)) :=
  ⟨fun vs H Q E h => h.1, fun A outer s H args us vs Q E _ _ _ _ h => by
    obtain ⟨_, _, _, _, _, _, _, _, Af⟩ := h
    exact False.elim Af⟩
theorem tk_def {P : Program} {w : World} {K : PySem.W.Frag} {mg : Str → Option Value} {base : Heap} {G : Gx} {N : List Str} {qual : Str} {scope : Scope} {f : Addr} {cdv : Value} {A : Around} {outer : List Env} {s : Shared} {H : Hp} {E : XK} :
    Takes (cxOf (L2.CX P w) P w K mg base N qual scope f cdv A outer s H E) (zDef (K := K) G E).W := takes_of rfl rfl rfl rfl
theorem po_def {P : Program} {w : World} {K : PySem.W.Frag} {mg : Str → Option Value} {base : Heap} {N : List Str} {qual : Str} {scope : Scope} {f : Addr} {cdv : Value} {A : Around} {outer : List Env} {s : Shared} {H : Hp} {E : XK} :
    PassesOwn (model P w) (A.deeper (envOfC qual scope s.heap.objs.size f cdv)) (envOfC qual scope s.heap.objs.size f cdv) (cxOf (L2.CX P w) P w K mg base N qual scope f cdv A outer s H E).xe := passes_of rfl
end Mi

set_option maxHeartbeats 1000000
/-! Mi, part J: errors: raise, try. -/
namespace Mi
open PySem PySem.Spec PyProof.Rows L2
/-! ### try: any clauses, with a name or without -/
def slD' (D : Ends) (i : Nat) : Ends := { nx := fun σ' H' => D.nx (σ'.set i none) H', rt := D.rt, bk := fun σ' H' => D.bk (σ'.set i none) H', ct := fun σ' H' => D.ct (σ'.set i none) H' }
/-- what a clause's suite is asked for -/
def wSu (sl : Option Nat) (ts : Addr → Value → Option Addr → TS) (a : Addr) (cls : Value) (d : Option Addr) (D : Ends) (σ : L2.St) (H : Hp) : Prop := match sl with
  | none => ts a cls d D σ H
  | some i => ts a cls d (slD' D i) (σ.set i (some (.ref a))) H
def wHd (K : PySem.W.Frag) (Wout : WX) (D : Ends) : List (Value × Option Nat × (Addr → Value → Option Addr → TS)) → WX
  | [] => Wout
  | (c, sl, ts) :: r => fun cls d σ H => ∃ b, PySem.W.exmOne K cls c = some b ∧ (b = true → ∀ a, H a = none → wSu sl ts a cls d D σ H) ∧ (b = false → wHd K Wout D r cls d σ H)
inductive HdOk (X : Cx) : List ExceptHandler → List (Value × Option Nat × (Addr → Value → Option Addr → TS)) → Prop
  | nil : HdOk X [] []
  | bare {x : Str} {c : Value} {ts : Addr → Value → Option Addr → TS} {b₀ : Stmt} {suite : List Stmt} {np pos' : Pos} {hds : List ExceptHandler} {l : List (Value × Option Nat × (Addr → Value → Option Addr → TS))} (hc : Names X x c)
      (hsu : ∀ (a : Addr) (oe : Obj) (cls : Value) (d : Option Addr) (pn : List (Addr × Obj)), Zc cls d oe → (∃ vs, oe.data = .fields vs) → PSs (X.suite a ((a, oe) :: pn)) (b₀ :: suite) (ts a cls d)) (r : HdOk X hds l) :
      HdOk X (.ExceptHandler (some (.Name x np)) none (b₀ :: suite) pos' :: hds) ((c, none, ts) :: l)
  | as {x n : Str} {c : Value} {i : Nat} {ts : Addr → Value → Option Addr → TS} {b₀ : Stmt} {suite : List Stmt} {np pos' : Pos} {hds : List ExceptHandler} {l : List (Value × Option Nat × (Addr → Value → Option Addr → TS))} (hc : Names X x c) (hi : X.N[i]? = some n) (hln : X.env.kindOf n = some .local)
      (hsu : ∀ (a : Addr) (oe : Obj) (cls : Value) (d : Option Addr) (pn : List (Addr × Obj)), Zc cls d oe → (∃ vs, oe.data = .fields vs) → PSs (X.suite a ((a, oe) :: pn)) (b₀ :: suite) (ts a cls d)) (r : HdOk X hds l) :
      HdOk X (.ExceptHandler (some (.Name x np)) (some n) (b₀ :: suite) pos' :: hds) ((c, some i, ts) :: l)
section
variable {X : Cx} {body : List Stmt} {h₀ : ExceptHandler} {hds : List ExceptHandler} {l : List (Value × Option Nat × (Addr → Value → Option Addr → TS))} {pos : Pos} {tb : WX → TS} {Wout : WX}
theorem ps_try_gen (hN : X.N.Nodup) (hs : X.stack = X.env :: X.outer) (hf : X.env.frame = some X.env.locals) (tk : Takes X Wout)
    (hb : ∀ (W : WX) (pn : List (Addr × Obj)) (xe : Value → Shared → Prop), Takes (X.tr pn xe) W → PassesOwn (model X.prog X.w) X.A X.env xe → PSs (X.tr pn xe) body (tb W))
    (hh : HdOk X (h₀ :: hds) l) : PS X (.Try body (h₀ :: hds) [] [] pos) (fun D σ H => tb (wHd X.K Wout D l) D σ H) := by
  refine ⟨fun pins s σ H D I h => ?_⟩
  have ok := I.ok
  have hfr : X.A.frames = some (X.env :: X.outer) := by rw [ok.frames, hs]
  refine wpAny_Try_except ?_
  refine wpAny_mono ((hb (wHd X.K Wout D l) (X.pn ++ pins) (fun e s₁ => wpAny (model X.prog X.w) X.A (noteFrame e X.env) (fun _ s₂ => wpAny (model X.prog X.w) X.A (setFlight e none) (fun _ s₃ =>
    wpAny (model X.prog X.w) X.A (handleBy e X.env (h₀ :: hds)) (SP X pins D) X.xe s₃) X.xe s₂) X.xe s₁) (fun u s' xx => ?_) PassesOwn.looking).run [] s σ H D (I.toTry _) h) (fun f s1 hsp => ?_) (fun e s1 he => he)
  · -- the catch
    obtain ⟨a, B, sI, pins', σ', H', cls, d, rfl, J', nb, up, sky, na, os, ag, w⟩ := xx
    have J : Inv X pins σ' H' sI := J'.ofTry ok
    have sky' : Sky B (X.env :: X.outer) a (Zc cls d) X.env.locals s'.heap := by rw [← hs]; exact sky
    show wpAny (model X.prog X.w) X.A (noteFrame (.ref a) X.env) _ _ _
    refine Sky.land Zc.steady hfr hf sky' fun h3 fl3 up3 => ?_
    have J3 : Inv X pins σ' H' { s' with heap := h3 } := J.landed nb fl3.1 (up.trans up3) os ag
    obtain ⟨oe3, vs3, he3, hz3, hd3⟩ := fl3.there
    have notFr : ∀ {h : Heap} {o : Obj} {vs : Array Value}, h.FunFrames B (X.env :: X.outer) → h.get? a = some o → o.data = .fields vs → a ∉ frs (X.env :: X.outer) := fun {h o vs} ff e dd hm => by
      obtain ⟨_, o', e', hnf⟩ := ff.mem hm
      rw [e] at e'; cases e'
      exact hnf _ dd
    have nfr := notFr fl3.2.2.1 he3 hd3
    have nL : a ≠ X.env.locals := fun z => nfr (List.mem_filterMap.mpr ⟨X.env, List.mem_cons_self, by rw [hf, z]⟩)
    have nF : a ∉ X.fs := fun hm => by
      obtain ⟨e, he, q⟩ := List.mem_filterMap.mp hm
      exact nfr (List.mem_filterMap.mpr ⟨e, List.mem_cons_of_mem _ he, q⟩)
    have S3 := J3.suite he3 hd3 na nL nF
    have tst : ∀ {x : Str} {c : Value} {np : Pos}, Names X x c → ∀ {Q : Value → Shared → Prop} {E : Value → Shared → Prop}, Q c { s' with heap := h3 } → wpAny (model X.prog X.w) (X.A.mark (some (.ref a))) (eval (.Name x np) X.env) Q E { s' with heap := h3 } := fun {x c np} hc {Q E} q => by
      obtain ⟨hg, hdbg, hm | ⟨hm, hv, hnn⟩⟩ := hc
      · exact ld_glob (X := X.suite a ((a, oe3) :: (X.pn ++ pins))) S3 hg hm q hdbg
      · exact ld_blt (X := X.suite a ((a, oe3) :: (X.pn ++ pins))) S3 hg hm hv q hnn hdbg
    have go : ∀ {hds' : List ExceptHandler} {l' : List (Value × Option Nat × (Addr → Value → Option Addr → TS))}, HdOk X hds' l' → wHd X.K Wout D l' cls d σ' H' →
        wpAny (model X.prog X.w) X.A (handleBy (.ref a) X.env hds') (SP X pins D) X.xe { s' with heap := h3 } := by
      intro hds' l' hk
      induction hk with
      | nil =>
        intro w
        refine wpAny_handleBy_nil ?_
        obtain ⟨k1, k2, k3, oe, vs, T, oT, ts', he, hz, hd, h1, hr⟩ := id fl3
        unfold PySem.passOn
        refine wpAny_bind (wpAny_field he hd h1 ?_)
        rw [if_neg (show ¬ ((Value.ref T == Value.none) = true) from by simp)]
        have fin : wpAny (model X.prog X.w) X.A (setFlight (.ref a) X.env.frame) (fun _ s4 => wpAny (model X.prog X.w) X.A (throw (.ref a) : Sem Flow) (SP X pins D) X.xe s4) X.xe { s' with heap := h3 } := by
          rw [hf]
          refine HandSPX.setFlight_upZ fl3 fun h4 hh4 up4 => wpAny_throw (tk _ _ ?_)
          exact ⟨a, B, sI, pins, σ', H', cls, d, rfl, J, nb, (up.trans up3).trans up4, .inr (.inr (by rw [hs]; exact hh4)), na, os, ag, w⟩
        first
          | exact wpAny_bind (wpAny_pure (wpAny_bind fin))
          | exact wpAny_bind fin
      | @bare x c ts b₀ suite np pos' hds2 l2 hc hsu r ih =>
        intro w
        obtain ⟨b, hb1, hyes, hno⟩ := w
        refine wpAny_handleBy_cons (codeAny_handlers_test ?_) (by intro q; cases q)
        have LT : PySem.W.Looks (model X.prog X.w) h3 (typeOf (.ref a)) cls := fun A Q E s k q => wpAny_typeOf_ref (k _ _ he3) (by rw [hz3.1]; exact q)
        have LM := PySem.W.exm_one (M := model X.prog X.w) (J3.kIn) LT hb1
        refine tst hc (LM.here ?_)
        cases b with
        | true =>
          refine codeAny_handlers_suite ?_
          refine HandSPX.lands_againZ fl3 fun h4 fl4 up4 => ?_
          have J4 : Inv X pins σ' H' { s' with heap := h4 } := J.landed nb fl4.1 ((up.trans up3).trans up4) os ag
          obtain ⟨oe4, vs4, he4, hz4, hd4⟩ := fl4.there
          have S4 := J4.suite he4 hd4 na nL nF
          refine wpAny_mono ((hsu a oe4 cls d (X.pn ++ pins) hz4 ⟨_, hd4⟩).run [] _ _ H' _ S4 (hyes rfl a na)) (fun f s6 hsp => ?_) (fun _ _ z => False.elim z)
          cases f with
          | next =>
            obtain ⟨σ6, H6, S6, q6⟩ := hsp
            exact ⟨_, _, S6.unsuite ok, q6⟩
          | brk =>
            obtain ⟨σ6, H6, S6, q6⟩ := hsp
            exact ⟨_, _, S6.unsuite ok, q6⟩
          | cont =>
            obtain ⟨σ6, H6, S6, q6⟩ := hsp
            exact ⟨_, _, S6.unsuite ok, q6⟩
          | ret u =>
            obtain ⟨v6, σ6, H6, S6, r6, q6⟩ := hsp
            exact ⟨_, _, _, S6.unsuite ok, r6, q6⟩
        | false =>
          show wpAny _ X.A (handleBy (.ref a) X.env hds2) _ _ _
          exact ih (hno rfl)
      | @as x n c i ts b₀ suite np pos' hds2 l2 hc hi hln hsu r ih =>
        intro w
        obtain ⟨b, hb1, hyes, hno⟩ := w
        refine wpAny_handleBy_cons (codeAny_handlers_test ?_) (by intro q; cases q)
        have LT : PySem.W.Looks (model X.prog X.w) h3 (typeOf (.ref a)) cls := fun A Q E s k q => wpAny_typeOf_ref (k _ _ he3) (by rw [hz3.1]; exact q)
        have LM := PySem.W.exm_one (M := model X.prog X.w) (J3.kIn) LT hb1
        refine tst hc (LM.here ?_)
        cases b with
        | true =>
          refine codeAny_handlers_suite_as ?_
          refine HandSPX.lands_againZ fl3 fun h4 fl4 up4 => ?_
          have J4 : Inv X pins σ' H' { s' with heap := h4 } := J.landed nb fl4.1 ((up.trans up3).trans up4) os ag
          obtain ⟨oe4, vs4, he4, hz4, hd4⟩ := fl4.there
          have S4 := J4.suite he4 hd4 na nL nF
          refine store_ok (X := X.suite a ((a, oe4) :: (X.pn ++ pins))) (v := .ref a) S4 hN hi (.inl hln) rfl (fun s5 S5 => ?_) (.inr hln)
          refine wpAny_mono ((hsu a oe4 cls d (X.pn ++ pins) hz4 ⟨_, hd4⟩).run [] s5 _ H' _ S5 (hyes rfl a na)) (fun f s6 hsp => ?_) (fun _ _ z => False.elim z)
          have end_ : ∀ {σ6 : L2.St} {H6 : Hp} {Q : Shared → Prop}, Inv (X.suite a ((a, oe4) :: (X.pn ++ pins))) [] σ6 H6 s6 → (∀ s7, Inv X pins (σ6.set i none) H6 s7 → Q s7) →
              wpAny (model X.prog X.w) X.A (do bindName X.env n .none; unbindBehindTheSuite X.env n pos') (fun _ s7 => Q s7) X.xe s6 := fun {σ6 H6 Q} S6 hq => gone_ok (S6.unsuite ok) hN hi hln hq
          cases f with
          | next =>
            obtain ⟨σ6, H6, S6, q6⟩ := hsp
            exact end_ S6 fun s7 J7 => ⟨_, _, J7, q6⟩
          | brk =>
            obtain ⟨σ6, H6, S6, q6⟩ := hsp
            exact end_ S6 fun s7 J7 => ⟨_, _, J7, q6⟩
          | cont =>
            obtain ⟨σ6, H6, S6, q6⟩ := hsp
            exact end_ S6 fun s7 J7 => ⟨_, _, J7, q6⟩
          | ret u =>
            obtain ⟨v6, σ6, H6, S6, r6, q6⟩ := hsp
            exact end_ S6 fun s7 J7 => ⟨_, _, _, J7, r6, q6⟩
        | false =>
          show wpAny _ X.A (handleBy (.ref a) X.env hds2) _ _ _
          exact ih (hno rfl)
    exact go hh w
  · cases f with
    | next =>
      obtain ⟨σ', H', J', q⟩ := hsp
      exact wpAny_execs_nil ⟨σ', H', J'.ofTry ok, q⟩
    | brk =>
      obtain ⟨σ', H', J', q⟩ := hsp
      exact ⟨σ', H', J'.ofTry ok, q⟩
    | cont =>
      obtain ⟨σ', H', J', q⟩ := hsp
      exact ⟨σ', H', J'.ofTry ok, q⟩
    | ret u =>
      obtain ⟨v, σ', H', J', r, q⟩ := hsp
      exact ⟨v, σ', H', J'.ofTry ok, r, q⟩
end
/-! ### raise of an own class with a field -/
/-- what the text says of a class whose __init__ stores its one argument -/
structure XcD (K : PySem.W.Frag) (C : Addr) (f : Str) (fI : Addr) : Prop where
  o : OexC K C
  no : PySem.W.findIn K (.ref C) f = some none
  iC : PySem.W.findIn K (.ref C) "__init__" = some (some (.ref fI))
  tI : PySem.W.typeIn K (.ref fI) = some (.type "function")
/-- its __init__'s promise -/
def spXI (C : Addr) (f : Str) : Sp := fun vs H Q _ => ∃ (a : Addr) (v : V), vs = [.ref a, v] ∧ H a = some (exo a C none) ∧ ∀ dx, H dx = none → dx ≠ a → Q .non (upd (upd H dx (exd dx [(f, v)])) a (exo a C (some dx)))
theorem init_ok {P : Program} {w : World} {K : PySem.W.Frag} {mg : Str → Option Value} {base : Heap} {C fI : Addr} {f pn x qual : Str} {params : Arguments} {scope : Scope} {dvs : List V} {kws : List (Str × V)} {fd : FuncData} {p1 p2 p3 p4 : Pos} {k : Nat}
    (T : XcD K C f fI) (F : FunD K x qual params [.Assign [.Attribute (.Name "self" p1) f p2] (.Name pn p3) p4] scope dvs kws fI fd) (S : FnScope ["self", pn] ["self", pn] scope) (hv : Vis scope "self") (hv2 : Vis scope pn)
    (hd : (pn == ("__debug__" : Str)) = false := by decide) (hcd : (pn == ("__classdict__" : Str)) = false := by decide)
    (hs : ∀ env, swapsWith (.Name pn p3) (some (.Attribute (.Name "self" p1) f p2)) p4.line env = pure false := by intro _; rfl) : FnOk P w K mg base CX0 (k + 1) fI fd ["self", pn] (spXI C f) := by
  refine F.ok S (fun vs H Q E h => ?_) fun cdv A outer s H vs Q E hr h => ?_
  · obtain ⟨a, v, rfl, _⟩ := h
    rfl
  · obtain ⟨a, v, rfl, ha, q⟩ := h
    refine ⟨_, pss_one (ps_ost (pe_var (i := 0) rfl hv (by decide) (by decide)) (pe_var (i := 1) rfl hv2 hd hcd) (hs _)), ?_⟩
    exact ⟨v, rfl, _, rfl, a, C, rfl, T.o, T.no, .inl ⟨ha, fun dx hdx hne => q dx hdx hne⟩⟩
section
variable {X : Cx} {Z : Zx X.K} {e : Expr} {ra : EX} {p pos rpos : Pos} {x : Str} {c : Nat} {C fI : Addr} {fd : FuncData} {ps : List Str}
theorem raise_heap {H1 : Hp} {a dx : Addr} {f : Str} {v : V} (ha : H1 a = none) (hd : H1 dx = none) (hne : dx ≠ a) : upd (del (upd (upd (upd H1 a (exo a C none)) dx (exd dx [(f, v)])) a (exo a C (some dx))) a) dx (.xd [(f, v)]) = upd H1 dx (.xd [(f, v)]) := by
  funext b
  by_cases h1 : b = dx
  · subst h1; rw [upd_same, upd_same]
  · rw [upd_ne h1, upd_ne h1]
    by_cases h2 : b = a
    · subst h2; rw [del_same, ha]
    · rw [del_ne h2, upd_ne h2, upd_ne h1, upd_ne h2]
theorem ms_raise (hc : X.calm = true) (hC : Z.G.ca c = C) (T : XcD X.K C (Z.G.xf c) fI) (k : Nat) (F1 : FnOk X.prog X.w X.K X.mg X.base CX0 (k + 1) fI fd ps (spXI C (Z.G.xf c))) (hr : Room (k + 2) X.A) (hb : Binds X.K fd ps []) (tk : Takes X Z.W) (hg : Gl X x) (hm : X.mg x = some (.ref C)) (ha : ME X Z e ra)
    (hdb : (x == ("__debug__" : Str)) = false := by decide) (he : starEach [e] X.env = (false, eval e X.env) :: starEach [] X.env := by rfl) (hpl : (backTo pos (starEach [] X.env)).any (·.1) = false := by rfl) : MS X Z (.Raise (some (.Call (.Name x p) [e] [] pos)) none rpos) (sRaise c ra) := by
  refine PS.imp (ps_raise hc tk (pmk_oex T.o T.iC T.tI F1 hr hb .nil pass0 hg hm (pa_cons ha pa_nil he) hdb he hpl)) fun D σ H ⟨m, L, h, ρ, S, A⟩ => ?_
  refine Rg.toS S A fun m1 h1 H1 d v S1 l1 p1 q1 A1 => ?_
  refine ⟨by show 1 ≤ 1000; decide, fun a hna => ⟨a, v, rfl, upd_same, fun dx hdx hne => ⟨rfl, dx, [(Z.G.xf c, v)], upd_same, ?_, ?_, ?_⟩⟩⟩
  · rw [upd_ne hne]; exact upd_same
  · rw [upd_ne hne] at hdx; exact hdx
  · have hdx1 : H1 dx = none := by rw [upd_ne hne] at hdx; exact hdx
    rw [raise_heap hna hdx1 hne]
    have pn : Pers X.K H1 (upd H1 dx (.xd [(Z.G.xf c, v)])) := pers_new hdx1
    exact (A1 : ∀ _, _) m1 _ σ (.ref C) (some dx) (Le.refl _) pn (S1.rh.more hdx1) (S1.rs.mono pn (Le.refl _)) ⟨by rw [hC], dx, v, rfl, upd_same, q1.mono pn (Le.refl _)⟩
/-- X() of an own class without __init__ -/
theorem pmk_own0 {bmB : List Value} {B newId initId : String} (F : ExcBaseFacts B newId initId bmB) (q : PySem.W.excIn X.K C bmB newId = true) (gC : X.mg x = some (.ref C)) (kC : PySem.W.keepIn X.K (.ref C) = true) (r : Raises X (.ref C)) (hg : Gl X x)
    (hdb : (x == ("__debug__" : Str)) = false := by decide) : PMk X (.Call (.Name x p) [] [] pos) (fun _ H Q => Q (.ref C) none H) := by
  intro pins s σ H Q I h
  refine wpAny_Call_Name_kw (ld_glob I hg gC ?_ hdb)
  refine PySem.W.callWith_K0 I.kIn kC ?_
  obtain ⟨bm, N, nm, qn, bs, hdct, sn, sub, ab, col, dd, k0, k1, k2, k3, k5, mN, hC, hN, hni, T⟩ := exc_obj I.kIn q
  refine wpAny_call_exc_subT F T hC hN hni (fun h' e hm => ?_) (by show 0 ≤ sizeLine; exact Nat.zero_le _)
  exact mk_of I hm r h (I.hok.gone hm.new)
theorem ms_raise0 {bmB : List Value} {B newId initId : String} (hc : X.calm = true) (hC : Z.G.ca c = C) (F : ExcBaseFacts B newId initId bmB) (q : PySem.W.excIn X.K C bmB newId = true) (gC : X.mg x = some (.ref C)) (kC : PySem.W.keepIn X.K (.ref C) = true) (r : Raises X (.ref C)) (hg : Gl X x) (tk : Takes X Z.W)
    (hdb : (x == ("__debug__" : Str)) = false := by decide) : MS X Z (.Raise (some (.Call (.Name x p) [] [] pos)) none rpos) (sRaise0 c) := by
  refine PS.imp (ps_raise hc tk (pmk_own0 F q gC kC r hg hdb)) fun D σ H ⟨m, L, h, ρ, S, A⟩ => ?_
  exact (A : ∀ _, _) m H σ (.ref C) none (Le.refl _) (Pers.refl _) S.rh S.rs ⟨by rw [hC], rfl⟩
end
end Mi

/-! Mi, part K: except suites. -/
namespace Mi
open PySem PySem.Spec PyProof.Rows L2
/-- around a suite: the error that is held -/
def zSu {K : PySem.W.Frag} (Z : Zx K) (c : Nat) (p : Option D) (cls : Value) (d : Option Addr) (j : Option (Nat × Addr)) : Zx K where
  G := Z.G
  W := fun _ _ _ _ => False
  I := fun m H => Z.I m H ∧ RX K Z.G c p m H cls d
  keep := fun {m m' H H'} h l pr => by
    refine ⟨Z.keep h.1 l pr, h.2.1, ?_⟩
    have h2 := h.2.2
    cases p with
    | none => exact h2
    | some q =>
      obtain ⟨dx, v, h3, h4, h5⟩ := h2
      exact ⟨dx, v, h3, pr.xd _ _ h4, h5.mono pr l⟩
  J := j
/-- a suite's judgement -/
def MSu (X : Cx) (Z : Zx X.K) (sl : Option Nat) (body : List Stmt) (suite : Nat → Option D → SX) : Prop :=
  ∀ (a : Addr) (oe : Obj) (cls : Value) (d : Option Addr) (pn : List (Addr × Obj)), Zc cls d oe → (∃ vs, oe.data = .fields vs) → ∀ c p, PSs (X.suite a ((a, oe) :: pn)) body (Rs X.K (zSu Z c p cls d (sl.map fun i => (i, a))) (suite c p))
/-- what a suite is asked for, in the layer's words -/
def tSu (K : PySem.W.Frag) (Z : Zx K) (x : Hd) : Addr → Value → Option Addr → TS := fun a cls d D σ H => ∃ c p, Rs K (zSu Z c p cls d (x.slot.map fun i => (i, a))) (x.suite c p) D σ H
/-- the clauses -/
inductive HsOk (X : Cx) (Z : Zx X.K) (n : Nat) : List ExceptHandler → List Hd → List (Value × Option Nat × (Addr → Value → Option Addr → TS)) → Prop
  | nil : HsOk X Z n [] [] []
  | cons {h : ExceptHandler} {hs : List ExceptHandler} {x : Hd} {xs : List Hd} {cv : Value} {l : List (Value × Option Nat × (Addr → Value → Option Addr → TS))} (he : ∀ c, c < n → PySem.W.exmOne X.K (.ref (Z.G.ca c)) cv = some (x.is c)) (t : HsOk X Z n hs xs l) : HsOk X Z n (h :: hs) (x :: xs) ((cv, x.slot, tSu X.K Z x) :: l)
theorem aft_wipe {K : PySem.W.Frag} {G : Gx} {L : List Nat} {m : List Addr} {H : Hp} {r : SR} {D : Ends} {W W' : WX} {i : Nat} (A : AftS K G L m H (r.wipe i) D W) : AftS K G L m H r (slD' D i) W' := by
  cases r with
  | nx ρ h => exact fun m' H' σ' l p r q => A m' H' _ l p r (q.del i none)
  | ret d h => exact A
  | brk ρ h => exact fun m' H' σ' l p r q => A m' H' _ l p r (q.del i none)
  | cnt ρ h => exact fun m' H' σ' l p r q => A m' H' _ l p r (q.del i none)
  | exc c p ρ h => exact False.elim A
  | bad => exact False.elim A
theorem catch_ok {X : Cx} {Z : Zx X.K} [NoJ Z] {n : Nat} {hs : List ExceptHandler} {xs : List Hd} {l : List (Value × Option Nat × (Addr → Value → Option Addr → TS))} (hk : HsOk X Z n hs xs l) {L : List Nat} {m : List Addr} {h : Hh} {ρ : Rho} {σ : L2.St} {H : Hp} {D : Ends} {c : Nat} {p : Option Mi.D} {cls : Value} {d : Option Addr}
    (hc : c < n) (S : Stt X.K Z L m h ρ σ H) (x : RX X.K Z.G c p m H cls d) (A : AftS X.K Z.G L m H (catch_ xs c p ρ L h) D Z.W) : wHd X.K Z.W D l cls d σ H := by
  induction hk with
  | nil => exact (A : ∀ _, _) m H σ cls d (Le.refl _) (Pers.refl _) S.rh S.rs x
  | @cons h0 hs x0 xs cv l he t ih =>
    refine ⟨x0.is c, by rw [x.1]; exact he c hc, fun hy a ha => ?_, fun hn => ?_⟩
    · have A' : AftS X.K Z.G L m H (x0.run c p ρ L h) D Z.W := by
        have e : catch_ (x0 :: xs) c p = x0.run c p := by simp [catch_, hy]
        rw [e] at A
        exact A
      unfold Hd.run at A'
      unfold wSu
      obtain ⟨is0, slot0, suite0⟩ := x0
      cases slot0 with
      | none => exact ⟨c, p, m, L, h, ρ, ⟨S.rh, S.rs, ⟨S.iv, x⟩, S.lk, fun q e => nomatch e⟩, aft_noExc A'⟩
      | some i =>
        simp only at A'
        split at A'
        · rename_i hl
          refine ⟨c, p, m, L, h, ρ.set i none, ⟨S.rh, S.rs.del i (some (.ref a)), ⟨S.iv, x⟩, S.lk, fun q e => ?_⟩, aft_wipe A'⟩
          cases e
          exact List.getElem?_set_self (by rw [S.rs.1]; exact hl)
        · exact False.elim A'
    · have e : catch_ (x0 :: xs) c p = catch_ xs c p := by simp [catch_, hn]
      rw [e] at A
      exact ih A
section
variable {X : Cx} {Z : Zx X.K} [NoJ Z] {body : List Stmt} {h₀ : ExceptHandler} {hds : List ExceptHandler} {l : List (Value × Option Nat × (Addr → Value → Option Addr → TS))} {pos : Pos} {b : SX} {xs : List Hd} {n : Nat}
abbrev Zx.wish {K : PySem.W.Frag} (Z : Zx K) (W : WX) : Zx K := { Z with W := W }
instance {K : PySem.W.Frag} (Z : Zx K) (W : WX) [i : NoJ Z] : NoJ (Z.wish W) := ⟨i.h⟩
theorem ms_try (hN : X.N.Nodup) (hs : X.stack = X.env :: X.outer) (hf : X.env.frame = some X.env.locals) (tk : Takes X Z.W)
    (hb : ∀ (W : WX) (pn : List (Addr × Obj)) (xe : Value → Shared → Prop), Takes (X.tr pn xe) W → PassesOwn (model X.prog X.w) X.A X.env xe → MB (X.tr pn xe) (Z.wish W) body b)
    (hk : HsOk X Z n (h₀ :: hds) xs l) (hh : HdOk X (h₀ :: hds) l) : MS X Z (.Try body (h₀ :: hds) [] [] pos) (sTry n b xs) := by
  refine PS.imp (ps_try_gen (tb := fun W => Rs X.K (Z.wish W) b) hN hs hf tk hb hh) fun D σ H ⟨m, L, h, ρ, S, A⟩ => ?_
  refine ⟨m, L, h, ρ, ⟨S.rh, S.rs, S.iv, S.lk, S.jv⟩, ?_⟩
  unfold sTry at A
  cases e : b ρ L h with
  | exc c p ρ1 h1 =>
    rw [e] at A
    simp only at A
    split at A
    · rename_i hc
      exact fun m' H' σ' cls d l' p' r' q' x' => catch_ok hk hc ((S.on l' p' r').set q') x' (AftS.mono A l' p')
    · exact False.elim A
  | _ => rw [e] at A; exact A
end
/-! ### the statements and expressions of a suite -/
section
variable {X : Cx} {Z : Zx X.K} {e o : Expr} {sts : List Stmt} {ra : EX} {s : SX} {pos pos' np p p2 : Pos} {i j : Nat} {a : Addr}
theorem msu_nil : PSs X [] (Rs X.K Z sNil) := mb_nil
theorem msu_ret (he : ME X Z e ra) : PSs X [.Return (some e) pos] (Rs X.K Z (sRet ra)) := pss_one (ms_ret he)
theorem msu_expr (he : ME X Z e ra) (hs : swapsWith e none pos.line X.env = pure false := by rfl) : PSs X [.Expr e pos] (Rs X.K Z (sDrop ra)) := pss_one (ms_expr he hs)
/-- a store, the error's slot left as it is -/
def sSt (j : Nat) (ra : EX) (s : SX) : SX := fun ρ L h => (ra ρ L h).toS ρ fun d h1 => s (ρ.set j (some d)) L h1
theorem msu_set {x : Str} (hj : ∀ q, Z.J = some q → q.1 ≠ j) (hN : X.N.Nodup) (hi : X.N[j]? = some x) (hx : Loc X.env.scope x) (he : ME X Z e ra) (h2 : PSs X sts (Rs X.K Z s)) (hs : swapsWith e (some (.Name x pos')) pos.line X.env = pure false := by rfl)
    (hf : X.fn x = true ∨ X.env.scope.names.lookup x = some .local := by first | exact .inl rfl | exact .inr rfl | assumption) : PSs X (.Assign [.Name x pos'] e pos :: sts) (Rs X.K Z (sSt j ra s)) := by
  refine PSs.imp (pss_cons (ps_set hN hi hx he hs hf) h2) fun D σ H ⟨m, L, h, ρ, S, A⟩ => ?_
  refine Rg.toS S A fun m1 h1 H1 x v S1 l1 p1 q1 A1 => ?_
  refine ⟨m1, L, h1, _, ⟨S1.rh, S1.rs.set j q1, S1.iv, S1.lk, fun q e => ?_⟩, A1⟩
  rw [List.getElem?_set_ne (Ne.symm (hj q e))]
  exact S1.jv q e
end
section
variable {X : Cx} {Z : Zx X.K} {a : Addr} {oe : Obj} {cls : Value} {d : Option Addr} {pn : List (Addr × Obj)} {c : Nat} {p : Option D} {i : Nat} {n f : Str} {pos np fp cp : Pos} {cs : List Nat}
theorem lookup_one {f : Str} {v : V} : List.lookup f [(f, v)] = some v := by simp [List.lookup]
theorem pe_false {X : Cx} {e : Expr} : PE X e (fun _ _ _ => False) := ⟨fun pins s σ H Q I h => h.elim⟩
/-- wrong.f -/
theorem me_xf (hx : ∀ c ∈ cs, XfC X.K (Z.G.ca c) ∧ PySem.W.findIn X.K (.ref (Z.G.ca c)) f = some none ∧ Z.G.xf c = f) (hz : Zc cls d oe) (hf : ∃ vs, oe.data = .fields vs) (hN : X.N[i]? = some n) (hv : Vis X.env.scope n) (hd : (n == ("__debug__" : Str)) = false := by decide)
    (hcd : (n == ("__classdict__" : Str)) = false := by decide) (hb : attributeBase (.Name n np) f X.env (eval (.Name n np) X.env) = eval (.Name n np) X.env := by rfl) :
    ME (X.suite a ((a, oe) :: pn)) (zSu Z c p cls d (some (i, a))) (.Attribute (.Name n np) f pos) (eXf cs c p) := by
  by_cases hc : c ∈ cs
  · obtain ⟨T, hno, hxf⟩ := hx c hc
    refine PE.imp (pe_xf T hno hz hf (pe_var (X := X.suite a ((a, oe) :: pn)) (i := i) (pos := np) hN hv hd hcd) hb) fun σ H Q ⟨m, L, h, ρ, S, A⟩ => ?_
    simp only [eXf, if_pos hc] at A
    have hs := S.jv (i, a) rfl
    refine ⟨.ref a, hs, rfl, S.iv.2.1, ?_⟩
    have h2 := S.iv.2.2
    cases p with
    | none => exact False.elim A
    | some q =>
      obtain ⟨dx, v, h3, h4, h5⟩ := h2
      refine ⟨dx, _, v, h3, h4, ?_, Aft.ok (RA := rD X.K) S A h5⟩
      rw [hxf]
      exact lookup_one
  · refine PE.imp pe_false fun σ H Q ⟨m, L, h, ρ, S, A⟩ => ?_
    simp only [eXf, if_neg hc] at A
    exact A
end
end Mi

set_option maxHeartbeats 1000000
/-! Mi, part L: isinstance of a caught error. -/
namespace Mi
open PySem PySem.Spec PyProof.Rows L2
/-- isinstance(e, c), e the error that the suite holds, whatever it holds -/
def rIsE2 (K : PySem.W.Frag) (a : Addr) (cls : Value) (d : Option Addr) : List V → Hp → VK → Prop := fun xs H Q => ∃ (c : V) (cv : Value) (b : Bool) (C : Addr), xs = [.ref a, c] ∧ cls = .ref C ∧ ExcC K C ∧ (∀ u, RelV c u → u = cv) ∧ PySem.W.kitOne K (.ref C) cv = some b ∧ (∀ dd, d = some dd → ∃ fs, H dd = some (.xd fs)) ∧ Q (.bl b) H
theorem call_isE2 {X : Cx} {a : Addr} {oe : Obj} {cls : Value} {d : Option Addr} {pn : List (Addr × Obj)} (hz : Zc cls d oe) (hf : ∃ vs, oe.data = .fields vs) : CallR (X.suite a ((a, oe) :: pn)) (.builtin "isinstance") (rIsE2 X.K a cls d) := by
  intro pins s σ H xs us Q I r h
  obtain ⟨c, cv, b, D, rfl, ec, C, hcv, e, hd, q⟩ := h
  subst ec
  cases r with
  | cons rx rr =>
    cases rr with
    | cons rt rr =>
      cases rr
      cases rx
      have ec := hcv _ rt
      subst ec
      obtain ⟨hget, _⟩ := I.pin (a, oe) (List.mem_append.mpr (.inl List.mem_cons_self))
      obtain ⟨vs, hv⟩ := hf
      have J : ∃ od, PySem.W.InstAt s.heap a oe D od := by
        cases d with
        | none => exact ⟨none, hget, hz.1, by unfold PySem.W.notCls; rw [hv] <;> rfl, by rw [hz.2]; trivial⟩
        | some dd =>
          obtain ⟨fs, hfs⟩ := hd dd rfl
          have hx : ObjOk X.prog X.w H s.heap dd (.xd fs) := I.hok dd _ hfs
          obtain ⟨mA, hns, hr⟩ := hx
          obtain ⟨od, ho, hl⟩ := lookIn_ns hns
          exact ⟨some od, hget, hz.1, by unfold PySem.W.notCls; rw [hv] <;> rfl, by rw [hz.2]; exact ho⟩
      obtain ⟨od, J⟩ := J
      have hcl : (PySem.W.clsIn X.K D).isSome = true := by
        obtain ⟨cd, hc, _⟩ := PySem.W.any_some C.hd
        rw [hc]; rfl
      exact PySem.W.kia_one (PySem.W.kitx_exc (od := od) hcl C.hg C.hk C.hs C.ha C.hn C.ht C.hm) I.kIn J e (fun z => nomatch z) fun tk => ⟨.bl b, H, I.kept (t' := tk) fun _ _ z => z, rfl, q⟩
section
variable {X : Cx} {Z : Zx X.K} {a : Addr} {oe : Obj} {cls : Value} {d : Option Addr} {pn : List (Addr × Obj)} {c : Nat} {p : Option D} {i : Nat} {n : Str} {pos np tp ip : Pos} {cs : List Nat} {is : Nat → Bool} {cv : Value} {c2 : V} {y : Str}
theorem me_xi0 (hx : ∀ c ∈ cs, ExcC X.K (Z.G.ca c) ∧ PySem.W.kitOne X.K (.ref (Z.G.ca c)) cv = some (is c)) (hcv : ∀ u, RelV c2 u → u = cv) (h2 : PE (X.suite a ((a, oe) :: pn)) (.Name y tp) (tC c2)) (hg : Gl X "isinstance") (hm : X.mg "isinstance" = none) (hz : Zc cls d oe) (hf : ∃ vs, oe.data = .fields vs) (hN : X.N[i]? = some n) (hv : Vis X.env.scope n) (hd : (n == ("__debug__" : Str)) = false := by decide)
    (hcd : (n == ("__classdict__" : Str)) = false := by decide) (hvb : bootBuiltins "isinstance" = some (.builtin "isinstance") := by decide +kernel)
    (he : starEach [.Name n np, .Name y tp] X.env = (false, eval (.Name n np) X.env) :: starEach [.Name y tp] X.env := by rfl) (hpl : (backTo pos (starEach [.Name y tp] X.env)).any (·.1) = false := by rfl) :
    ME (X.suite a ((a, oe) :: pn)) (zSu Z c p cls d (some (i, a))) (.Call (.Name "isinstance" ip) [.Name n np, .Name y tp] [] pos) (eXi cs is c) := by
  by_cases hc : c ∈ cs
  · obtain ⟨C, hk⟩ := hx c hc
    refine PE.imp (pe_callB (call_isE2 (X := X) (pn := pn) hz hf) hg hm hvb (pa_cons (pe_var (X := X.suite a ((a, oe) :: pn)) (i := i) (pos := np) hN hv hd hcd) (pa_cons h2 pa_nil) he) (by decide) (by decide) he hpl) fun σ H Q ⟨m, L, h, ρ, S, A⟩ => ?_
    simp only [eXi, if_pos hc] at A
    have hs := S.jv (i, a) rfl
    refine ⟨.ref a, hs, c2, cv, is c, _, rfl, S.iv.2.1, C, hcv, hk, ?_, Aft.ok (RA := rD X.K) S A (.bl _)⟩
    intro dd e
    subst e
    have h2 := S.iv.2.2
    cases p with
    | none => cases h2
    | some q =>
      obtain ⟨dx, v, h3, h4, h5⟩ := h2
      cases h3
      exact ⟨_, h4⟩
  · refine PE.imp pe_false fun σ H Q ⟨m, L, h, ρ, S, A⟩ => ?_
    simp only [eXi, if_neg hc] at A
    exact A
/-- an own class -/
theorem me_xi {C : Addr} (hx : ∀ c ∈ cs, ExcC X.K (Z.G.ca c) ∧ PySem.W.kitOne X.K (.ref (Z.G.ca c)) (.ref C) = some (is c)) (hgy : Gl X y) (hmy : X.mg y = some (.ref C)) (hg : Gl X "isinstance") (hm : X.mg "isinstance" = none) (hz : Zc cls d oe) (hf : ∃ vs, oe.data = .fields vs) (hN : X.N[i]? = some n) (hv : Vis X.env.scope n) (hd : (n == ("__debug__" : Str)) = false := by decide)
    (hcd : (n == ("__classdict__" : Str)) = false := by decide) (hdy : (y == ("__debug__" : Str)) = false := by decide)
    (he : starEach [.Name n np, .Name y tp] X.env = (false, eval (.Name n np) X.env) :: starEach [.Name y tp] X.env := by rfl) (hpl : (backTo pos (starEach [.Name y tp] X.env)).any (·.1) = false := by rfl) :
    ME (X.suite a ((a, oe) :: pn)) (zSu Z c p cls d (some (i, a))) (.Call (.Name "isinstance" ip) [.Name n np, .Name y tp] [] pos) (eXi cs is c) :=
  me_xi0 (cv := .ref C) (c2 := .ref C) hx (fun u r => r) (pe_glob (X := X.suite a ((a, oe) :: pn)) hgy hmy rfl hdy) hg hm hz hf hN hv hd hcd (he := he) (hpl := hpl)
/-- a built-in class -/
theorem me_xiT {T : String} (hx : ∀ c ∈ cs, ExcC X.K (Z.G.ca c) ∧ PySem.W.kitOne X.K (.ref (Z.G.ca c)) (.type T) = some (is c)) (hgy : Gl X y) (hmy : X.mg y = none) (hvy : bootBuiltins y = some (.type T)) (hg : Gl X "isinstance") (hm : X.mg "isinstance" = none) (hz : Zc cls d oe) (hf : ∃ vs, oe.data = .fields vs) (hN : X.N[i]? = some n) (hv : Vis X.env.scope n) (hd : (n == ("__debug__" : Str)) = false := by decide)
    (hcd : (n == ("__classdict__" : Str)) = false := by decide) (hny : y ≠ "__name__" := by decide) (hdy : (y == ("__debug__" : Str)) = false := by decide)
    (he : starEach [.Name n np, .Name y tp] X.env = (false, eval (.Name n np) X.env) :: starEach [.Name y tp] X.env := by rfl) (hpl : (backTo pos (starEach [.Name y tp] X.env)).any (·.1) = false := by rfl) :
    ME (X.suite a ((a, oe) :: pn)) (zSu Z c p cls d (some (i, a))) (.Call (.Name "isinstance" ip) [.Name n np, .Name y tp] [] pos) (eXi cs is c) :=
  me_xi0 (cv := .type T) (c2 := .ty T) hx (fun u r => r) (pe_bltn (X := X.suite a ((a, oe) :: pn)) hgy hmy hvy rfl hny hdy) hg hm hz hf hN hv hd hcd (he := he) (hpl := hpl)
end
end Mi

set_option maxHeartbeats 1000000
/-! Mi, part M: the top's facts; built-ins by name; a text's defs. -/
namespace Mi
open PySem PySem.Spec PyProof.Rows L2
/-! ### the Hook: any facts -/
abbrev Fm := PySem.W.Frag → Bool
def obsM (fs : List Fm) (fn : List He.DefD) (K : PySem.W.Frag) : He.AlD := ((fs.all fun f => f K) && fn.all fun d => d.ok K, fn.map fun d => He.fnW K d.at_)
def SaysM (fs : List Fm) (fn : List He.DefD) (K : PySem.W.Frag) : Prop := obsM fs fn K = He.valD fn
def obsMG (n : Nat) (fs : List Fm) (fn : List He.DefD) (g : Addr → Option Obj) : He.AlD := obsM fs fn (He.frG g (He.asD g n))
def hookM (n : Nat) (fs : List Fm) (fn : List He.DefD) : PySem.W.Hook where
  α := He.AlD
  obs := fun s => obsMG n fs fn s.heap.get?
  val := fun _ => He.valD fn
  says := fun _ h => ∃ K : PySem.W.Frag, K.In h ∧ SaysM fs fn K
  of := fun _ _ e => ⟨_, He.frG_in, e⟩
  keeps := fun _ _ _ ⟨K, hK, c⟩ k => ⟨K, PySem.W.Frag.In.keeps hK k, c⟩
theorem obsMG_eq {n : Nat} {fs : List Fm} {fn : List He.DefD} {g : Addr → Option Obj} {s : Shared} (h : ∀ a, g a = s.heap.get? a) : obsMG n fs fn g = (hookM n fs fn).obs s := by
  have e : g = s.heap.get? := funext h
  rw [e] <;> rfl
section
variable {fs : List Fm} {fn : List He.DefD} {K : PySem.W.Frag}
theorem SaysM.fact (c : SaysM fs fn K) {f : Fm} (h : f ∈ fs) : f K = true := by
  have c1 := (He.ba (show ((fs.all fun f => f K) && fn.all fun d => d.ok K) = true from congrArg (fun z : He.AlD => z.1) c)).1
  exact List.all_eq_true.mp c1 f h
theorem SaysM.def_ (c : SaysM fs fn K) (i : Nat) {d : He.DefD} (h : fn[i]? = some d := by rfl) : ∃ fd, FunD K d.name d.qual d.params d.body d.scope (d.dvs K) (d.kws K) (He.fAd K d.at_) fd := by
  have c2 := (He.ba (show ((fs.all fun f => f K) && fn.all fun d => d.ok K) = true from congrArg (fun z : He.AlD => z.1) c)).2
  have e : fn.map (fun d => He.fnW K d.at_) = fn.map He.DefD.val := congrArg (fun z : He.AlD => z.2) c
  have e2 : (fn.map fun d => He.fnW K d.at_)[i]? = (fn.map He.DefD.val)[i]? := by rw [e]
  rw [List.getElem?_map, List.getElem?_map, h] at e2
  exact He.DefD.funD (Option.some.inj e2) (List.all_eq_true.mp c2 d (List.mem_of_getElem? h))
end
/-! ### facts -/
def fGlo (x : Str) : Fm := fun K => (He.Fa.glo x).ok K
def fFree (x : Str) : Fm := fun K => (He.Fa.free x).ok K
def fInt_ (x : Str) (i : Int) : Fm := fun K => (He.Fa.int x i).ok K
def fStr_ (x z : Str) : Fm := fun K => (He.Fa.str x z).ok K
/-- an own error class whose __init__ stores its argument: what raising it asks -/
def oexB (K : PySem.W.Frag) (C : Addr) : Bool := (match K.lookup C with
  | some ⟨.type "type", _, .cls cd, sl⟩ => (match cd.mro, sl.toList with
    | .ref C' :: bm, [_, _, _, _, some (.builtin n), _] => C' == C && n == "ValueError.__new__" && !cd.hasDel && cd.hasDict && PySem.HandSPX.refsVE bm
    | _, _ => false)
  | _ => false) && (He.eqO (PySem.W.findIn K (.ref C) "__setattr__") (some (some (.builtin "object.__setattr__"))) && (decide (PySem.W.subIn K (.ref C) (.type "BaseException") = some true) && (decide (PySem.W.typeIn K (.ref C) = some (.type "type")) && PySem.W.keepIn K (.ref C))))
theorem oexB_ok {K : PySem.W.Frag} {C : Addr} (h : oexB K C = true) : OexC K C := by
  obtain ⟨q, h⟩ := He.ba h
  obtain ⟨h1, h⟩ := He.ba h
  obtain ⟨h2, h⟩ := He.ba h
  obtain ⟨h3, h4⟩ := He.ba h
  refine ⟨?_, He.eqO_ok h1, of_decide_eq_true h2, of_decide_eq_true h3, h4⟩
  split at q
  · rename_i dd cd sl ho
    split at q
    · rename_i C' bm k0 k1 k2 k3 n k5 hm hs
      simp only [Bool.and_eq_true, beq_iff_eq, Bool.not_eq_true'] at q
      obtain ⟨⟨⟨⟨rfl, rfl⟩, hdel⟩, hdct⟩, ht⟩ := q
      obtain ⟨nm, bs, mro, ns, qn, hd, sn, sub, ab, col, del⟩ := cd
      dsimp only at hm hdel hdct
      subst hm hdel hdct
      have hsl : sl = #[k0, k1, k2, k3, some (.builtin "ValueError.__new__"), k5] := by
        obtain ⟨l⟩ := sl
        simp only at hs
        rw [hs]
      subst hsl
      exact ⟨nm, qn, ns, bs, bm, sn, sub, ab, col, dd, k0, k1, k2, k3, k5, ho, ht⟩
    · cases q
  · cases q
/-- an own error class with a field -/
def fXc (x f : Str) : Fm := fun K => oexB K (He.ga K x) && (He.eqO (PySem.W.findIn K (.ref (He.ga K x)) f) (some none) && (He.eqO (PySem.W.findIn K (.ref (He.ga K x)) "__init__") (some (some (.ref (He.ma K (He.ga K x) "__init__")))) && decide (PySem.W.typeIn K (.ref (He.ma K (He.ga K x) "__init__")) = some (.type "function"))))
theorem fXc_ok {K : PySem.W.Frag} {x f : Str} (h : fXc x f K = true) : XcD K (He.ga K x) f (He.ma K (He.ga K x) "__init__") := by
  obtain ⟨h1, h⟩ := He.ba h
  obtain ⟨h2, h⟩ := He.ba h
  obtain ⟨h3, h4⟩ := He.ba h
  exact ⟨oexB_ok h1, He.eqO_ok h2, He.eqO_ok h3, of_decide_eq_true h4⟩
/-- an own error class without __init__ -/
def fX0 (x : Str) : Fm := fun K => (He.Fa.exc x).ok K
/-- reading a caught error -/
def excB (K : PySem.W.Frag) (D : Addr) : Bool := He.eqO (PySem.W.findIn K (.ref D) "__getattribute__") (some (some (.builtin "BaseException.__getattribute__"))) && (He.eqO (PySem.W.findIn K (.ref D) "__getattr__") (some none) && (decide (PySem.W.subIn K (.ref D) (.type "BaseException") = some true) && (PySem.W.hasDictIn K D &&
  (He.eqO (PySem.W.findIn K (.ref D) "__class__") (some (some (.builtin "object.__class__"))) && (He.eqO (PySem.W.specialIn K (.builtin "object.__class__") "__get__") (some (some (.builtin "getset_descriptor.__get__"))) && (decide (PySem.W.takesIn K (.builtin "object.__class__") = some true) && decide (PySem.W.mroIn K D (.type "object") = some true)))))))
theorem excB_ok {K : PySem.W.Frag} {C : Addr} (h : excB K C = true) : ExcC K C := by
  obtain ⟨h1, h⟩ := He.ba h
  obtain ⟨h2, h⟩ := He.ba h
  obtain ⟨h3, h⟩ := He.ba h
  obtain ⟨h4, h⟩ := He.ba h
  obtain ⟨h5, h⟩ := He.ba h
  obtain ⟨h6, h⟩ := He.ba h
  obtain ⟨h7, h8⟩ := He.ba h
  exact ⟨He.eqO_ok h1, He.eqO_ok h2, of_decide_eq_true h3, h4, He.eqO_ok h5, He.eqO_ok h6, of_decide_eq_true h7, of_decide_eq_true h8⟩
theorem excX {K : PySem.W.Frag} {C : Addr} (h : ExcC K C) : XfC K C := ⟨h.hg, h.hk, h.hs, h.hd⟩
/-- the classes by number -/
def gxOf (K : PySem.W.Frag) (ns fs : List Str) : Gx := ⟨fun c => He.ga K (ns.getD c ""), fun c => fs.getD c ""⟩
/-- for every class below n -/
def fAll_ (n : Nat) (f : Nat → Fm) : Fm := fun K => (List.range n).all fun c => f c K
theorem fAll_ok {K : PySem.W.Frag} {n : Nat} {f : Nat → Fm} (h : fAll_ n f K = true) {c : Nat} (hc : c < n) : f c K = true := List.all_eq_true.mp h c (List.mem_range.mpr hc)
def fExc (ns : List Str) (c : Nat) : Fm := fun K => excB K (He.ga K (ns.getD c ""))
def fExm (ns : List Str) (y : Str) (is : Nat → Bool) (c : Nat) : Fm := fun K => decide (PySem.W.exmOne K (.ref (He.ga K (ns.getD c ""))) (.ref (He.ga K y)) = some (is c))
def fExmT (ns : List Str) (y : String) (is : Nat → Bool) (c : Nat) : Fm := fun K => decide (PySem.W.exmOne K (.ref (He.ga K (ns.getD c ""))) (.type y) = some (is c))
def fKit (ns : List Str) (y : Str) (is : Nat → Bool) (c : Nat) : Fm := fun K => decide (PySem.W.kitOne K (.ref (He.ga K (ns.getD c ""))) (.ref (He.ga K y)) = some (is c))
def fKitT (ns : List Str) (y : String) (is : Nat → Bool) (c : Nat) : Fm := fun K => decide (PySem.W.kitOne K (.ref (He.ga K (ns.getD c ""))) (.type y) = some (is c))
/-! ### a text -/
/-- what the text says, and what the module's names stand for -/
structure Tx (fs : List Fm) (fn : List He.DefD) (K : PySem.W.Frag) (mg : Str → Option Value) : Prop where
  c : SaysM fs fn K
  ex : ∃ h : Heap, K.In h ∧ h.Ns mainGlobals mg
section
variable {fs : List Fm} {fn : List He.DefD} {K : PySem.W.Frag} {mg : Str → Option Value}
theorem Tx.glo (T : Tx fs fn K mg) (i : Nat) {x : Str} (h : fs[i]? = some (fGlo x) := by rfl) : mg x = some (.ref (He.ga K x)) := by
  obtain ⟨hp, h1, h2⟩ := T.ex
  exact He.glo_ok h1 h2 (T.c.fact (List.mem_of_getElem? h))
theorem Tx.free (T : Tx fs fn K mg) (i : Nat) {x : Str} (h : fs[i]? = some (fFree x) := by rfl) : mg x = none := by
  obtain ⟨hp, h1, h2⟩ := T.ex
  exact He.free_ok h1 h2 (T.c.fact (List.mem_of_getElem? h))
theorem Tx.int (T : Tx fs fn K mg) (i : Nat) {x : Str} {j : Int} (h : fs[i]? = some (fInt_ x j) := by rfl) : ∃ t, mg x = some (.int j t) := by
  obtain ⟨hp, h1, h2⟩ := T.ex
  exact He.int_ok h1 h2 (T.c.fact (List.mem_of_getElem? h))
theorem Tx.str (T : Tx fs fn K mg) (i : Nat) {x z : Str} (h : fs[i]? = some (fStr_ x z) := by rfl) : ∃ t, mg x = some (.str z t) := by
  obtain ⟨hp, h1, h2⟩ := T.ex
  exact He.str_ok h1 h2 (T.c.fact (List.mem_of_getElem? h))
theorem Tx.at_ (T : Tx fs fn K mg) (i : Nat) {f : Fm} (h : fs[i]? = some f := by rfl) : f K = true := T.c.fact (List.mem_of_getElem? h)
end
/-- all defs at a depth -/
def AllOk (P : Program) (w : World) (K : PySem.W.Frag) (mg : Str → Option Value) (base : Heap) (G : Gx) (fn : List He.DefD) (ps : List (List Str)) (k : Nat) (r : Nat → FX) : Prop :=
  ∀ (i : Nat) (d : He.DefD) (p : List Str), fn[i]? = some d → ps[i]? = some p → ∃ fd, FnOk P w K mg base (L2.CX P w) (k + 2) (He.fAd K d.at_) fd p (spF K G p.length (r i)) ∧ Binds K fd p [] ∧ PySem.W.keepIn K (.ref (He.fAd K d.at_)) = true
theorem tk_quiet {X : Cx} : Takes X (fun _ _ _ _ => False) := fun u s' ⟨_, _, _, _, _, _, _, _, _, _, _, _, _, _, _, _, w⟩ => w.elim
theorem mts_one {X : Cx} {K : PySem.W.Frag} {Z : Zx K} {c : Expr} {tx : TX} (h : PT X c (Rg K (rE Bool) Z tx)) : PTs X [c] (Rg K (rE Bool) Z tx) := pts_one h
/-- a block's scope -/
def blkB (N : List Str) (sc scope : Scope) (own : List (Str × Nat)) : Bool := decide (scope.kind = .function) && (decide (∀ y ∈ scope.names, scope.names.lookup y.1 = some y.2) && (decide (∀ p ∈ own, N[p.2]? = some p.1) && (decide (∀ y ∈ scope.names, y.2 = .free → sc.names.lookup y.1 = some .cell ∨ sc.names.lookup y.1 = some .free) && decide (∀ y ∈ scope.names, y.2 = .local ∨ y.2 = .cell → y.1 ∈ own.map (·.1) ∨ y.1 ∉ N))))
theorem blk_mk {N : List Str} {sc scope : Scope} {own : List (Str × Nat)} (h : blkB N sc scope own = true) : BlkOk N sc scope own := by
  obtain ⟨h1, h⟩ := He.ba h
  obtain ⟨h2, h⟩ := He.ba h
  obtain ⟨h3, h⟩ := He.ba h
  obtain ⟨h4, h5⟩ := He.ba h
  exact ⟨of_decide_eq_true h1, of_decide_eq_true h2, of_decide_eq_true h3, of_decide_eq_true h4, of_decide_eq_true h5⟩
/-- a suite, whatever the error is -/
theorem su_of {X : Cx} {Z : Zx X.K} {x : Hd} {a : Addr} {oe : Obj} {cls : Value} {d : Option Addr} {pn : List (Addr × Obj)} {body : List Stmt} (h : ∀ c p, PSs (X.suite a ((a, oe) :: pn)) body (Rs X.K (zSu Z c p cls d (x.slot.map fun i => (i, a))) (x.suite c p))) : PSs (X.suite a ((a, oe) :: pn)) body (tSu X.K Z x a cls d) :=
  ⟨fun pins s σ H D I ⟨c, p, q⟩ => (h c p).run pins s σ H D I q⟩
/-- a law's def: nothing is let out -/
theorem fn_top {P : Program} {w : World} {K : PySem.W.Frag} {mg : Str → Option Value} {base : Heap} {k : Nat} {f : Addr} {fd : FuncData} {ps : List Str} {sp : Sp} (F : FnOk P w K mg base (L2.CX P w) k f fd ps sp) : FnOk P w K mg base L2.CX0 k f fd ps (fun vs H Q _ => sp vs H Q fun _ _ _ => False) :=
  ⟨fun vs H Q E h => F.len vs H Q _ h, fun A outer s H args us vs Q E hr e0 hb hv hs => codeAny_mono (F.run A outer s H args us vs Q _ hr e0 hb hv hs) fun r s' h => by
    cases r with
    | ok o =>
      cases o with
      | ret u => exact h
      | _ => exact h
    | error e =>
      obtain ⟨_, _, _, _, _, _, _, _, _, _, _, _, z⟩ := (h : L2.CX P w outer H s _ e s')
      exact z⟩
/-- the script -/
theorem script_rd {K : PySem.W.Frag} {H : Hp} {a : Addr} {ns : List Int} {m : List Addr} (ho : Only H) (h : SqL K H a (ns.map V.int)) : RD K H m (.frl (ns.map .int)) (.ref a) := by
  have t : RDs K H m (ns.map Mi.D.int) (ns.map V.int) := by
    induction ns with
    | nil => exact .nil
    | cons i r ih => exact .cons (.int i) (by
        clear h ih
        induction r with
        | nil => exact .nil
        | cons j r ih => exact .cons (.int j) ih)
  refine .frl ?_ t
  rcases h with (h | h) | h
  · rcases ho a with e | ⟨o, xs, e⟩
    · rw [e] at h; cases h
    · rw [e] at h; cases h
  · exact .inl h
  · exact .inr h
theorem top_sp {K : PySem.W.Frag} {G : Gx} {np : Nat} {f : FX} {H : Hp} {a : Addr} {ns : List Int} (hn : np = 1) (ho : Only H) (h : SqL K H a (ns.map V.int)) (hf : ∃ h', f [.frl (ns.map .int)] [] [] = .ok (.bl true) h') : spF K G np f [.ref a] H (fun v _ => v = .bl true) fun _ _ _ => False := by
  obtain ⟨h', e⟩ := hf
  subst hn
  refine ⟨rfl, [], [], [], [.frl (ns.map .int)], ⟨rfl, List.nodup_nil, fun n o a e => by simp at e⟩, fun k hk => by simp at hk, .cons (script_rd ho h) .nil, ?_⟩
  rw [e]
  intro m' H' v l p r q
  cases q
  rfl
/-! ### built-ins by name -/
section
variable {X : Cx} {Z : Zx X.K} {a b e o : Expr} {es : List Expr} {ra rb : EX} {rs : AX} {pos p p2 apos : Pos}
theorem me_fLen (hg : Gl X "len") (hm : X.mg "len" = none) (ha : MA X Z [e] rs) (he : starEach [e] X.env = (false, eval e X.env) :: starEach [] X.env := by rfl) (hpl : (backTo pos (starEach [] X.env)).any (·.1) = false := by rfl) : ME X Z (.Call (.Name "len" p) [e] [] pos) (eCB fLen rs) := me_cb call_lenX ok_len hg hm (by decide +kernel) ha (he := he) (hpl := hpl)
theorem me_fInt (hg : Gl X "int") (hm : X.mg "int" = none) (ha : MA X Z [e] rs) (he : starEach [e] X.env = (false, eval e X.env) :: starEach [] X.env := by rfl) (hpl : (backTo pos (starEach [] X.env)).any (·.1) = false := by rfl) : ME X Z (.Call (.Name "int" p) [e] [] pos) (eCB fInt rs) := me_cty call_int1 ok_int hg hm (by decide +kernel) ha (he := he) (hpl := hpl)
theorem me_fList (hg : Gl X "list") (hm : X.mg "list" = none) (ha : MA X Z [e] rs) (he : starEach [e] X.env = (false, eval e X.env) :: starEach [] X.env := by rfl) (hpl : (backTo pos (starEach [] X.env)).any (·.1) = false := by rfl) : ME X Z (.Call (.Name "list" p) [e] [] pos) (eCB fList rs) := me_cty call_list_of ok_list hg hm (by decide +kernel) ha (he := he) (hpl := hpl)
theorem me_fTuple (hg : Gl X "tuple") (hm : X.mg "tuple" = none) (ha : MA X Z [e] rs) (he : starEach [e] X.env = (false, eval e X.env) :: starEach [] X.env := by rfl) (hpl : (backTo pos (starEach [] X.env)).any (·.1) = false := by rfl) : ME X Z (.Call (.Name "tuple" p) [e] [] pos) (eCB fTuple rs) := me_cty call_tuple_of ok_tuple hg hm (by decide +kernel) ha (he := he) (hpl := hpl)
theorem me_fMin2 (hc : X.calm = true) (hg : Gl X "min") (hm : X.mg "min" = none) (ha : MA X Z [e, a] rs) (he : starEach [e, a] X.env = (false, eval e X.env) :: starEach [a] X.env := by rfl) (hpl : (backTo pos (starEach [a] X.env)).any (·.1) = false := by rfl) : ME X Z (.Call (.Name "min" p) [e, a] [] pos) (eCB fMin2 rs) := me_cb (call_min2 hc) ok_min2 hg hm (by decide +kernel) ha (he := he) (hpl := hpl)
theorem me_fMax2 (hc : X.calm = true) (hg : Gl X "max") (hm : X.mg "max" = none) (ha : MA X Z [e, a] rs) (he : starEach [e, a] X.env = (false, eval e X.env) :: starEach [a] X.env := by rfl) (hpl : (backTo pos (starEach [a] X.env)).any (·.1) = false := by rfl) : ME X Z (.Call (.Name "max" p) [e, a] [] pos) (eCB fMax2 rs) := me_cb (call_max2 hc) ok_max2 hg hm (by decide +kernel) ha (he := he) (hpl := hpl)
theorem me_fSum (hc : X.calm = true) (hg : Gl X "sum") (hm : X.mg "sum" = none) (ha : MA X Z [e] rs) (he : starEach [e] X.env = (false, eval e X.env) :: starEach [] X.env := by rfl) (hpl : (backTo pos (starEach [] X.env)).any (·.1) = false := by rfl) : ME X Z (.Call (.Name "sum" p) [e] [] pos) (eCB fSum rs) := me_cb (cr_sum hc) ok_sum hg hm (by decide +kernel) ha (he := he) (hpl := hpl)
theorem me_fAll (hc : X.calm = true) (hg : Gl X "all") (hm : X.mg "all" = none) (ha : MA X Z [e] rs) (he : starEach [e] X.env = (false, eval e X.env) :: starEach [] X.env := by rfl) (hpl : (backTo pos (starEach [] X.env)).any (·.1) = false := by rfl) : ME X Z (.Call (.Name "all" p) [e] [] pos) (eCB fAll rs) := me_cb (cr_all hc) ok_all hg hm (by decide +kernel) ha (he := he) (hpl := hpl)
theorem me_fAny (hc : X.calm = true) (hg : Gl X "any") (hm : X.mg "any" = none) (ha : MA X Z [e] rs) (he : starEach [e] X.env = (false, eval e X.env) :: starEach [] X.env := by rfl) (hpl : (backTo pos (starEach [] X.env)).any (·.1) = false := by rfl) : ME X Z (.Call (.Name "any" p) [e] [] pos) (eCB fAny rs) := me_cb (cr_any hc) ok_any hg hm (by decide +kernel) ha (he := he) (hpl := hpl)
theorem me_fSortS (hg : Gl X "sorted") (hm : X.mg "sorted" = none) (ha : MA X Z [e] rs) (he : starEach [e] X.env = (false, eval e X.env) :: starEach [] X.env := by rfl) (hpl : (backTo pos (starEach [] X.env)).any (·.1) = false := by rfl) : ME X Z (.Call (.Name "sorted" p) [e] [] pos) (eCB fSortS rs) := me_cb cr_sortedS ok_sortS hg hm (by decide +kernel) ha (he := he) (hpl := hpl)
theorem me_fSortK (hc : X.calm = true) (hg : Gl X "sorted") (hm : X.mg "sorted" = none) (ha : MA X Z [e] rs) (he : starEach [e] X.env = (false, eval e X.env) :: starEach [] X.env := by rfl) (hpl : (backTo pos (starEach [] X.env)).any (·.1) = false := by rfl) : ME X Z (.Call (.Name "sorted" p) [e] [] pos) (eCB fSortK rs) := me_cb (call_sortedD hc) ok_sortK hg hm (by decide +kernel) ha (he := he) (hpl := hpl)
end
end Mi

set_option maxHeartbeats 1000000
/-! Mi, part P: plain facts of the small semantics: what the drawing defs of the laws do. -/
namespace Mi
open PySem L2
section
variable (d : D) (ρ : Rho) (L : List Nat) (h : Hh) (a b c o : EX) (ra rb : AX) (f g : B2) (u : D → Hh → R D) (q : List D → Hh → R D) (n : Nat) (F : FX) (t t' : TX) (s s' : SX) (i j : Nat) (gx : GX) (lo hi : OX) (ob : Ob) (own : List Nat) (w : List D → Option (List D)) (te : EX)
@[simp] theorem eC_x : eC d ρ L h = .ok d h := rfl
@[simp] theorem aNil_x : aNil ρ L h = .ok [] h := rfl
@[simp] theorem aCons_x : aCons a ra ρ L h = (a ρ L h).bind fun x h1 => (ra ρ L h1).bind fun xs h2 => .ok (x :: xs) h2 := rfl
@[simp] theorem eBin_x : eBin f a b ρ L h = (a ρ L h).bind fun x h1 => (b ρ L h1).bind fun y h2 => f x y h2 := rfl
@[simp] theorem eUn_x : eUn u a ρ L h = (a ρ L h).bind fun x h1 => u x h1 := rfl
@[simp] theorem eCB_x : eCB q ra ρ L h = (ra ρ L h).bind fun xs h1 => q xs h1 := rfl
@[simp] theorem eTup_x : eTup ra ρ L h = (ra ρ L h).bind fun xs h1 => if xs.length ≤ sizeLine then .ok (.tup xs) h1 else .bad := rfl
@[simp] theorem eLst_x : eLst ra ρ L h = (ra ρ L h).bind fun xs h1 => if xs.length ≤ sizeLine then .ok (.ref h1.length) (h1 ++ [.lst xs]) else .bad := rfl
@[simp] theorem eCall_x : eCall n F ra ρ L h = (ra ρ L h).bind fun xs h1 => if xs.length = n then F xs L h1 else .bad := rfl
@[simp] theorem tBl_x : tBl a ρ L h = (a ρ L h).bind fun x h1 => match x with
  | .bl b => .ok b h1
  | _ => .bad := rfl
@[simp] theorem tTru_x : tTru a ρ L h = (a ρ L h).bind fun x h1 => match truD x h1 with
  | some b => .ok b h1
  | none => .bad := rfl
@[simp] theorem xAnd_x : xAnd t t' ρ L h = (t ρ L h).bind fun b h1 => if b then t' ρ L h1 else .ok false h1 := rfl
@[simp] theorem xOr_x : xOr t t' ρ L h = (t ρ L h).bind fun b h1 => if b then .ok true h1 else t' ρ L h1 := rfl
@[simp] theorem xNot_x : xNot t ρ L h = (t ρ L h).bind fun b h1 => .ok (!b) h1 := rfl
@[simp] theorem tYes_x : tYesX ρ L h = .ok true h := rfl
@[simp] theorem sNil_x : sNil ρ L h = .nx ρ h := rfl
@[simp] theorem sBrk_x : sBrk ρ L h = .brk ρ h := rfl
@[simp] theorem sCnt_x : sCnt ρ L h = .cnt ρ h := rfl
@[simp] theorem sSeq_x : sSeq s s' ρ L h = (s ρ L h).seq fun ρ' h' => s' ρ' L h' := rfl
@[simp] theorem sAsg_x : sAsg a (gVar i) ρ L h = (a ρ L h).toS ρ fun d h1 => .nx (ρ.set i (some d)) h1 := rfl
@[simp] theorem sRet_x : sRet a ρ L h = (a ρ L h).toS ρ fun d h' => .ret d h' := rfl
@[simp] theorem sRetN_x : sRetN ρ L h = .ret .non h := rfl
@[simp] theorem sDrop_x : sDrop a ρ L h = (a ρ L h).toS ρ fun _ h' => .nx ρ h' := rfl
@[simp] theorem sIf_x : sIf t s s' ρ L h = (t ρ L h).toS ρ fun c h1 => if c then s ρ L h1 else s' ρ L h1 := rfl
@[simp] theorem gVar_x : gVar i d ρ L h = .ok (ρ.set i (some d)) h := rfl
@[simp] theorem oNo_x : oNo ρ L h = .ok none h := rfl
@[simp] theorem eIf_x : eIf t a b ρ L h = (t ρ L h).bind fun c h1 => if c then a ρ L h1 else b ρ L h1 := rfl
@[simp] theorem eNot_x : eNot a ρ L h = (a ρ L h).bind fun x h1 => match truD x h1 with
  | some b => .ok (.bl (!b)) h1
  | none => .bad := rfl
@[simp] theorem eAnd_x : eAnd a b ρ L h = (a ρ L h).bind fun x h1 => match truD x h1 with
  | some true => b ρ L h1
  | some false => .ok x h1
  | none => .bad := rfl
@[simp] theorem eOr_x : eOr a b ρ L h = (a ρ L h).bind fun x h1 => match truD x h1 with
  | some true => .ok x h1
  | some false => b ρ L h1
  | none => .bad := rfl
@[simp] theorem eCh_x : eCh f g a b c ρ L h = (a ρ L h).bind fun x h1 => (b ρ L h1).bind fun y h2 => (f x y h2).bind fun z h3 => match z with
  | .bl true => (c ρ L h3).bind fun u h4 => g y u h4
  | .bl false => .ok (.bl false) h3
  | _ => .bad := rfl
@[simp] theorem eSl_x : eSl a lo hi ρ L h = (a ρ L h).bind fun x h1 => (lo ρ L h1).bind fun l h2 => (hi ρ L h2).bind fun u h3 => slD x l u h3 := rfl
@[simp] theorem oYes_x : oYes a ρ L h = (a ρ L h).bind fun x h1 => match x with
  | .int i => .ok (some i) h1
  | _ => .bad := rfl
@[simp] theorem sPut_x : sPut o b a ρ L h = (a ρ L h).toS ρ fun d h1 => (o ρ L h1).toS ρ fun x h2 => (b ρ L h2).toS ρ fun y h3 => match setIx x y d L h3 with
  | some h4 => .nx ρ h4
  | none => .bad := rfl
theorem eVar_x {d : D} (e : ρ[i]? = some (some d)) : eVar i ρ L h = .ok d h := by unfold eVar; rw [e]
@[simp] theorem eVar_0 (x : D) (r : Rho) : eVar 0 (some x :: r) L h = .ok x h := rfl
@[simp] theorem eVar_s (x : Option D) (r : Rho) : eVar (i + 1) (x :: r) L h = eVar i r L h := rfl
@[simp] theorem eVar_1 (x : Option D) (r : Rho) : eVar 1 (x :: r) L h = eVar 0 r L h := rfl
@[simp] theorem eVar_2 (x : Option D) (r : Rho) : eVar 2 (x :: r) L h = eVar 1 r L h := rfl
@[simp] theorem eVar_3 (x : Option D) (r : Rho) : eVar 3 (x :: r) L h = eVar 2 r L h := rfl
@[simp] theorem eVar_4 (x : Option D) (r : Rho) : eVar 4 (x :: r) L h = eVar 3 r L h := rfl
@[simp] theorem eVar_5 (x : Option D) (r : Rho) : eVar 5 (x :: r) L h = eVar 4 r L h := rfl
@[simp] theorem eVar_6 (x : Option D) (r : Rho) : eVar 6 (x :: r) L h = eVar 5 r L h := rfl
@[simp] theorem eVar_7 (x : Option D) (r : Rho) : eVar 7 (x :: r) L h = eVar 6 r L h := rfl
@[simp] theorem eVar_8 (x : Option D) (r : Rho) : eVar 8 (x :: r) L h = eVar 7 r L h := rfl
@[simp] theorem eVar_9 (x : Option D) (r : Rho) : eVar 9 (x :: r) L h = eVar 8 r L h := rfl
@[simp] theorem eVar_10 (x : Option D) (r : Rho) : eVar 10 (x :: r) L h = eVar 9 r L h := rfl
@[simp] theorem eVar_11 (x : Option D) (r : Rho) : eVar 11 (x :: r) L h = eVar 10 r L h := rfl
@[simp] theorem eVar_12 (x : Option D) (r : Rho) : eVar 12 (x :: r) L h = eVar 11 r L h := rfl
@[simp] theorem bSub_x (i j : Int) : bSub (.int i) (.int j) h = .ok (.int (i - j)) h := rfl
@[simp] theorem bAdd_x (i j : Int) : bAdd (.int i) (.int j) h = .ok (.int (i + j)) h := rfl
@[simp] theorem bLt_x (i j : Int) : bLt (.int i) (.int j) h = .ok (.bl (decide (i < j))) h := rfl
@[simp] theorem bLe_x (i j : Int) : bLe (.int i) (.int j) h = .ok (.bl (decide (i ≤ j))) h := rfl
@[simp] theorem bGt_x (i j : Int) : bGt (.int i) (.int j) h = .ok (.bl (decide (j < i))) h := rfl
@[simp] theorem bGe_x (i j : Int) : bGe (.int i) (.int j) h = .ok (.bl (decide (j ≤ i))) h := rfl
@[simp] theorem uNeg_x (i : Int) : uNeg (.int i) h = .ok (.int (-i)) h := rfl
@[simp] theorem fInt_x (i : Int) : fInt [.int i] h = .ok (.int i) h := rfl
@[simp] theorem bEq_int (i j : Int) : bEq (.int i) (.int j) h = .ok (.bl (decide (i = j))) h := rfl
@[simp] theorem bNe_int (i j : Int) : bNe (.int i) (.int j) h = .ok (.bl (!decide (i = j))) h := rfl
@[simp] theorem bEq_str (i j : Str) : bEq (.str i) (.str j) h = .ok (.bl (decide (i = j))) h := rfl
@[simp] theorem bNe_str (i j : Str) : bNe (.str i) (.str j) h = .ok (.bl (!decide (i = j))) h := rfl
@[simp] theorem uIsN_x : uIsN d h = .ok (.bl d.isNon) h := rfl
@[simp] theorem uNotN_x : uNotN d h = .ok (.bl (!d.isNon)) h := rfl
theorem bMod_x {i j : Int} (e : 0 < j) : bMod (.int i) (.int j) h = .ok (.int (i % j)) h := by simp [bMod, e]
theorem lt9000 {n : Nat} (h : n < 18446744073709551616) : n < 2 ^ 9000 :=
  Nat.lt_of_lt_of_le h (Nat.le_trans (by decide : 18446744073709551616 ≤ 2 ^ 64) (Nat.pow_le_pow_right (by decide) (by decide)))
theorem bDiv_x {i j : Int} (e : 0 < j) (l : j < 18446744073709551616) : bDiv (.int i) (.int j) h = .ok (.int (i / j)) h := by
  have : j.natAbs < 2 ^ 9000 := lt9000 (by omega)
  simp only [bDiv]
  rw [if_pos ⟨e, this⟩]
theorem small_mod {x m : Int} (h0 : 0 < m) (h1 : m ≤ 18446744073709551616) : small64 (x % m) = true := by
  have h2 := Int.emod_nonneg x (by omega : m ≠ 0)
  have h3 := Int.emod_lt_of_pos x h0
  have e : ((2 : Int) ^ 64) = 18446744073709551616 := by decide
  unfold small64
  rw [e]
  exact decide_eq_true ⟨by omega, by omega⟩
theorem bMul_r {i j : Int} (e : small64 j = true) : bMul (.int i) (.int j) h = .ok (.int (i * j)) h := by simp [bMul, e]
theorem bMul_l {i j : Int} (e : small64 i = true) : bMul (.int i) (.int j) h = .ok (.int (i * j)) h := by simp [bMul, e]
end
def mixedB : SX :=
  (sSeq (sAsg (eBin bMod (eCB fInt (aCons (eBin bMul (eBin bAdd (eBin bAdd (eBin bMod (eCB fInt (aCons (eVar 0) aNil)) (eC (.int 2147483647))) (eBin bMul (eC (.int 7919)) (eVar 1))) (eC (.int 1))) (eC (.int 48271))) aNil)) (eC (.int 2147483647))) (gVar 2))
    (sSeq (sAsg (eBin bMod (eCB fInt (aCons (eBin bMul (eVar 2) (eBin bAdd (eBin bDiv (eVar 2) (eC (.int 1009))) (eC (.int 69621)))) aNil)) (eC (.int 2147483647))) (gVar 3))
    (sSeq (sAsg (eBin bMod (eCB fInt (aCons (eBin bMul (eVar 3) (eBin bAdd (eBin bDiv (eVar 3) (eC (.int 2003))) (eC (.int 40692)))) aNil)) (eC (.int 2147483399))) (gVar 4))
    (sRet (eBin bDiv (eVar 4) (eC (.int 16)))))))
theorem mixed_ok (a t : Int) (L : List Nat) (h : Hh) : ∃ v, 0 ≤ v ∧ bodyX 5 mixedB [.int a, .int t] L h = .ok (.int v) h := by
  have e : ∃ x : Int, bodyX 5 mixedB [.int a, .int t] L h = .ok (.int (x % 2147483399 / 16)) h := by
    simp [bodyX, mixedB, bMul_l _ (i := 7919) (by decide), bMul_r _ (j := 48271) (by decide), bMul_l _ (small_mod (m := 2147483647) (by decide) (by decide)), bDiv_x _ (j := 1009) (by decide) (by decide), bDiv_x _ (j := 2003) (by decide) (by decide), bDiv_x _ (j := 16) (by decide) (by decide), bMod_x _ (j := 2147483647) (by decide), bMod_x _ (j := 2147483399) (by decide)]
    exact ⟨_, rfl⟩
  obtain ⟨x, e⟩ := e
  exact ⟨_, Int.ediv_nonneg (Int.emod_nonneg _ (by decide)) (by decide), e⟩
theorem sz0 : 0 ≤ sizeLine := Nat.zero_le _
theorem sz1 : 0 + 1 ≤ sizeLine := by decide
theorem sz2 : 0 + 1 + 1 ≤ sizeLine := by decide
theorem sz3 : 0 + 1 + 1 + 1 ≤ sizeLine := by decide
theorem sz4 : 0 + 1 + 1 + 1 + 1 ≤ sizeLine := by decide
theorem sz5 : 0 + 1 + 1 + 1 + 1 + 1 ≤ sizeLine := by decide
theorem sz6 : 0 + 1 + 1 + 1 + 1 + 1 + 1 ≤ sizeLine := by decide
theorem bPow_x {i j : Int} {h : Hh} (e : 0 ≤ j ∧ j ≤ 1000000 ∧ i.natAbs < 2 ^ 64) : bPow (.int i) (.int j) h = .ok (.int (i ^ j.toNat)) h := by
  simp only [bPow]
  rw [if_pos e]
theorem bIx_lst {n : Nat} {i : Int} {xs : List D} {h : Hh} {d : D} (e : h[n]? = some (.lst xs)) (a : atI xs i = some d) : bIx (.ref n) (.int i) h = .ok d h := by
  simp [bIx, seqOf, lstOf, e, a]
theorem put_lst {n j : Nat} {i : Int} {xs : List D} {h : Hh} {d : D} {L : List Nat} (hL : n ∉ L) (e : h[n]? = some (.lst xs)) (a : ixN xs.length i = some j) : setIx (.ref n) (.int i) d L h = some (h.set n (.lst (xs.set j d))) := by
  simp [setIx, hL, e, a]
theorem fLen_lst {n : Nat} {xs : List D} {h : Hh} (e : h[n]? = some (.lst xs)) : fLen [.ref n] h = .ok (.int xs.length) h := by
  simp [fLen, e]
/-- a bag of draws: at b, its cells at c -/
structure Bag (h : Hh) (b c : Nat) : Prop where
  ne : b ≠ c
  ex : ∃ (ns : List Int) (p q n s : Int), h[b]? = some (.lst [.ref c, .int p, .int q, .int n, .int s]) ∧ h[c]? = some (.lst (ns.map D.int)) ∧ 0 ≤ p
theorem Bag.lt {h : Hh} {b c : Nat} (B : Bag h b c) : b < h.length := by
  obtain ⟨_, _, _, _, _, e, _⟩ := B.ex
  exact (List.getElem?_eq_some_iff.mp e).1
theorem set_get {h : Hh} {b : Nat} {o : Ob} (l : b < h.length) : (h.set b o)[b]? = some o := List.getElem?_set_self l
theorem set_getN {h : Hh} {b c : Nat} {o : Ob} (l : b ≠ c) : (h.set b o)[c]? = h[c]? := List.getElem?_set_ne l
theorem Bag.mk_set {h : Hh} {b c : Nat} {ns : List Int} {p q n s : Int} (l : b < h.length) (ne : b ≠ c) (e : h[c]? = some (.lst (ns.map D.int))) (hp : 0 ≤ p) : Bag (h.set b (.lst [.ref c, .int p, .int q, .int n, .int s])) b c :=
  ⟨ne, ns, p, q, n, s, set_get l, by rw [set_getN ne]; exact e, hp⟩
def drawB (m : FX) : SX :=
  (sSeq (sPut (eVar 0) (eC (.int 3)) (eBin bAdd (eBin bIx (eVar 0) (eC (.int 3))) (eC (.int 1))))
    (sSeq (sIf (tBl (eBin bEq (eBin bIx (eVar 0) (eC (.int 2))) (eC (.int 0)))) (sSeq (sIf (tBl (eBin bGe (eBin bIx (eVar 0) (eC (.int 1))) (eCB fLen (aCons (eBin bIx (eVar 0) (eC (.int 0))) aNil)))) (sRet (eBin bMod (eCB fInt (aCons (eCall 2 m (aCons (eBin bIx (eVar 0) (eC (.int 4))) (aCons (eBin bIx (eVar 0) (eC (.int 3))) aNil))) aNil)) (eVar 1))) sNil)
    (sSeq (sAsg (eBin bIx (eBin bIx (eVar 0) (eC (.int 0))) (eBin bIx (eVar 0) (eC (.int 1)))) (gVar 3))
    (sSeq (sPut (eVar 0) (eC (.int 1)) (eBin bAdd (eBin bIx (eVar 0) (eC (.int 1))) (eC (.int 1))))
    (sSeq (sIf (tBl (eBin bLt (eVar 3) (eBin bPow (eC (.int 10)) (eC (.int 18))))) (sRet (eBin bMod (eCB fInt (aCons (eCall 2 m (aCons (eVar 3) (aCons (eBin bIx (eVar 0) (eC (.int 3))) aNil))) aNil)) (eVar 1))) sNil)
    (sPut (eVar 0) (eC (.int 2)) (eVar 3)))))) sNil)
    (sSeq (sAsg (eBin bMod (eCB fInt (aCons (eBin bIx (eVar 0) (eC (.int 2))) aNil)) (eVar 1)) (gVar 2))
    (sSeq (sPut (eVar 0) (eC (.int 2)) (eBin bDiv (eBin bIx (eVar 0) (eC (.int 2))) (eVar 1)))
    (sRet (eVar 2))))))
section
variable {m : FX} {h : Hh} {b c : Nat} {L : List Nat} {many : Int}
theorem mod_in {x : Int} (h0 : 0 < many) : 0 ≤ x % many ∧ x % many < many := ⟨Int.emod_nonneg _ (by omega), Int.emod_lt_of_pos _ h0⟩
/-- the last part of a draw -/
theorem draw_tail {p q n s : Int} {ns : List Int} {z w : Option D} (h0 : 0 < many) (h1 : many < 18446744073709551616) (ne : b ≠ c) (hL : b ∉ L) (e1 : h[b]? = some (.lst [.ref c, .int p, .int q, .int n, .int s])) (e2 : h[c]? = some (.lst (ns.map D.int))) (hp : 0 ≤ p) :
    ∃ v o, 0 ≤ v ∧ v < many ∧ (sSeq (sAsg (eBin bMod (eCB fInt (aCons (eBin bIx (eVar 0) (eC (.int 2))) aNil)) (eVar 1)) (gVar 2)) (sSeq (sPut (eVar 0) (eC (.int 2)) (eBin bDiv (eBin bIx (eVar 0) (eC (.int 2))) (eVar 1))) (sRet (eVar 2)))) [some (.ref b), some (.int many), z, w] L h = .ret (.int v) (h.set b o) ∧ Bag (h.set b o) b c := by
  have l : b < h.length := (List.getElem?_eq_some_iff.mp e1).1
  refine ⟨q % many, .lst [.ref c, .int p, .int (q / many), .int n, .int s], (mod_in h0).1, (mod_in h0).2, ?_, Bag.mk_set l ne e2 hp⟩
  simp [bIx_lst e1 (i := 2) (d := .int q) rfl, bMod_x h h0, bDiv_x h h0 h1, put_lst hL e1 (i := 2) (j := 2) rfl]
theorem draw_ok (hm : ∀ a t L h, ∃ v, 0 ≤ v ∧ m [.int a, .int t] L h = .ok (.int v) h) (h0 : 0 < many) (h1 : many < 18446744073709551616) (B : Bag h b c) (hL : b ∉ L) : ∃ v o, 0 ≤ v ∧ v < many ∧ bodyX 4 (drawB m) [.ref b, .int many] L h = .ok (.int v) (h.set b o) ∧ Bag (h.set b o) b c := by
  obtain ⟨ne, ns, p, q, n, s, e1, e2, hp⟩ := B
  have l : b < h.length := (List.getElem?_eq_some_iff.mp e1).1
  have l1 : ∀ o, b < (h.set b o).length := fun o => by rw [List.length_set]; exact l
  have f1 : (h.set b (.lst [.ref c, .int p, .int q, .int (n + 1), .int s]))[b]? = some (.lst [.ref c, .int p, .int q, .int (n + 1), .int s]) := set_get l
  have f2 : (h.set b (.lst [.ref c, .int p, .int q, .int (n + 1), .int s]))[c]? = some (.lst (ns.map D.int)) := by rw [set_getN ne]; exact e2
  have st : (sPut (eVar 0) (eC (.int 3)) (eBin bAdd (eBin bIx (eVar 0) (eC (.int 3))) (eC (.int 1)))) [some (.ref b), some (.int many), none, none] L h = .nx [some (.ref b), some (.int many), none, none] (h.set b (.lst [.ref c, .int p, .int q, .int (n + 1), .int s])) := by
    simp [bIx_lst e1 (i := 3) (d := .int n) rfl, put_lst hL e1 (i := 3) (j := 3) rfl]
  have r0 : bodyX 4 (drawB m) [.ref b, .int many] L h = (drawB m [some (.ref b), some (.int many), none, none] L h).fin := rfl
  rw [r0]
  unfold drawB
  rw [sSeq_x, st, SR.seq_nx, sSeq_x, sIf_x]
  by_cases hq : q = 0
  · subst hq
    simp only [tBl_x, eBin_x, eVar_0, R.bind_ok, eC_x, bIx_lst f1 (i := 2) (d := .int 0) rfl, bEq_int, R.toS_ok, decide_true, if_true]
    rw [sSeq_x, sIf_x]
    simp only [tBl_x, eBin_x, eVar_0, R.bind_ok, eC_x, bIx_lst f1 (i := 1) (d := .int p) rfl, bIx_lst f1 (i := 0) (d := .ref c) rfl, eCB_x, aCons_x, aNil_x, fLen_lst f2, bGe_x, R.toS_ok, List.length_map]
    by_cases hlen : (ns.length : Int) ≤ p
    · obtain ⟨v, hv, em⟩ := hm s (n + 1) L (h.set b (.lst [.ref c, .int p, .int 0, .int (n + 1), .int s]))
      rw [decide_eq_true hlen, if_pos rfl]
      refine ⟨v % many, _, (mod_in h0).1, (mod_in h0).2, ?_, Bag.mk_set (p := p) (q := 0) (n := n + 1) (s := s) l ne e2 hp⟩
      simp [bIx_lst f1 (i := 4) (d := .int s) rfl, bIx_lst f1 (i := 3) (d := .int (n + 1)) rfl, em, bMod_x _ h0]
    · rw [decide_eq_false hlen, if_neg (by decide)]
      obtain ⟨cell, hcell⟩ : ∃ cell, ns[p.toNat]? = some cell := ⟨_, List.getElem?_eq_getElem (by omega)⟩
      have ha : atI (ns.map D.int) p = some (.int cell) := by
        unfold atI ixN
        rw [if_pos hp, if_pos (by rw [List.length_map]; omega)]
        show (ns.map D.int)[p.toNat]? = _
        rw [List.getElem?_map, hcell]; rfl
      simp only [sNil_x, SR.seq_nx, sSeq_x, sAsg_x, eBin_x, eVar_0, R.bind_ok, eC_x, bIx_lst f1 (i := 1) (d := .int p) rfl, bIx_lst f1 (i := 0) (d := .ref c) rfl, bIx_lst f2 ha, R.toS_ok, sPut_x, bAdd_x, put_lst hL f1 (i := 1) (j := 1) rfl, List.set_set, List.set_cons_succ, List.set_cons_zero]
      have g1 : (h.set b (.lst [.ref c, .int (p + 1), .int 0, .int (n + 1), .int s]))[b]? = some (.lst [.ref c, .int (p + 1), .int 0, .int (n + 1), .int s]) := set_get l
      have g2 : (h.set b (.lst [.ref c, .int (p + 1), .int 0, .int (n + 1), .int s]))[c]? = some (.lst (ns.map D.int)) := by rw [set_getN ne]; exact e2
      rw [sIf_x]
      simp only [tBl_x, eBin_x, eVar_0, eVar_s, eVar_3, eVar_2, eVar_1, R.bind_ok, eC_x, bPow_x (i := 10) (j := 18) (by decide), bLt_x, R.toS_ok]
      by_cases hc : cell < (10 : Int) ^ (18 : Int).toNat
      · obtain ⟨v, hv, em⟩ := hm cell (n + 1) L (h.set b (.lst [.ref c, .int (p + 1), .int 0, .int (n + 1), .int s]))
        rw [decide_eq_true hc, if_pos rfl]
        refine ⟨v % many, _, (mod_in h0).1, (mod_in h0).2, ?_, Bag.mk_set (p := p + 1) (q := 0) (n := n + 1) (s := s) l ne e2 (by omega)⟩
        simp [bIx_lst g1 (i := 3) (d := .int (n + 1)) rfl, em, bMod_x _ h0]
      · rw [decide_eq_false hc, if_neg (by decide)]
        simp only [sNil_x, SR.seq_nx, sPut_x, eVar_0, eVar_3, eVar_2, eVar_1, eC_x, R.toS_ok, put_lst hL g1 (i := 2) (j := 2) rfl, List.set_set, List.set_cons_succ, List.set_cons_zero]
        have k1 : (h.set b (.lst [.ref c, .int (p + 1), .int cell, .int (n + 1), .int s]))[b]? = some (.lst [.ref c, .int (p + 1), .int cell, .int (n + 1), .int s]) := set_get l
        have k2 : (h.set b (.lst [.ref c, .int (p + 1), .int cell, .int (n + 1), .int s]))[c]? = some (.lst (ns.map D.int)) := by rw [set_getN ne]; exact e2
        obtain ⟨v, o, v0, v1, ev, B'⟩ := draw_tail (z := none) (w := some (.int cell)) h0 h1 ne hL k1 k2 (by omega)
        refine ⟨v, o, v0, v1, ?_, ?_⟩
        · rw [List.set_set] at ev
          exact congrArg SR.fin ev
        · rw [List.set_set] at B'
          exact B'
  · simp only [tBl_x, eBin_x, eVar_0, R.bind_ok, eC_x, bIx_lst f1 (i := 2) (d := .int q) rfl, bEq_int, R.toS_ok, decide_eq_false hq, sNil_x, SR.seq_nx]
    rw [if_neg (by decide)]
    obtain ⟨v, o, v0, v1, ev, B'⟩ := draw_tail (z := none) (w := none) h0 h1 ne hL f1 f2 hp
    refine ⟨v, o, v0, v1, ?_, ?_⟩
    · rw [List.set_set] at ev
      rw [SR.seq_nx, ev]
      rfl
    · rw [List.set_set] at B'
      exact B'
end
end Mi

set_option maxHeartbeats 1000000
/-! Mi, part Q: loops and list comprehensions by invariants; names, bags. -/
namespace Mi
open PySem L2
/-- one turn of a loop -/
def turn (g : GX) (b : SX) (x : D) : SX := fun ρ L h => (g x ρ L h).toS ρ fun ρ1 h1 => b ρ1 L h1
@[simp] theorem turn_var (i : Nat) (b : SX) (x : D) (ρ : Rho) (L : List Nat) (h : Hh) : turn (gVar i) b x ρ L h = b (ρ.set i (some x)) L h := rfl
/-- what a turn may come to -/
def TurnOk (P : Rho → Hh → Prop) (B : SR → Prop) (r : SR) : Prop := match r with
  | .nx ρ h => P ρ h
  | .cnt ρ h => P ρ h
  | .brk ρ h => B (.nx ρ h)
  | r => B r
section
variable {g : GX} {b : SX} {L : List Nat} {P : Nat → Rho → Hh → Prop} {B : SR → Prop}
theorem loopV_inv {xs : List D} (step : ∀ i x ρ h, xs[i]? = some x → P i ρ h → TurnOk (P (i + 1)) B (turn g b x ρ L h)) :
    ∀ (k i : Nat) (ρ : Rho) (h : Hh), xs.length - i = k → i ≤ xs.length → P i ρ h → (∃ ρ' h', loopV g b (xs.drop i) ρ L h = .nx ρ' h' ∧ P xs.length ρ' h') ∨ B (loopV g b (xs.drop i) ρ L h)
  | 0, i, ρ, h, e, hi, p => by
    have : i = xs.length := by omega
    subst this
    rw [List.drop_length]
    exact .inl ⟨ρ, h, rfl, p⟩
  | k + 1, i, ρ, h, e, hi, p => by
    have hl : i < xs.length := by omega
    rw [List.drop_eq_getElem_cons hl]
    have st := step i xs[i] ρ h (List.getElem?_eq_getElem hl) p
    unfold turn at st
    unfold loopV
    generalize (g xs[i] ρ L h).toS ρ (fun ρ1 h1 => b ρ1 L h1) = r at st
    cases r with
    | nx ρ2 h2 => exact loopV_inv step k (i + 1) ρ2 h2 (by omega) hl st
    | cnt ρ2 h2 => exact loopV_inv step k (i + 1) ρ2 h2 (by omega) hl st
    | brk ρ2 h2 => exact .inr st
    | ret d h2 => exact .inr st
    | exc c q ρ2 h2 => exact .inr st
    | bad => exact .inr st
theorem loopV_ok {xs : List D} {ρ : Rho} {h : Hh} (step : ∀ i x ρ h, xs[i]? = some x → P i ρ h → TurnOk (P (i + 1)) B (turn g b x ρ L h)) (p : P 0 ρ h) : (∃ ρ' h', loopV g b xs ρ L h = .nx ρ' h' ∧ P xs.length ρ' h') ∨ B (loopV g b xs ρ L h) :=
  loopV_inv step xs.length 0 ρ h (by omega) (Nat.zero_le _) p
theorem loopL_inv {xs : List D} {n : Nat} (hn : ∀ i ρ h, P i ρ h → h[n]? = some (.lst xs)) (step : ∀ i x ρ h, xs[i]? = some x → P i ρ h → TurnOk (P (i + 1)) B (turn g b x ρ L h)) :
    ∀ (f i : Nat) (ρ : Rho) (h : Hh), xs.length - i < f → i ≤ xs.length → P i ρ h → (∃ ρ' h', loopL g b n f i ρ L h = .nx ρ' h' ∧ P xs.length ρ' h') ∨ B (loopL g b n f i ρ L h)
  | 0, i, ρ, h, e, hi, p => by omega
  | f + 1, i, ρ, h, e, hi, p => by
    unfold loopL
    simp only [hn i ρ h p]
    by_cases hl : i < xs.length
    · have st := step i xs[i] ρ h (List.getElem?_eq_getElem hl) p
      unfold turn at st
      rw [List.getElem?_eq_getElem hl]
      simp only
      generalize (g xs[i] ρ L h).toS ρ (fun ρ1 h1 => b ρ1 L h1) = r at st
      cases r with
      | nx ρ2 h2 => exact loopL_inv hn step f (i + 1) ρ2 h2 (by omega) hl st
      | cnt ρ2 h2 => exact loopL_inv hn step f (i + 1) ρ2 h2 (by omega) hl st
      | brk ρ2 h2 => exact .inr st
      | ret d h2 => exact .inr st
      | exc c q ρ2 h2 => exact .inr st
      | bad => exact .inr st
    · have : i = xs.length := by omega
      subst this
      simp only [List.getElem?_eq_none (Nat.le_refl _)]
      exact .inl ⟨ρ, h, rfl, p⟩
theorem loopL_ok {xs : List D} {n : Nat} {ρ : Rho} {h : Hh} (hl : xs.length < 100000) (hn : ∀ i ρ h, P i ρ h → h[n]? = some (.lst xs)) (step : ∀ i x ρ h, xs[i]? = some x → P i ρ h → TurnOk (P (i + 1)) B (turn g b x ρ L h)) (p : P 0 ρ h) :
    (∃ ρ' h', loopL g b n fuel 0 ρ L h = .nx ρ' h' ∧ P xs.length ρ' h') ∨ B (loopL g b n fuel 0 ρ L h) := loopL_inv hn step fuel 0 ρ h (by unfold fuel; omega) (Nat.zero_le _) p
end
section
variable {g : GX} {tt : TX} {te : EX} {n : Nat} {ρ : Rho} {L : List Nat} {P : Nat → List D → Hh → Prop}
/-- one item of a comprehension -/
def ItemOk (g : GX) (tt : TX) (te : EX) (n : Nat) (ρ : Rho) (L : List Nat) (P : List D → Hh → Prop) (x : D) (acc : List D) (h : Hh) : Prop := ∃ ρ1 h1, g x ρ L h = .ok ρ1 h1 ∧ ((∃ h2, tt ρ1 L h1 = .ok false h2 ∧ P acc h2) ∨
  ∃ h2 y h3, tt ρ1 L h1 = .ok true h2 ∧ te ρ1 L h2 = .ok y h3 ∧ h3[n]? = some (.lst acc) ∧ acc.length < sizeLine ∧ P (acc ++ [y]) (h3.set n (.lst (acc ++ [y]))))
theorem compV_inv {xs : List D} (step : ∀ i x acc h, xs[i]? = some x → P i acc h → ItemOk g tt te n ρ L (P (i + 1)) x acc h) :
    ∀ (k i : Nat) (acc : List D) (h : Hh), xs.length - i = k → i ≤ xs.length → P i acc h → ∃ acc' h', compV g tt te n (xs.drop i) ρ L h = .ok (.ref n) h' ∧ P xs.length acc' h'
  | 0, i, acc, h, e, hi, p => by
    have : i = xs.length := by omega
    subst this
    rw [List.drop_length]
    exact ⟨acc, h, rfl, p⟩
  | k + 1, i, acc, h, e, hi, p => by
    have hl : i < xs.length := by omega
    rw [List.drop_eq_getElem_cons hl]
    obtain ⟨ρ1, h1, e1, ⟨h2, e2, p2⟩ | ⟨h2, y, h3, e2, e3, e4, e5, p2⟩⟩ := step i xs[i] acc h (List.getElem?_eq_getElem hl) p
    · unfold compV
      simp only [e1, R.noExc_ok, R.bind_ok, e2]
      exact compV_inv step k (i + 1) acc h2 (by omega) hl p2
    · unfold compV
      simp only [e1, R.noExc_ok, R.bind_ok, e2, if_true, e3, e4, if_pos e5]
      exact compV_inv step k (i + 1) (acc ++ [y]) _ (by omega) hl p2
theorem compV_ok {xs : List D} {acc : List D} {h : Hh} (step : ∀ i x acc h, xs[i]? = some x → P i acc h → ItemOk g tt te n ρ L (P (i + 1)) x acc h) (p : P 0 acc h) : ∃ acc' h', compV g tt te n xs ρ L h = .ok (.ref n) h' ∧ P xs.length acc' h' := compV_inv step xs.length 0 acc h (by omega) (Nat.zero_le _) p
theorem compL_inv {xs : List D} {k : Nat} (hk : ∀ i acc h, P i acc h → h[k]? = some (.lst xs)) (step : ∀ i x acc h, xs[i]? = some x → P i acc h → ItemOk g tt te n ρ L (P (i + 1)) x acc h) :
    ∀ (f i : Nat) (acc : List D) (h : Hh), xs.length - i < f → i ≤ xs.length → P i acc h → ∃ acc' h', compL g tt te n k f i ρ L h = .ok (.ref n) h' ∧ P xs.length acc' h'
  | 0, i, acc, h, e, hi, p => by omega
  | f + 1, i, acc, h, e, hi, p => by
    by_cases hl : i < xs.length
    · obtain ⟨ρ1, h1, e1, ⟨h2, e2, p2⟩ | ⟨h2, y, h3, e2, e3, e4, e5, p2⟩⟩ := step i xs[i] acc h (List.getElem?_eq_getElem hl) p
      · unfold compL
        rw [hk i acc h p]
        simp only [List.getElem?_eq_getElem hl, e1, R.noExc_ok, R.bind_ok, e2]
        exact compL_inv hk step f (i + 1) acc h2 (by omega) hl p2
      · unfold compL
        rw [hk i acc h p]
        simp only [List.getElem?_eq_getElem hl, e1, R.noExc_ok, R.bind_ok, e2, if_true, e3, e4, if_pos e5]
        exact compL_inv hk step f (i + 1) (acc ++ [y]) _ (by omega) hl p2
    · have : i = xs.length := by omega
      subst this
      unfold compL
      simp only [hk _ acc h p, List.getElem?_eq_none (Nat.le_refl _)]
      exact ⟨acc, h, rfl, p⟩
theorem compL_ok {xs : List D} {k : Nat} {acc : List D} {h : Hh} (hl : xs.length < 100000) (hk : ∀ i acc h, P i acc h → h[k]? = some (.lst xs)) (step : ∀ i x acc h, xs[i]? = some x → P i acc h → ItemOk g tt te n ρ L (P (i + 1)) x acc h) (p : P 0 acc h) :
    ∃ acc' h', compL g tt te n k fuel 0 ρ L h = .ok (.ref n) h' ∧ P xs.length acc' h' := compL_inv hk step fuel 0 acc h (by unfold fuel; omega) (Nat.zero_le _) p
end
/-! ### heaps that grow: everything but the bag stays -/
structure Ext (b : Nat) (h h' : Hh) : Prop where
  len : h.length ≤ h'.length
  get : ∀ n, n ≠ b → n < h.length → h'[n]? = h[n]?
theorem Ext.refl {b : Nat} {h : Hh} : Ext b h h := ⟨Nat.le_refl _, fun _ _ _ => rfl⟩
theorem Ext.trans {b : Nat} {h h1 h2 : Hh} (a : Ext b h h1) (c : Ext b h1 h2) : Ext b h h2 := ⟨Nat.le_trans a.len c.len, fun n h1 h2 => (c.get n h1 (Nat.lt_of_lt_of_le h2 a.len)).trans (a.get n h1 h2)⟩
theorem Ext.set {b : Nat} {h : Hh} {o : Ob} : Ext b h (h.set b o) := ⟨by rw [List.length_set]; exact Nat.le_refl _, fun n h1 _ => set_getN (Ne.symm h1)⟩
theorem Ext.app {b : Nat} {h : Hh} {os : List Ob} : Ext b h (h ++ os) := ⟨by rw [List.length_append]; omega, fun n _ h2 => List.getElem?_append_left h2⟩
/-- something new is changed -/
theorem Ext.put {b n : Nat} {h h1 : Hh} {o : Ob} (a : Ext b h h1) (hn : h.length ≤ n) : Ext b h (h1.set n o) := ⟨by rw [List.length_set]; exact a.len, fun k h2 h3 => by rw [List.getElem?_set_ne (by omega)]; exact a.get k h2 h3⟩
theorem Ext.at_ {b n : Nat} {h h1 : Hh} {o : Ob} (a : Ext b h h1) (hn : n ≠ b) (e : h[n]? = some o) : h1[n]? = some o := (a.get n hn (List.getElem?_eq_some_iff.mp e).1).trans e
theorem Bag.cell {h : Hh} {b c : Nat} (B : Bag h b c) : c < h.length := by
  obtain ⟨_, _, _, _, _, _, e, _⟩ := B.ex
  exact (List.getElem?_eq_some_iff.mp e).1
/-- a bag stays where nothing of it is changed -/
theorem Bag.keep {h h' : Hh} {b c : Nat} (B : Bag h b c) (e1 : h'[b]? = h[b]?) (e2 : h'[c]? = h[c]?) : Bag h' b c := by
  obtain ⟨ne, ns, p, q, n, s, f1, f2, hp⟩ := B
  exact ⟨ne, ns, p, q, n, s, e1.trans f1, e2.trans f2, hp⟩
theorem Bag.app {h : Hh} {b c : Nat} {os : List Ob} (B : Bag h b c) : Bag (h ++ os) b c := B.keep (List.getElem?_append_left B.lt) (List.getElem?_append_left B.cell)
theorem Bag.put {h : Hh} {b c n : Nat} {o : Ob} (B : Bag h b c) (h1 : n ≠ b) (h2 : n ≠ c) : Bag (h.set n o) b c := B.keep (set_getN h1) (set_getN h2)
/-- a drawing def's promise -/
def Draws (dr : FX) : Prop := ∀ (h : Hh) (b c : Nat) (L : List Nat) (many : Int), 0 < many → many < 18446744073709551616 → Bag h b c → b ∉ L → ∃ v h', 0 ≤ v ∧ v < many ∧ dr [.ref b, .int many] L h = .ok (.int v) h' ∧ Bag h' b c ∧ Ext b h h' ∧ h'.length = h.length
theorem draws_of {m : FX} (hm : ∀ a t L h, ∃ v, 0 ≤ v ∧ m [.int a, .int t] L h = .ok (.int v) h) : Draws (bodyX 4 (drawB m)) := fun h b c L many h0 h1 B hL => by
  obtain ⟨v, o, v0, v1, e, B'⟩ := draw_ok hm h0 h1 B hL
  exact ⟨v, _, v0, v1, e, B', Ext.set, List.length_set ..⟩
end Mi

set_option maxHeartbeats 1000000
/-! Mi, part R: names and bags. -/
namespace Mi
open PySem L2
/-- a name that a law draws -/
structure IsName (s : Str) : Prop where
  lo : 1 ≤ s.cps.size
  hi : s.cps.size ≤ 12
  az : ∀ c ∈ s.cps.toList, 97 ≤ c ∧ c ≤ 122
def nameB (dr : FX) : SX :=
  (sSeq (sAsg (eC (.str "abcdefghijklmnopqrstuvwxyz")) (gVar 2))
    (sSeq (sAsg (eBin bIx (eLst (aCons (eC (.int 1)) (aCons (eC (.int 2)) (aCons (eC (.int 3)) (aCons (eC (.int 4)) (aCons (eC (.int 2)) (aCons (eC (.int 3)) (aCons (eC (.int 8)) (aCons (eC (.int 12)) aNil))))))))) (eCall 2 dr (aCons (eVar 0) (aCons (eC (.int 8)) aNil)))) (gVar 3))
    (sSeq (sAsg (eJoin (eC (.str "")) (eCompR rng1 [6] (aCons (eVar 3) aNil) (gVar 6) tYesX (eBin bIx (eVar 2) (eCall 2 dr (aCons (eVar 0) (aCons (eC (.int 26)) aNil)))))) (gVar 4))
    (sSeq (sIf (tBl (eBin bNotIn (eVar 4) (eVar 1))) (sRet (eVar 4)) sNil)
    (sSeq (sFor (eVar 2) (gVar 5) (sIf (tBl (eBin bNotIn (eBin bAdd (eSl (eVar 4) oNo (oYes (eC (.int 11)))) (eVar 5)) (eVar 1))) (sRet (eBin bAdd (eSl (eVar 4) oNo (oYes (eC (.int 11)))) (eVar 5))) sNil))
    (sRet (eVar 4)))))))
theorem az_eq : ("abcdefghijklmnopqrstuvwxyz" : Str).cps.toList = (List.range 26).map fun i => 97 + i := by decide +kernel
theorem az_len : ("abcdefghijklmnopqrstuvwxyz" : Str).length = 26 := by decide +kernel
theorem atI_nat {α : Type} {xs : List α} {i : Int} {j : Nat} {x : α} (e : i = j) (h : xs[j]? = some x) : atI xs i = some x := by
  subst e
  have hl : j < xs.length := (List.getElem?_eq_some_iff.mp h).1
  unfold atI ixN
  rw [if_pos (by omega), if_pos (by omega)]
  show xs[(j : Int).toNat]? = _
  rw [Int.toNat_natCast]; exact h
theorem join0 (cs : List Nat) : Txt.join "" (cs.map fun c => (⟨#[c]⟩ : Str)) = ⟨cs.toArray⟩ := by
  rw [TL.join_eq]
  have e : ∀ cs : List Nat, TL.joinL [] (cs.map fun c => [c]) = cs := by
    intro cs
    induction cs with
    | nil => rfl
    | cons c r ih =>
      cases r with
      | nil => rfl
      | cons d r => show [c] ++ ([] ++ TL.joinL [] ((d :: r).map fun c => [c])) = _; rw [ih]; rfl
  have h := TL.tl_join "" (cs.map fun c => (⟨#[c]⟩ : Str))
  rw [List.map_map] at h
  have h2 : TL.tl (Str.join "" (cs.map fun c => (⟨#[c]⟩ : Str))) = cs := by
    rw [h]
    exact e cs
  have h3 : ∀ s : Str, TL.tl s = cs → s = ⟨cs.toArray⟩ := fun s hs => by
    obtain ⟨a⟩ := s
    congr 1
    exact Array.toList_inj.mp (by rw [← hs])
  exact h3 _ h2
theorem strsD_map (ss : List Str) : strsD (ss.map D.str) = some ss := by
  induction ss with
  | nil => rfl
  | cons s r ih => simp [strsD, ih]
/-- what stands in the list of names taken -/
theorem notIn_strs {t : Nat} {s : Str} {ts : List Str} {h : Hh} (e : h[t]? = some (.lst (ts.map D.str))) : bNotIn (.str s) (.ref t) h = .ok (.bl (!decide (s ∈ ts))) h := by
  have e1 : inD (.str s) (.ref t) h = some (decide (s ∈ ts)) := by
    unfold inD
    have e0 : dGet (.ref t) (.str s) h = none := by simp [dGet, e]
    rw [e0]
    have f : (ts.map D.str).all flatD = true := by simp [flatD]
    simp only [seqOf, lstOf, e, flatD, f, Bool.and_self, if_true]
    congr 1
    have g : ((ts.map D.str).any fun z => eqF z (.str s)) = decide (s ∈ ts) := by
      rw [List.any_map]
      by_cases hm : s ∈ ts
      · rw [decide_eq_true hm]
        exact List.any_eq_true.mpr ⟨s, hm, by simp [eqF]⟩
      · rw [decide_eq_false hm]
        exact List.any_eq_false.mpr fun x hx => by
          have : x ≠ s := fun z => hm (z ▸ hx)
          simp [eqF, this]
    exact g
  simp [bNotIn, e1]
theorem small62 (s : Nat) (hs : s < 4611686018427387904) : sm62 (s : Int) = true := by
  have e : (2 : Int) ^ 62 = 4611686018427387904 := by decide +kernel
  unfold sm62
  rw [e]
  exact decide_eq_true ⟨by omega, by omega⟩
theorem letter_at {v : Int} {h : Hh} (v0 : 0 ≤ v) (v1 : v < 26) : bIx (.str "abcdefghijklmnopqrstuvwxyz") (.int v) h = .ok (.str ⟨#[97 + v.toNat]⟩) h := by
  have ha : atI ("abcdefghijklmnopqrstuvwxyz" : Str).cps.toList v = some (97 + v.toNat) := by
    rw [az_eq]
    refine atI_nat (j := v.toNat) (by omega) ?_
    rw [List.getElem?_map, List.getElem?_range (by omega)]; rfl
  simp only [bIx, az_len, ha]
  rw [if_pos (by decide)]
theorem lt_size {n : Nat} (h : n ≤ 1000) : n < sizeLine := Nat.lt_of_le_of_lt h (by decide)
theorem join_small (cs : List Nat) (h : cs.length ≤ 16777216) : ((cs.map fun x => (⟨#[x]⟩ : Str)).map (·.length)).sum + (cs.map fun x => (⟨#[x]⟩ : Str)).length * ("" : Str).length ≤ 16777216 := by
  have z : ("" : Str).length = 0 := by decide +kernel
  have q : ∀ cs : List Nat, ((cs.map fun x => (⟨#[x]⟩ : Str)).map (·.length)).sum = cs.length := fun cs => by
    induction cs with
    | nil => rfl
    | cons x r ih =>
      rw [List.map_cons, List.map_cons, List.sum_cons, ih, List.length_cons]
      exact Nat.add_comm 1 _
  rw [z, Nat.mul_zero, Nat.add_zero, q cs]
  exact h
theorem eJoin_ok {o a : EX} {ρ : Rho} {L : List Nat} {h h1 h2 : Hh} {s : Str} {y : D} {ss : List Str} (e1 : o ρ L h = .ok (.str s) h1) (e2 : a ρ L h1 = .ok y h2) (e3 : (seqOf y h2).bind strsD = some ss) (e4 : (ss.map (·.length)).sum + ss.length * s.length ≤ 16777216) : eJoin o a ρ L h = .ok (.str (Txt.join s ss)) h2 := by
  unfold eJoin
  rw [e1, R.bind_ok]
  simp only
  rw [e2, R.bind_ok, e3]
  simp only
  rw [if_pos e4]
theorem eCompR_ok {w : List D → Option (List D)} {own : List Nat} {a : AX} {g : GX} {tt : TX} {te : EX} {ρ : Rho} {L : List Nat} {h h1 : Hh} {xs ys : List D} (e1 : a ρ L h = .ok xs h1) (e2 : w xs = some ys) : eCompR w own a g tt te ρ L h = (compV g tt te h1.length ys (wipeR ρ own) L (h1 ++ [.lst []])).noExc := by
  unfold eCompR
  rw [e1, R.bind_ok, e2]
theorem eComp_ok {own : List Nat} {a : EX} {g : GX} {tt : TX} {te : EX} {ρ : Rho} {L : List Nat} {h h1 : Hh} {x : D} (e1 : a ρ L h = .ok x h1) : eComp own a g tt te ρ L h = (compD g tt te x (wipeR ρ own) L h1).noExc := by
  unfold eComp
  rw [e1, R.bind_ok]
def LetOk (c : Nat) : Prop := 97 ≤ c ∧ c ≤ 122
/-- the letters drawn -/
theorem letters_ok {dr : FX} (hd : Draws dr) {h : Hh} {b c : Nat} {L : List Nat} {x1 x3 x4 x5 x6 : Option D} (B : Bag h b c) (hL : b ∉ L) (s : Nat) (hs : s ≤ 12) :
    ∃ (cs : List Nat) (h' : Hh), (eJoin (eC (.str "")) (eCompR rng1 [6] (aCons (eVar 3) aNil) (gVar 6) tYesX (eBin bIx (eVar 2) (eCall 2 dr (aCons (eVar 0) (aCons (eC (.int 26)) aNil)))))) [some (.ref b), x1, some (.str "abcdefghijklmnopqrstuvwxyz"), some (.int s), x4, x5, x6] L h = .ok (.str ⟨cs.toArray⟩) h' ∧ cs.length = s ∧ (∀ x ∈ cs, LetOk x) ∧ Bag h' b c ∧ Ext b h h' := by
  have hr : rng1 [.int (s : Int)] = some (rngD 0 s) := by
    have := small62 s (by omega)
    simp [rng1, this]
  have hlen : (rngD 0 (s : Int)).length = s := by simp [rngD]
  let P : Nat → List D → Hh → Prop := fun i acc h1 => Bag h1 b c ∧ Ext b h h1 ∧ h1[h.length]? = some (.lst acc) ∧ ∃ cs : List Nat, acc = cs.map (fun x => D.str ⟨#[x]⟩) ∧ cs.length = i ∧ ∀ x ∈ cs, LetOk x
  have nb : h.length ≠ b := by have := B.lt; omega
  have nc : h.length ≠ c := by have := B.cell; omega
  have C := compV_ok (g := gVar 6) (tt := tYesX) (te := eBin bIx (eVar 2) (eCall 2 dr (aCons (eVar 0) (aCons (eC (.int 26)) aNil)))) (n := h.length) (ρ := [some (.ref b), x1, some (.str "abcdefghijklmnopqrstuvwxyz"), some (.int s), x4, x5, none]) (L := L) (P := P) (xs := rngD 0 s) (acc := []) (h := h ++ [.lst []])
    (fun i x acc h1 hx ⟨B1, E1, e1, cs, ea, el, ec⟩ => by
      obtain ⟨v, h2, v0, v1, ev, B2, E2, l2⟩ := hd h1 b c L 26 (by decide) (by decide) B1 hL
      refine ⟨_, h1, rfl, .inr ⟨h1, .str ⟨#[97 + v.toNat]⟩, h2, rfl, ?_, ?_, ?_, ?_⟩⟩
      · simp [ev, letter_at v0 v1]
      · exact E2.at_ nb e1
      · rw [ea, List.length_map, el]
        have : i < s := by
          have := (List.getElem?_eq_some_iff.mp hx).1
          rw [hlen] at this; exact this
        exact lt_size (by omega)
      · refine ⟨B2.put nb nc, (E1.trans E2).put (Nat.le_refl _), ?_, cs ++ [97 + v.toNat], by simp [ea], by simp [el], fun x hx => ?_⟩
        · refine set_get ?_
          have := (List.getElem?_eq_some_iff.mp e1).1
          omega
        · rcases List.mem_append.mp hx with hx | hx
          · exact ec x hx
          · rw [List.mem_singleton.mp hx]; exact ⟨by omega, by omega⟩)
    ⟨B.app, Ext.app, by simp, [], rfl, rfl, fun x hx => by simp at hx⟩
  obtain ⟨acc, h', e', B', E', e2, cs, ea, el, ec⟩ := C
  refine ⟨cs, h', ?_, by rw [el, hlen], ec, B', E'⟩
  have ess : (acc : List D) = (cs.map fun x => (⟨#[x]⟩ : Str)).map D.str := by rw [ea, List.map_map]; rfl
  have hsd : (seqOf (.ref h.length) h').bind strsD = some (cs.map fun x => (⟨#[x]⟩ : Str)) := by
    simp only [seqOf, lstOf, e2, Option.bind_some]
    rw [ess, strsD_map]
  have e1 := eCompR_ok (w := rng1) (own := [6]) (g := gVar 6) (tt := tYesX) (te := eBin bIx (eVar 2) (eCall 2 dr (aCons (eVar 0) (aCons (eC (.int 26)) aNil)))) (a := aCons (eVar 3) aNil) (ρ := [some (D.ref b), x1, some (D.str "abcdefghijklmnopqrstuvwxyz"), some (D.int s), x4, x5, x6]) (L := L) (h := h) rfl hr
  have ew : wipeR [some (D.ref b), x1, some (D.str "abcdefghijklmnopqrstuvwxyz"), some (D.int s), x4, x5, x6] [6] = [some (D.ref b), x1, some (D.str "abcdefghijklmnopqrstuvwxyz"), some (D.int s), x4, x5, none] := rfl
  rw [ew, e', R.noExc_ok] at e1
  have e3 := eJoin_ok (o := eC (.str "")) rfl e1 hsd (join_small cs (by omega))
  rw [join0] at e3
  exact e3
end Mi

set_option maxHeartbeats 1000000
/-! Mi, part S: a drawn name; the bag. -/
namespace Mi
open PySem L2
theorem str_ext {a b : Str} (h : a.cps.toList = b.cps.toList) : a = b := by
  obtain ⟨x⟩ := a
  obtain ⟨y⟩ := b
  congr 1
  exact Array.toList_inj.mp h
/-- the name cut, another letter behind -/
def cut11 (z : Str) (c : Nat) : Str := ⟨(z.cps.toList.take 11 ++ [c]).toArray⟩
theorem cut11_eq (z : Str) (c : Nat) : cutS z none (some 11) ++ (⟨#[c]⟩ : Str) = cut11 z c := by
  apply str_ext
  show (((z.cps.toList.drop 0).take (HT.sIx z.length z.length (some 11) - 0)).toArray ++ #[c]).toList = _
  have e : HT.sIx z.length z.length (some 11) = min 11 z.length := HT.sIx_nat _ _ 11
  rw [e, Array.toList_append, List.drop_zero, Nat.sub_zero]
  show z.cps.toList.take (min 11 z.length) ++ [c] = _
  unfold cut11
  have e2 : z.cps.toList.take (min 11 z.length) = z.cps.toList.take 11 := by
    have hl : z.cps.toList.length = z.length := Array.length_toList
    by_cases h : 11 ≤ z.length
    · rw [Nat.min_eq_left h]
    · rw [Nat.min_eq_right (by omega), List.take_of_length_le (by omega), List.take_of_length_le (by omega)]
  rw [e2]
theorem cut11_name {z : Str} {c : Nat} (hz : IsName z) (hc : LetOk c) : IsName (cut11 z c) := by
  have hl : z.cps.toList.length = z.cps.size := Array.length_toList
  have h1 := hz.lo
  refine ⟨?_, ?_, fun x hx => ?_⟩
  · show 1 ≤ (z.cps.toList.take 11 ++ [c]).length
    rw [List.length_append]; exact Nat.le_add_left _ _
  · show (z.cps.toList.take 11 ++ [c]).length ≤ 12
    rw [List.length_append, List.length_take]
    show min 11 _ + 1 ≤ 12
    omega
  · rcases List.mem_append.mp (show x ∈ z.cps.toList.take 11 ++ [c] from hx) with h | h
    · exact hz.az x (List.mem_of_mem_take h)
    · rw [List.mem_singleton.mp h]; exact hc
theorem cut11_inj {z : Str} {c d : Nat} (h : cut11 z c = cut11 z d) : c = d := by
  have e : z.cps.toList.take 11 ++ [c] = z.cps.toList.take 11 ++ [d] := by
    have := congrArg (fun s : Str => s.cps.toList) h
    exact this
  exact List.cons.inj (List.append_cancel_left e) |>.1
theorem IsName.len {s : Str} (h : IsName s) : s.length ≤ 12 := h.hi
/-- names[:11] + letter by the program -/
theorem cut_step {z : Str} {c : Nat} {h : Hh} {L : List Nat} {x0 x1 x2 x3 x6 : Option D} (hz : IsName z) :
    (eBin bAdd (eSl (eVar 4) oNo (oYes (eC (.int 11)))) (eVar 5)) [x0, x1, x2, x3, some (.str z), some (.str ⟨#[c]⟩), x6] L h = .ok (.str (cut11 z c)) h := by
  have hl : z.length ≤ sizeLine := Nat.le_trans hz.hi (by decide)
  have e1 : slD (.str z) none (some 11) h = .ok (.str (cutS z none (some 11))) h := by
    simp only [slD]
    rw [if_pos hl]
  have e2 : (cutS z none (some 11)).length + (⟨#[c]⟩ : Str).length ≤ sizeLine := by
    have e3 : (cutS z none (some 11) ++ (⟨#[c]⟩ : Str)).length = (cutS z none (some 11)).length + (⟨#[c]⟩ : Str).length := Array.size_append
    rw [← e3, cut11_eq]
    show (z.cps.toList.take 11 ++ [c]).length ≤ _
    rw [List.length_append, List.length_take]
    exact Nat.le_trans (Nat.add_le_add_right (Nat.min_le_left _ _) 1) (by decide)
  simp only [eBin_x, eSl_x, eVar_4, eVar_3, eVar_2, eVar_1, eVar_0, R.bind_ok, oNo_x, oYes_x, eC_x, e1, eVar_5]
  simp only [bAdd]
  rw [if_pos e2, cut11_eq]
/-- a naming def's promise -/
def Names (nm : FX) : Prop := ∀ (h : Hh) (b c : Nat) (L : List Nat) (t : Nat) (ts : List Str), Bag h b c → b ∉ L → t ≠ b → h[t]? = some (.lst (ts.map D.str)) → ∃ s h', nm [.ref b, .ref t] L h = .ok (.str s) h' ∧ IsName s ∧ (ts.length < 26 → s ∉ ts) ∧ Bag h' b c ∧ Ext b h h'
theorem sizes_ok {v : Int} (v0 : 0 ≤ v) (v1 : v < 8) : ∃ s : Nat, atI [D.int 1, .int 2, .int 3, .int 4, .int 2, .int 3, .int 8, .int 12] v = some (.int s) ∧ 1 ≤ s ∧ s ≤ 12 := by
  have e : v = 0 ∨ v = 1 ∨ v = 2 ∨ v = 3 ∨ v = 4 ∨ v = 5 ∨ v = 6 ∨ v = 7 := by omega
  rcases e with rfl | rfl | rfl | rfl | rfl | rfl | rfl | rfl
  · exact ⟨1, rfl, by decide, by decide⟩
  · exact ⟨2, rfl, by decide, by decide⟩
  · exact ⟨3, rfl, by decide, by decide⟩
  · exact ⟨4, rfl, by decide, by decide⟩
  · exact ⟨2, rfl, by decide, by decide⟩
  · exact ⟨3, rfl, by decide, by decide⟩
  · exact ⟨8, rfl, by decide, by decide⟩
  · exact ⟨12, rfl, by decide, by decide⟩
/-- the size drawn -/
theorem size_step {dr : FX} (hd : Draws dr) {h : Hh} {b c : Nat} {L : List Nat} {r : Rho} (B : Bag h b c) (hL : b ∉ L) :
    ∃ (s : Nat) (h' : Hh), (eBin bIx (eLst (aCons (eC (.int 1)) (aCons (eC (.int 2)) (aCons (eC (.int 3)) (aCons (eC (.int 4)) (aCons (eC (.int 2)) (aCons (eC (.int 3)) (aCons (eC (.int 8)) (aCons (eC (.int 12)) aNil))))))))) (eCall 2 dr (aCons (eVar 0) (aCons (eC (.int 8)) aNil)))) (some (.ref b) :: r) L h = .ok (.int s) h' ∧ 1 ≤ s ∧ s ≤ 12 ∧ Bag h' b c ∧ Ext b h h' := by
  obtain ⟨v, h2, v0, v1, ev, B2, E2, _⟩ := hd (h ++ [.lst [.int 1, .int 2, .int 3, .int 4, .int 2, .int 3, .int 8, .int 12]]) b c L 8 (by decide) (by decide) B.app hL
  obtain ⟨s, hs, s1, s2⟩ := sizes_ok v0 v1
  have nb : h.length ≠ b := by have := B.lt; omega
  have e1 : h2[h.length]? = some (.lst [.int 1, .int 2, .int 3, .int 4, .int 2, .int 3, .int 8, .int 12]) := E2.at_ nb (by simp)
  refine ⟨s, h2, ?_, s1, s2, B2, Ext.app.trans E2⟩
  have k : ([D.int 1, .int 2, .int 3, .int 4, .int 2, .int 3, .int 8, .int 12] : List D).length ≤ sizeLine := by decide
  simp only [eBin_x, eLst_x, aCons_x, aNil_x, eC_x, R.bind_ok, if_pos k, eCall_x, eVar_0, ev]
  simp only [List.length_cons, List.length_nil, if_true, R.bind_ok, bIx_lst e1 hs]
theorem name_ok {dr : FX} (hd : Draws dr) : Names (bodyX 7 (nameB dr)) := by
  intro h b c L t ts B hL tb et
  have r0 : bodyX 7 (nameB dr) [.ref b, .ref t] L h = (nameB dr [some (.ref b), some (.ref t), none, none, none, none, none] L h).fin := rfl
  rw [r0]
  obtain ⟨s, h1, e1, s1, s2, B1, E1⟩ := size_step (r := [some (.ref t), some (.str "abcdefghijklmnopqrstuvwxyz"), none, none, none, none]) hd B hL
  obtain ⟨cs, h2, e2, l2, a2, B2, E2⟩ := letters_ok (x1 := some (.ref t)) (x3 := some (.int s)) (x4 := none) (x5 := none) (x6 := none) hd B1 hL s s2
  have et2 : h2[t]? = some (.lst (ts.map D.str)) := (E1.trans E2).at_ tb et
  have nm : IsName ⟨cs.toArray⟩ := ⟨by show 1 ≤ cs.length; omega, by show cs.length ≤ 12; omega, fun x hx => a2 x hx⟩
  unfold nameB
  rw [sSeq_x, sAsg_x, eC_x, R.toS_ok, SR.seq_nx, sSeq_x, sAsg_x]
  have w1 : ([some (.ref b), some (.ref t), none, none, none, none, none] : Rho).set 2 (some (.str "abcdefghijklmnopqrstuvwxyz")) = [some (.ref b), some (.ref t), some (.str "abcdefghijklmnopqrstuvwxyz"), none, none, none, none] := rfl
  rw [w1, e1, R.toS_ok, SR.seq_nx, sSeq_x, sAsg_x]
  have w2 : ([some (.ref b), some (.ref t), some (.str "abcdefghijklmnopqrstuvwxyz"), none, none, none, none] : Rho).set 3 (some (.int s)) = [some (.ref b), some (.ref t), some (.str "abcdefghijklmnopqrstuvwxyz"), some (.int s), none, none, none] := rfl
  rw [w2, e2, R.toS_ok, SR.seq_nx, sSeq_x, sIf_x]
  have w3 : ([some (.ref b), some (.ref t), some (.str "abcdefghijklmnopqrstuvwxyz"), some (.int s), none, none, none] : Rho).set 4 (some (.str ⟨cs.toArray⟩)) = [some (.ref b), some (.ref t), some (.str "abcdefghijklmnopqrstuvwxyz"), some (.int s), some (.str ⟨cs.toArray⟩), none, none] := rfl
  rw [w3]
  simp only [tBl_x, eBin_x, eVar_4, eVar_3, eVar_2, eVar_1, eVar_0, R.bind_ok, notIn_strs et2, R.toS_ok]
  by_cases hm : (⟨cs.toArray⟩ : Str) ∈ ts
  · rw [decide_eq_true hm]
    simp only [Bool.not_true, Bool.false_eq_true, if_false, sNil_x, SR.seq_nx]
    rw [sSeq_x]
    unfold sFor
    simp only [eVar_2, eVar_1, eVar_0, R.toS_ok, forD]
    have st : ∀ i x ρ h', (strsOf "abcdefghijklmnopqrstuvwxyz")[i]? = some x → (h' = h2 ∧ (∃ x5, ρ = [some (.ref b), some (.ref t), some (.str "abcdefghijklmnopqrstuvwxyz"), some (.int s), some (.str ⟨cs.toArray⟩), x5, none]) ∧ ∀ j, j < i → cut11 ⟨cs.toArray⟩ (97 + j) ∈ ts) →
        TurnOk (fun ρ h' => h' = h2 ∧ (∃ x5, ρ = [some (.ref b), some (.ref t), some (.str "abcdefghijklmnopqrstuvwxyz"), some (.int s), some (.str ⟨cs.toArray⟩), x5, none]) ∧ ∀ j, j < i + 1 → cut11 ⟨cs.toArray⟩ (97 + j) ∈ ts) (fun r => ∃ z, r = .ret (.str z) h2 ∧ IsName z ∧ z ∉ ts)
          (turn (gVar 5) (sIf (tBl (eBin bNotIn (eBin bAdd (eSl (eVar 4) oNo (oYes (eC (.int 11)))) (eVar 5)) (eVar 1))) (sRet (eBin bAdd (eSl (eVar 4) oNo (oYes (eC (.int 11)))) (eVar 5))) sNil) x ρ L h') := by
      intro i x ρ h' hx ⟨eh, ⟨x5, er⟩, hj⟩
      subst eh er
      have hi : i < 26 := by
        have := (List.getElem?_eq_some_iff.mp hx).1
        unfold strsOf at this
        rw [List.length_map, az_eq] at this
        simpa using this
      have ex : x = .str ⟨#[97 + i]⟩ := by
        unfold strsOf at hx
        rw [az_eq, List.getElem?_map, List.getElem?_map, List.getElem?_range hi] at hx
        exact (Option.some.inj hx).symm
      subst ex
      rw [turn_var, sIf_x, tBl_x]
      have w5 : ([some (.ref b), some (.ref t), some (.str "abcdefghijklmnopqrstuvwxyz"), some (.int s), some (.str ⟨cs.toArray⟩), x5, none] : Rho).set 5 (some (.str ⟨#[97 + i]⟩)) = [some (.ref b), some (.ref t), some (.str "abcdefghijklmnopqrstuvwxyz"), some (.int s), some (.str ⟨cs.toArray⟩), some (.str ⟨#[97 + i]⟩), none] := rfl
      rw [w5, eBin_x, cut_step nm]
      simp only [R.bind_ok, eVar_1, eVar_0, notIn_strs et2, R.toS_ok]
      by_cases hc : cut11 ⟨cs.toArray⟩ (97 + i) ∈ ts
      · rw [decide_eq_true hc]
        refine ⟨rfl, ⟨_, rfl⟩, fun j h3 => ?_⟩
        rcases Nat.lt_or_eq_of_le (Nat.le_of_lt_succ h3) with h4 | h4
        · exact hj j h4
        · rw [h4]; exact hc
      · rw [decide_eq_false hc]
        simp only [Bool.not_false, if_true]
        rw [sRet_x, cut_step nm]
        exact ⟨_, rfl, cut11_name nm ⟨by omega, by omega⟩, hc⟩
    have C := loopV_ok (P := fun i ρ h' => h' = h2 ∧ (∃ x5, ρ = [some (.ref b), some (.ref t), some (.str "abcdefghijklmnopqrstuvwxyz"), some (.int s), some (.str ⟨cs.toArray⟩), x5, none]) ∧ ∀ j, j < i → cut11 ⟨cs.toArray⟩ (97 + j) ∈ ts) (L := L) st ⟨rfl, ⟨none, rfl⟩, fun j hj => by omega⟩
    rcases C with ⟨ρ', h', ec, eh, ⟨x5, er⟩, hall⟩ | ⟨z, ez, hz1, hz2⟩
    · subst eh er
      rw [ec, SR.seq_nx, sRet_x]
      refine ⟨_, _, rfl, nm, fun hlt => ?_, B2, E1.trans E2⟩
      exfalso
      have hn : ((List.range 26).map fun j => cut11 ⟨cs.toArray⟩ (97 + j)).Nodup := by
        refine List.pairwise_map.mpr (List.Pairwise.imp ?_ (List.nodup_range (n := 26)))
        intro a b hab e
        have := cut11_inj e
        omega
      have hs : ((List.range 26).map fun j => cut11 ⟨cs.toArray⟩ (97 + j)) ⊆ ts := fun x hx => by
        obtain ⟨j, hj, e⟩ := List.mem_map.mp hx
        rw [← e]
        refine hall j ?_
        unfold strsOf
        rw [List.length_map, az_eq]
        simpa using hj
      have := hn.length_le_of_subset hs
      simp at this
      omega
    · rw [ez]
      exact ⟨z, _, rfl, hz1, fun _ => hz2, B2, E1.trans E2⟩
  · rw [decide_eq_false hm]
    simp only [Bool.not_false, if_true, sRet_x, eVar_4, eVar_3, eVar_2, eVar_1, eVar_0, R.toS_ok, SR.seq_ret]
    exact ⟨_, _, rfl, nm, fun _ => hm, B2, E1.trans E2⟩
end Mi

set_option maxHeartbeats 1000000
/-! Mi, part T: the bag. -/
namespace Mi
open PySem L2
def bagB : SX :=
  (sSeq (sAsg (eC (.int 5)) (gVar 1))
    (sSeq (sFor (eSl (eVar 0) oNo (oYes (eC (.int 63)))) (gVar 2) (sAsg (eBin bMod (eCB fInt (aCons (eBin bAdd (eBin bAdd (eBin bMul (eVar 1) (eC (.int 31))) (eBin bMod (eCB fInt (aCons (eVar 2) aNil)) (eC (.int 2147483629)))) (eC (.int 7))) aNil)) (eC (.int 2147483629))) (gVar 1)))
    (sRet (eLst (aCons (eComp [2] (eSl (eVar 0) oNo (oYes (eC (.int 63)))) (gVar 2) tYesX (eCB fInt (aCons (eVar 2) aNil))) (aCons (eC (.int 0)) (aCons (eC (.int 0)) (aCons (eC (.int 0)) (aCons (eVar 1) aNil)))))))))
theorem cutD_map {α β : Type} (f : α → β) (xs : List α) (lo hi : Option Int) : cutD (xs.map f) lo hi = (cutD xs lo hi).map f := by
  unfold cutD
  rw [List.length_map, List.map_take, List.map_drop]
theorem cut_frl {ns : List Int} {r : Rho} {L : List Nat} {h : Hh} : eSl (eVar 0) oNo (oYes (eC (.int 63))) (some (.frl (ns.map D.int)) :: r) L h = .ok (.ref h.length) (h ++ [.lst ((cutD ns none (some 63)).map D.int)]) := by
  simp only [eSl_x, eVar_0, R.bind_ok, oNo_x, oYes_x, eC_x, slD, lstOf, new]
  rw [cutD_map]
theorem cut_len (ns : List Int) : (cutD ns none (some 63)).length ≤ 63 := by
  have e : HT.sIx ns.length ns.length (some 63) = min 63 ns.length := HT.sIx_nat _ _ 63
  unfold cutD
  rw [List.length_take, e]
  show min (min 63 ns.length - 0) _ ≤ 63
  omega
theorem bag_ok (ns : List Int) (L : List Nat) : ∃ h, bodyX 3 bagB [.frl (ns.map D.int)] L [] = .ok (.ref 3) h ∧ Bag h 3 2 ∧ h.length = 4 := by
  have r0 : bodyX 3 bagB [.frl (ns.map D.int)] L [] = (bagB [some (.frl (ns.map D.int)), none, none] L []).fin := rfl
  rw [r0]
  generalize hm : cutD ns none (some 63) = ms
  have hl : ms.length ≤ 63 := hm ▸ cut_len ns
  unfold bagB
  rw [sSeq_x, sAsg_x, eC_x, R.toS_ok, SR.seq_nx, sSeq_x]
  unfold sFor
  have w1 : ([some (.frl (ns.map D.int)), none, none] : Rho).set 1 (some (.int 5)) = [some (.frl (ns.map D.int)), some (.int 5), none] := rfl
  rw [w1, cut_frl, hm, R.toS_ok]
  simp only [forD, List.nil_append, List.length_nil]
  have C := loopL_ok (g := gVar 2) (b := sAsg (eBin bMod (eCB fInt (aCons (eBin bAdd (eBin bAdd (eBin bMul (eVar 1) (eC (.int 31))) (eBin bMod (eCB fInt (aCons (eVar 2) aNil)) (eC (.int 2147483629)))) (eC (.int 7))) aNil)) (eC (.int 2147483629))) (gVar 1)) (L := L)
    (P := fun _ ρ h => h = [.lst (ms.map D.int)] ∧ ∃ (s : Int) (x : Option D), ρ = [some (.frl (ns.map D.int)), some (.int s), x]) (B := fun _ => False) (xs := ms.map D.int) (n := 0) (ρ := [some (.frl (ns.map D.int)), some (.int 5), none]) (h := [.lst (ms.map D.int)]) (by rw [List.length_map]; omega)
    (fun i ρ h ⟨e, _⟩ => by rw [e]; rfl)
    (fun i x ρ h hx ⟨e, s, y, er⟩ => by
      subst e er
      obtain ⟨z, rfl⟩ : ∃ z, x = D.int z := by
        rw [List.getElem?_map] at hx
        cases e2 : ms[i]? with
        | none => rw [e2] at hx; cases hx
        | some z => rw [e2] at hx; exact ⟨z, (Option.some.inj hx).symm⟩
      rw [turn_var]
      have e3 : ∀ r : Rho, r = [some (.frl (ns.map D.int)), some (.int s), some (.int z)] → ∃ v : Int, (sAsg (eBin bMod (eCB fInt (aCons (eBin bAdd (eBin bAdd (eBin bMul (eVar 1) (eC (.int 31))) (eBin bMod (eCB fInt (aCons (eVar 2) aNil)) (eC (.int 2147483629)))) (eC (.int 7))) aNil)) (eC (.int 2147483629))) (gVar 1)) r L [.lst (ms.map D.int)] = .nx (r.set 1 (some (.int v))) [.lst (ms.map D.int)] := fun r hr => by
        subst hr
        simp [bMul_r _ (j := 31) (by decide), bMod_x _ (j := 2147483629) (by decide)]
      obtain ⟨v, ev⟩ := e3 _ rfl
      exact (congrArg (TurnOk _ _) ev).mpr ⟨rfl, v, _, rfl⟩)
    ⟨rfl, 5, none, rfl⟩
  rcases C with ⟨ρ', h', ec, eh, s, x, er⟩ | C
  · subst eh er
    rw [ec, SR.seq_nx, sRet_x, eLst_x, aCons_x]
    have ecomp := eComp_ok (own := [2]) (g := gVar 2) (tt := tYesX) (te := eCB fInt (aCons (eVar 2) aNil)) (cut_frl (ns := ns) (r := [some (.int s), x]) (L := L) (h := [.lst (ms.map D.int)]))
    rw [hm] at ecomp
    have w2 : wipeR [some (.frl (ns.map D.int)), some (.int s), x] [2] = [some (.frl (ns.map D.int)), some (.int s), none] := rfl
    rw [w2] at ecomp
    have D2 := compL_ok (g := gVar 2) (tt := tYesX) (te := eCB fInt (aCons (eVar 2) aNil)) (n := 2) (k := 1) (ρ := [some (.frl (ns.map D.int)), some (.int s), none]) (L := L) (xs := ms.map D.int) (acc := []) (h := [.lst (ms.map D.int), .lst (ms.map D.int), .lst []])
      (P := fun i acc h => h = [.lst (ms.map D.int), .lst (ms.map D.int), .lst acc] ∧ acc.length = i ∧ ∃ is : List Int, acc = is.map D.int) (by rw [List.length_map]; omega)
      (fun i acc h ⟨e, _⟩ => by rw [e]; rfl)
      (fun i y acc h hx ⟨e, el, is, ea⟩ => by
        subst e ea
        have hi := (List.getElem?_eq_some_iff.mp hx).1
        rw [List.length_map] at hi
        obtain ⟨z, rfl⟩ : ∃ z, y = D.int z := by
          rw [List.getElem?_map] at hx
          cases e2 : ms[i]? with
          | none => rw [e2] at hx; cases hx
          | some z => rw [e2] at hx; exact ⟨z, (Option.some.inj hx).symm⟩
        refine ⟨_, _, rfl, .inr ⟨_, .int z, _, rfl, rfl, rfl, ?_, rfl, ?_, is ++ [z], by simp⟩⟩
        · rw [el]; exact lt_size (by omega)
        · rw [List.length_append, el]; rfl)
      ⟨rfl, rfl, [], rfl⟩
    obtain ⟨acc, h', e5, e6, _, is, ea⟩ := D2
    subst e6 ea
    have e7 : eComp [2] (eSl (eVar 0) oNo (oYes (eC (.int 63)))) (gVar 2) tYesX (eCB fInt (aCons (eVar 2) aNil)) [some (.frl (ns.map D.int)), some (.int s), x] L [.lst (ms.map D.int)] = .ok (.ref 2) [.lst (ms.map D.int), .lst (ms.map D.int), .lst (is.map D.int)] := by
      rw [ecomp]
      exact congrArg R.noExc e5
    rw [e7]
    refine ⟨_, rfl, ⟨by decide, is, 0, 0, 0, s, rfl, rfl, Int.le_refl _⟩, rfl⟩
  · exact C.elim
end Mi

namespace Gx_k07
open Mi PySem PySem.Spec PyProof.Rows L2
/-- _law_bag -/
def b0 (r : Nat → FX) : SX :=
  (sSeq (sAsg (eC (.int 5)) (gVar 1))
    (sSeq (sFor (eSl (eVar 0) oNo (oYes (eC (.int 63)))) (gVar 2) (sAsg (eBin bMod (eCB fInt (aCons (eBin bAdd (eBin bAdd (eBin bMul (eVar 1) (eC (.int 31))) (eBin bMod (eCB fInt (aCons (eVar 2) aNil)) (eC (.int 2147483629)))) (eC (.int 7))) aNil)) (eC (.int 2147483629))) (gVar 1)))
    (sRet (eLst (aCons (eComp [2] (eSl (eVar 0) oNo (oYes (eC (.int 63)))) (gVar 2) tYesX (eCB fInt (aCons (eVar 2) aNil))) (aCons (eC (.int 0)) (aCons (eC (.int 0)) (aCons (eC (.int 0)) (aCons (eVar 1) aNil)))))))))
/-- _law_mixed -/
def b1 (r : Nat → FX) : SX :=
  (sSeq (sAsg (eBin bMod (eCB fInt (aCons (eBin bMul (eBin bAdd (eBin bAdd (eBin bMod (eCB fInt (aCons (eVar 0) aNil)) (eC (.int 2147483647))) (eBin bMul (eC (.int 7919)) (eVar 1))) (eC (.int 1))) (eC (.int 48271))) aNil)) (eC (.int 2147483647))) (gVar 2))
    (sSeq (sAsg (eBin bMod (eCB fInt (aCons (eBin bMul (eVar 2) (eBin bAdd (eBin bDiv (eVar 2) (eC (.int 1009))) (eC (.int 69621)))) aNil)) (eC (.int 2147483647))) (gVar 3))
    (sSeq (sAsg (eBin bMod (eCB fInt (aCons (eBin bMul (eVar 3) (eBin bAdd (eBin bDiv (eVar 3) (eC (.int 2003))) (eC (.int 40692)))) aNil)) (eC (.int 2147483399))) (gVar 4))
    (sRet (eBin bDiv (eVar 4) (eC (.int 16)))))))
/-- _law_draw -/
def b2 (r : Nat → FX) : SX :=
  (sSeq (sPut (eVar 0) (eC (.int 3)) (eBin bAdd (eBin bIx (eVar 0) (eC (.int 3))) (eC (.int 1))))
    (sSeq (sIf (tBl (eBin bEq (eBin bIx (eVar 0) (eC (.int 2))) (eC (.int 0)))) (sSeq (sIf (tBl (eBin bGe (eBin bIx (eVar 0) (eC (.int 1))) (eCB fLen (aCons (eBin bIx (eVar 0) (eC (.int 0))) aNil)))) (sRet (eBin bMod (eCB fInt (aCons (eCall 2 (r 1) (aCons (eBin bIx (eVar 0) (eC (.int 4))) (aCons (eBin bIx (eVar 0) (eC (.int 3))) aNil))) aNil)) (eVar 1))) sNil)
    (sSeq (sAsg (eBin bIx (eBin bIx (eVar 0) (eC (.int 0))) (eBin bIx (eVar 0) (eC (.int 1)))) (gVar 3))
    (sSeq (sPut (eVar 0) (eC (.int 1)) (eBin bAdd (eBin bIx (eVar 0) (eC (.int 1))) (eC (.int 1))))
    (sSeq (sIf (tBl (eBin bLt (eVar 3) (eBin bPow (eC (.int 10)) (eC (.int 18))))) (sRet (eBin bMod (eCB fInt (aCons (eCall 2 (r 1) (aCons (eVar 3) (aCons (eBin bIx (eVar 0) (eC (.int 3))) aNil))) aNil)) (eVar 1))) sNil)
    (sPut (eVar 0) (eC (.int 2)) (eVar 3)))))) sNil)
    (sSeq (sAsg (eBin bMod (eCB fInt (aCons (eBin bIx (eVar 0) (eC (.int 2))) aNil)) (eVar 1)) (gVar 2))
    (sSeq (sPut (eVar 0) (eC (.int 2)) (eBin bDiv (eBin bIx (eVar 0) (eC (.int 2))) (eVar 1)))
    (sRet (eVar 2))))))
/-- _law_name -/
def b3 (r : Nat → FX) : SX :=
  (sSeq (sAsg (eC (.str "abcdefghijklmnopqrstuvwxyz")) (gVar 2))
    (sSeq (sAsg (eBin bIx (eLst (aCons (eC (.int 1)) (aCons (eC (.int 2)) (aCons (eC (.int 3)) (aCons (eC (.int 4)) (aCons (eC (.int 2)) (aCons (eC (.int 3)) (aCons (eC (.int 8)) (aCons (eC (.int 12)) aNil))))))))) (eCall 2 (r 2) (aCons (eVar 0) (aCons (eC (.int 8)) aNil)))) (gVar 3))
    (sSeq (sAsg (eJoin (eC (.str "")) (eCompR rng1 [6] (aCons (eVar 3) aNil) (gVar 6) tYesX (eBin bIx (eVar 2) (eCall 2 (r 2) (aCons (eVar 0) (aCons (eC (.int 26)) aNil)))))) (gVar 4))
    (sSeq (sIf (tBl (eBin bNotIn (eVar 4) (eVar 1))) (sRet (eVar 4)) sNil)
    (sSeq (sFor (eVar 2) (gVar 5) (sIf (tBl (eBin bNotIn (eBin bAdd (eSl (eVar 4) oNo (oYes (eC (.int 11)))) (eVar 5)) (eVar 1))) (sRet (eBin bAdd (eSl (eVar 4) oNo (oYes (eC (.int 11)))) (eVar 5))) sNil))
    (sRet (eVar 4)))))))
/-- _law_raised -/
def b4 (r : Nat → FX) : SX :=
  (sSeq (sIf (tBl (eBin bEq (eVar 0) (eC (.int 0)))) (sRaise 0 (eVar 1)) sNil)
    (sSeq (sIf (tBl (eBin bEq (eVar 0) (eC (.int 1)))) (sRaise 1 (eVar 1)) sNil)
    (sSeq (sIf (tBl (eBin bEq (eVar 0) (eC (.int 2)))) (sRaise 2 (eVar 1)) sNil)
    (sSeq (sIf (tBl (eBin bEq (eVar 0) (eC (.int 3)))) (sRaise 3 (eVar 1)) sNil)
    (sSeq (sIf (tBl (eBin bEq (eVar 0) (eC (.int 4)))) (sRaise 4 (eVar 1)) sNil)
    (sSeq (sIf (tBl (eBin bEq (eVar 0) (eC (.int 5)))) (sRaise 5 (eVar 1)) sNil)
    (sSeq (sIf (tBl (eBin bEq (eVar 0) (eC (.int 6)))) (sRaise 6 (eVar 1)) sNil)
    (sSeq (sIf (tBl (eBin bEq (eVar 0) (eC (.int 7)))) (sRaise 7 (eVar 1)) sNil)
    (sSeq (sIf (tBl (eBin bEq (eVar 0) (eC (.int 8)))) (sRaise 8 (eVar 1)) sNil)
    (sSeq (sIf (tBl (eBin bEq (eVar 0) (eC (.int 9)))) (sRaise 9 (eVar 1)) sNil)
    (sSeq (sIf (tBl (eBin bEq (eVar 0) (eC (.int 10)))) (sRaise 12 (eVar 1)) sNil)
    (sSeq (sIf (tBl (eBin bEq (eVar 0) (eC (.int 11)))) (sRaise0 10) sNil)
    (sSeq (sIf (tBl (eBin bEq (eVar 0) (eC (.int 12)))) (sRaise0 11) sNil)
    (sRaise0 13))))))))))))))
/-- _law_flags -/
def b5 (r : Nat → FX) : SX :=
  (sSeq (sAsg (eLst aNil) (gVar 2))
    (sSeq (sTry 14 (sDrop (eCall 2 (r 4) (aCons (eVar 0) (aCons (eVar 1) aNil)))) [⟨(fun _ => true), some 3, fun c p => (sSt 2 (eLst (aCons (eXi (List.range 14) (fun c => Nat.beq c 0) c) (aCons (eXi (List.range 14) (fun c => Nat.beq c 1) c) (aCons (eXi (List.range 14) (fun c => Nat.beq c 2) c) aNil)))) (sSt 2 (eBin bAdd (eVar 2) (eLst (aCons (eXi (List.range 14) (fun c => Nat.beq c 3) c) (aCons (eXi (List.range 14) (fun c => Nat.beq c 4) c) (aCons (eXi (List.range 14) (fun c => Nat.beq c 5) c) aNil))))) (sSt 2 (eBin bAdd (eVar 2) (eLst (aCons (eXi (List.range 14) (fun c => Nat.beq c 6) c) (aCons (eXi (List.range 14) (fun c => Nat.beq c 7) c) (aCons (eXi (List.range 14) (fun c => Nat.beq c 8) c) aNil))))) (sSt 2 (eBin bAdd (eVar 2) (eLst (aCons (eXi (List.range 14) (fun c => Nat.beq c 9) c) (aCons (eXi (List.range 14) (fun c => Nat.beq c 12) c) (aCons (eXi (List.range 14) (fun c => Nat.beq c 10) c) aNil))))) (sSt 2 (eBin bAdd (eVar 2) (eLst (aCons (eXi (List.range 14) (fun c => Nat.beq c 11) c) (aCons (eXi (List.range 14) (fun c => Nat.beq c 13) c) (aCons (eXi (List.range 14) (fun _ => true) c) aNil))))) sNil)))))⟩])
    (sRet (eVar 2))))
/-- _law_value -/
def b6 (r : Nat → FX) : SX :=
  (sSeq (sAsg (eC .non) (gVar 2))
    (sSeq (sTry 14 (sDrop (eCall 2 (r 4) (aCons (eVar 0) (aCons (eVar 1) aNil)))) [⟨(fun c => Nat.beq c 0), some 3, fun c p => (sSt 2 (eTup (aCons (eC (.int 0)) (aCons (eXf [0] c p) aNil))) sNil)⟩,
      ⟨(fun c => Nat.beq c 1), some 3, fun c p => (sSt 2 (eTup (aCons (eC (.int 1)) (aCons (eXf [1] c p) aNil))) sNil)⟩,
      ⟨(fun c => Nat.beq c 2), some 3, fun c p => (sSt 2 (eTup (aCons (eC (.int 2)) (aCons (eXf [2] c p) aNil))) sNil)⟩,
      ⟨(fun c => Nat.beq c 3), some 3, fun c p => (sSt 2 (eTup (aCons (eC (.int 3)) (aCons (eXf [3] c p) aNil))) sNil)⟩,
      ⟨(fun c => Nat.beq c 4), some 3, fun c p => (sSt 2 (eTup (aCons (eC (.int 4)) (aCons (eXf [4] c p) aNil))) sNil)⟩,
      ⟨(fun c => Nat.beq c 5), some 3, fun c p => (sSt 2 (eTup (aCons (eC (.int 5)) (aCons (eXf [5] c p) aNil))) sNil)⟩,
      ⟨(fun c => Nat.beq c 6), some 3, fun c p => (sSt 2 (eTup (aCons (eC (.int 6)) (aCons (eXf [6] c p) aNil))) sNil)⟩,
      ⟨(fun c => Nat.beq c 7), some 3, fun c p => (sSt 2 (eTup (aCons (eC (.int 7)) (aCons (eXf [7] c p) aNil))) sNil)⟩,
      ⟨(fun c => Nat.beq c 8), some 3, fun c p => (sSt 2 (eTup (aCons (eC (.int 8)) (aCons (eXf [8] c p) aNil))) sNil)⟩,
      ⟨(fun c => Nat.beq c 9), some 3, fun c p => (sSt 2 (eTup (aCons (eC (.int 9)) (aCons (eXf [9] c p) aNil))) sNil)⟩,
      ⟨(fun c => Nat.beq c 12), some 3, fun c p => (sSt 2 (eTup (aCons (eC (.int 10)) (aCons (eXf [12] c p) aNil))) sNil)⟩,
      ⟨(fun c => Nat.beq c 10), none, fun c p => (sSt 2 (eTup (aCons (eC (.int 11)) (aCons (eVar 1) aNil))) sNil)⟩,
      ⟨(fun c => Nat.beq c 11), none, fun c p => (sSt 2 (eTup (aCons (eC (.int 12)) (aCons (eVar 1) aNil))) sNil)⟩,
      ⟨(fun c => Nat.beq c 13), none, fun c p => (sSt 2 (eTup (aCons (eC (.int 13)) (aCons (eVar 1) aNil))) sNil)⟩])
    (sRet (eVar 2))))
/-- law -/
def b7 (r : Nat → FX) : SX :=
  (sSeq (sAsg (eCall 1 (r 0) (aCons (eVar 0) aNil)) (gVar 1))
    (sSeq (sAsg (eCall 2 (r 2) (aCons (eVar 1) (aCons (eBin bPow (eC (.int 10)) (eC (.int 12))) aNil))) (gVar 2))
    (sSeq (sAsg (eCall 2 (r 3) (aCons (eVar 1) (aCons (eLst aNil) aNil))) (gVar 3))
    (sSeq (sFor (eLst (aCons (eVar 2) (aCons (eUn uNeg (eC (.int 1))) (aCons (eVar 3) (aCons (eTup (aCons (eVar 2) (aCons (eC (.int 0)) aNil))) (aCons (eTup aNil) (aCons (eC .non) aNil))))))) (gVar 4) (sForR rng1 (aCons (eC (.int 14)) aNil) (gVar 5) (sSeq (sAsg (eBin bAdd (eCompR rng1 [7] (aCons (eC (.int 14)) aNil) (gVar 7) tYesX (eBin bEq (eVar 7) (eVar 5))) (eLst (aCons (eC (.bl true)) aNil))) (gVar 6))
    (sIf ((xOr (tBl (eBin bNe (eCall 2 (r 5) (aCons (eVar 5) (aCons (eVar 4) aNil))) (eVar 6))) (tBl (eBin bNe (eCall 2 (r 6) (aCons (eVar 5) (aCons (eVar 4) aNil))) (eTup (aCons (eVar 5) (aCons (eVar 4) aNil))))))) (sRet (eC (.bl false))) sNil))))
    (sRet (eC (.bl true)))))))
def tbl (r : Nat → FX) : Nat → FX
  | 0 => bodyX 3 (b0 r)
  | 1 => bodyX 5 (b1 r)
  | 2 => bodyX 4 (b2 r)
  | 3 => bodyX 7 (b3 r)
  | 4 => bodyX 2 (b4 r)
  | 5 => bodyX 4 (b5 r)
  | 6 => bodyX 4 (b6 r)
  | 7 => bodyX 8 (b7 r)
  | _ => fun _ _ _ => .bad
end Gx_k07

set_option maxHeartbeats 4000000
namespace Mi
open PySem L2
theorem get_app {α : Type} (h os : List α) (k : Nat) : (h ++ os)[h.length + k]? = os[k]? := by
  rw [List.getElem?_append_right (Nat.le_add_right _ _), Nat.add_sub_cancel_left]
theorem get_app0 {α : Type} (h os : List α) : (h ++ os)[h.length]? = os[0]? := get_app h os 0
mutual
theorem eqv_refl : ∀ d : PyData, d.canLay0 = true → PyData.eqv d d = true
  | .none, _ => by simp [PyData.eqv]
  | .bool b, _ => by simp [PyData.eqv]
  | .int b, _ => by simp [PyData.eqv]
  | .str b, _ => by simp [PyData.eqv]
  | .list xs, h => by simp only [PyData.eqv]; exact eqvs_refl xs (by simpa [PyData.canLay0] using h)
  | .tuple xs, h => by simp only [PyData.eqv]; exact eqvs_refl xs (by simpa [PyData.canLay0] using h)
  | .dict xs, h => by simp [PyData.canLay0] at h
theorem eqvs_refl : ∀ ds : List PyData, PyData.canLayAll0 ds = true → PyData.eqvAll ds ds = true
  | [], _ => by simp [PyData.eqvAll]
  | d :: ds, h => by
    simp only [PyData.canLayAll0, Bool.and_eq_true] at h
    simp only [PyData.eqvAll, eqv_refl d h.1, eqvs_refl ds h.2, Bool.and_self]
end
theorem ne_refl {x y : D} {h : Hh} {a : PyData} (hs : scEq x y = none) (h1 : toPy 66 h x = some a) (h2 : toPy 66 h y = some a) (sh : SeqAt.shaped a = true) : bNe x y h = .ok (.bl false) h := by
  have e : eqD x y h = some true := by
    unfold eqD
    rw [hs]
    simp only [h1, h2, sh, Bool.and_self, if_true]
    rw [eqv_refl a (SeqAt.canLay_of_shaped sh)]
  simp [bNe, e]
theorem toPy_bl65 {h : Hh} {b : Bool} : toPy 65 h (.bl b) = some (.bool b) := rfl
theorem toPy_ref66 {h : Hh} {n : Nat} {xs : List D} (e : h[n]? = some (.lst xs)) : toPy 66 h (.ref n) = (xs.mapM (toPy 65 h)).map PyData.list := by
  show (match h[n]? with
    | some (.lst xs) => (xs.mapM (toPy 65 h)).map PyData.list
    | _ => none) = _
  rw [e]
theorem toPy_bls {h : Hh} {n : Nat} {bs : List Bool} (e : h[n]? = some (.lst (bs.map D.bl))) : toPy 66 h (.ref n) = some (.list (bs.map PyData.bool)) := by
  have q : ∀ bs : List Bool, (bs.map D.bl).mapM (toPy 65 h) = some (bs.map PyData.bool) := fun bs => by
    induction bs with
    | nil => rfl
    | cons b r ih => rw [List.map_cons, List.mapM_cons, toPy_bl65, ih]; rfl
  rw [toPy_ref66 e, q]
  rfl
theorem shaped_bls (bs : List Bool) : SeqAt.shaped (.list (bs.map PyData.bool)) = true := by
  have h1 : ∀ bs : List Bool, PyData.canLayAll0 (bs.map PyData.bool) = true := fun bs => by
    induction bs with
    | nil => simp [PyData.canLayAll0]
    | cons b r ih => simp [PyData.canLayAll0, PyData.canLay0, ih]
  have h2 : ∀ bs : List Bool, PyData.depthAll (bs.map PyData.bool) = 0 := fun bs => by
    induction bs with
    | nil => simp [PyData.depthAll]
    | cons b r ih => simp [PyData.depthAll, PyData.depth, ih]
  simp [SeqAt.shaped, PyData.canLay0, PyData.depth, h1, h2]
end Mi
namespace Gx_k07
open Mi PySem PySem.Spec L2
def cw : Nat → Nat := fun w => ([0, 1, 2, 3, 4, 5, 6, 7, 8, 9, 12, 10, 11, 13] : List Nat).getD w 0
theorem raised_ok (r : Nat → FX) (w : Nat) (hw : w < 14) (d : D) (L : List Nat) (h : Hh) : bodyX 2 (b4 r) [.int w, d] L h = .exc (cw w) (if w < 11 then some d else none) h := by
  have r0 : bodyX 2 (b4 r) [.int w, d] L h = (b4 r [some (.int w), some d] L h).fin := rfl
  rw [r0]
  have e : w = 0 ∨ w = 1 ∨ w = 2 ∨ w = 3 ∨ w = 4 ∨ w = 5 ∨ w = 6 ∨ w = 7 ∨ w = 8 ∨ w = 9 ∨ w = 10 ∨ w = 11 ∨ w = 12 ∨ w = 13 := by omega
  rcases e with rfl | rfl | rfl | rfl | rfl | rfl | rfl | rfl | rfl | rfl | rfl | rfl | rfl | rfl <;> rfl
def fl (w : Nat) : List Bool := ((List.range 14).map fun k => decide (k = w)) ++ [true]
theorem add3 {ρ : Rho} {L : List Nat} {h : Hh} {n c : Nat} {xs : List D} {cs : List Nat} {i1 i2 i3 : Nat → Bool} (e2 : ρ[2]? = some (some (.ref n))) (en : h[n]? = some (.lst xs)) (hx : xs.length ≤ 100) (hm : c ∈ cs) :
    (eBin bAdd (eVar 2) (eLst (aCons (eXi cs i1 c) (aCons (eXi cs i2 c) (aCons (eXi cs i3 c) aNil))))) ρ L h = .ok (.ref (h.length + 1)) (h ++ [.lst [.bl (i1 c), .bl (i2 c), .bl (i3 c)], .lst (xs ++ [.bl (i1 c), .bl (i2 c), .bl (i3 c)])]) := by
  have k : ([.bl (i1 c), .bl (i2 c), .bl (i3 c)] : List D).length ≤ sizeLine := by show 3 ≤ sizeLine; decide
  have hn := (List.getElem?_eq_some_iff.mp en).1
  have e3 : (h ++ [.lst [.bl (i1 c), .bl (i2 c), .bl (i3 c)]])[n]? = some (Ob.lst xs) := by rw [List.getElem?_append_left hn]; exact en
  have e4 : (h ++ [.lst [.bl (i1 c), .bl (i2 c), .bl (i3 c)]])[h.length]? = some (Ob.lst [.bl (i1 c), .bl (i2 c), .bl (i3 c)]) := get_app0 _ _
  have k2 : xs.length + ([.bl (i1 c), .bl (i2 c), .bl (i3 c)] : List D).length ≤ sizeLine := Nat.le_trans (show xs.length + 3 ≤ 103 by omega) (by decide)
  simp only [eBin_x, eVar_x ρ L h 2 e2, eLst_x, aCons_x, aNil_x, eXi, if_pos hm, R.bind_ok, if_pos k]
  simp only [bAdd, e3, e4, if_pos k2, new]
  rw [List.append_assoc, List.length_append]
  rfl
theorem lst3 {ρ : Rho} {L : List Nat} {h : Hh} {c : Nat} {cs : List Nat} {i1 i2 i3 : Nat → Bool} (hm : c ∈ cs) :
    (eLst (aCons (eXi cs i1 c) (aCons (eXi cs i2 c) (aCons (eXi cs i3 c) aNil)))) ρ L h = .ok (.ref h.length) (h ++ [.lst [.bl (i1 c), .bl (i2 c), .bl (i3 c)]]) := by
  have k : ([.bl (i1 c), .bl (i2 c), .bl (i3 c)] : List D).length ≤ sizeLine := by show 3 ≤ sizeLine; decide
  simp only [eLst_x, aCons_x, aNil_x, eXi, if_pos hm, R.bind_ok, if_pos k]
theorem sSt_ok {j : Nat} {a : EX} {s : SX} {ρ : Rho} {L : List Nat} {h h1 : Hh} {d : D} (e : a ρ L h = .ok d h1) : sSt j a s ρ L h = s (ρ.set j (some d)) L h1 := by
  unfold sSt
  rw [e, R.toS_ok]
theorem flags_ok (r : Nat → FX) (hr : ∃ r', r 4 = bodyX 2 (b4 r')) (w : Nat) (hw : w < 14) (d : D) (L : List Nat) (h : Hh) : ∃ os k, bodyX 4 (b5 r) [.int w, d] L h = .ok (.ref (h.length + k)) (h ++ os) ∧ os[k]? = some (.lst ((fl w).map D.bl)) := by
  obtain ⟨r', hr⟩ := hr
  have r0 : bodyX 4 (b5 r) [.int w, d] L h = (b5 r [some (.int w), some d, none, none] L h).fin := rfl
  rw [r0]
  unfold b5
  rw [sSeq_x, sAsg_x]
  simp only [eLst_x, aNil_x, R.bind_ok, List.length_nil, Nat.zero_le, if_true, R.toS_ok, SR.seq_nx]
  have w1 : ([some (.int w), some d, none, none] : Rho).set 2 (some (D.ref h.length)) = [some (.int w), some d, some (.ref h.length), none] := rfl
  rw [w1, sSeq_x]
  unfold sTry
  have eb : sDrop (eCall 2 (r 4) (aCons (eVar 0) (aCons (eVar 1) aNil))) [some (.int w), some d, some (.ref h.length), none] L (h ++ [.lst []]) = .exc (cw w) (if w < 11 then some d else none) [some (.int w), some d, some (.ref h.length), none] (h ++ [.lst []]) := by
    simp only [sDrop_x, eCall_x, aCons_x, aNil_x, eVar_0, eVar_1, R.bind_ok, List.length_cons, List.length_nil, if_true, hr, raised_ok r' w hw d L, R.toS_exc]
  rw [eb]
  simp only
  have hc : cw w < 14 := by
    have e : w = 0 ∨ w = 1 ∨ w = 2 ∨ w = 3 ∨ w = 4 ∨ w = 5 ∨ w = 6 ∨ w = 7 ∨ w = 8 ∨ w = 9 ∨ w = 10 ∨ w = 11 ∨ w = 12 ∨ w = 13 := by omega
    rcases e with rfl | rfl | rfl | rfl | rfl | rfl | rfl | rfl | rfl | rfl | rfl | rfl | rfl | rfl <;> decide
  rw [if_pos hc]
  have hm : cw w ∈ List.range 14 := List.mem_range.mpr hc
  simp only [catch_, if_true, Hd.run, List.length_cons, List.length_nil]
  have w2 : ([some (.int w), some d, some (.ref h.length), none] : Rho).set 3 none = [some (.int w), some d, some (.ref h.length), none] := rfl
  rw [w2, sSt_ok (lst3 hm)]
  rw [sSt_ok (add3 (n := h.length + 1) (xs := [.bl (Nat.beq (cw w) 0), .bl (Nat.beq (cw w) 1), .bl (Nat.beq (cw w) 2)]) (by simp) (by simp) (by simp) hm)]
  rw [sSt_ok (add3 (n := h.length + 3) (xs := [.bl (Nat.beq (cw w) 0), .bl (Nat.beq (cw w) 1), .bl (Nat.beq (cw w) 2), .bl (Nat.beq (cw w) 3), .bl (Nat.beq (cw w) 4), .bl (Nat.beq (cw w) 5)]) (by simp) (by simp) (by simp) hm)]
  rw [sSt_ok (add3 (n := h.length + 5) (xs := [.bl (Nat.beq (cw w) 0), .bl (Nat.beq (cw w) 1), .bl (Nat.beq (cw w) 2), .bl (Nat.beq (cw w) 3), .bl (Nat.beq (cw w) 4), .bl (Nat.beq (cw w) 5), .bl (Nat.beq (cw w) 6), .bl (Nat.beq (cw w) 7), .bl (Nat.beq (cw w) 8)]) (by simp) (by simp) (by simp) hm)]
  rw [sSt_ok (add3 (n := h.length + 7) (xs := [.bl (Nat.beq (cw w) 0), .bl (Nat.beq (cw w) 1), .bl (Nat.beq (cw w) 2), .bl (Nat.beq (cw w) 3), .bl (Nat.beq (cw w) 4), .bl (Nat.beq (cw w) 5), .bl (Nat.beq (cw w) 6), .bl (Nat.beq (cw w) 7), .bl (Nat.beq (cw w) 8), .bl (Nat.beq (cw w) 9), .bl (Nat.beq (cw w) 12), .bl (Nat.beq (cw w) 10)]) (by simp) (by simp) (by simp) hm)]
  simp [SR.wipe]
  refine ⟨_, 9, ⟨rfl, rfl⟩, ?_⟩
  have e : w = 0 ∨ w = 1 ∨ w = 2 ∨ w = 3 ∨ w = 4 ∨ w = 5 ∨ w = 6 ∨ w = 7 ∨ w = 8 ∨ w = 9 ∨ w = 10 ∨ w = 11 ∨ w = 12 ∨ w = 13 := by omega
  rcases e with rfl | rfl | rfl | rfl | rfl | rfl | rfl | rfl | rfl | rfl | rfl | rfl | rfl | rfl <;> rfl
theorem value_ok (r : Nat → FX) (hr : ∃ r', r 4 = bodyX 2 (b4 r')) (w : Nat) (hw : w < 14) (d : D) (L : List Nat) (h : Hh) : bodyX 4 (b6 r) [.int w, d] L h = .ok (.tup [.int w, d]) h := by
  obtain ⟨r', hr⟩ := hr
  have r0 : bodyX 4 (b6 r) [.int w, d] L h = (b6 r [some (.int w), some d, none, none] L h).fin := rfl
  rw [r0]
  unfold b6
  rw [sSeq_x, sAsg_x, eC_x, R.toS_ok, SR.seq_nx]
  have w1 : ([some (.int w), some d, none, none] : Rho).set 2 (some D.non) = [some (.int w), some d, some .non, none] := rfl
  rw [w1, sSeq_x]
  unfold sTry
  have eb : sDrop (eCall 2 (r 4) (aCons (eVar 0) (aCons (eVar 1) aNil))) [some (.int w), some d, some .non, none] L h = .exc (cw w) (if w < 11 then some d else none) [some (.int w), some d, some .non, none] h := by
    simp only [sDrop_x, eCall_x, aCons_x, aNil_x, eVar_0, eVar_1, R.bind_ok, List.length_cons, List.length_nil, if_true, hr, raised_ok r' w hw d L, R.toS_exc]
  rw [eb]
  have e : w = 0 ∨ w = 1 ∨ w = 2 ∨ w = 3 ∨ w = 4 ∨ w = 5 ∨ w = 6 ∨ w = 7 ∨ w = 8 ∨ w = 9 ∨ w = 10 ∨ w = 11 ∨ w = 12 ∨ w = 13 := by omega
  rcases e with rfl | rfl | rfl | rfl | rfl | rfl | rfl | rfl | rfl | rfl | rfl | rfl | rfl | rfl <;> rfl
theorem set_app {α : Type} (h : List α) (a b : α) : (h ++ [a]).set h.length b = h ++ [b] := by
  rw [List.set_append_right _ _ (Nat.le_refl _), Nat.sub_self]; rfl
/-- what is wanted of the flags -/
theorem wanted_ok {x0 x1 x2 x3 x4 x6 x7 : Option D} (j : Nat) (L : List Nat) (h : Hh) : (eBin bAdd (eCompR rng1 [7] (aCons (eC (.int 14)) aNil) (gVar 7) tYesX (eBin bEq (eVar 7) (eVar 5))) (eLst (aCons (eC (.bl true)) aNil))) [x0, x1, x2, x3, x4, some (.int j), x6, x7] L h =
    .ok (.ref (h.length + 2)) (h ++ [.lst (((List.range 14).map fun k => decide (k = j)).map D.bl), .lst [.bl true], .lst ((fl j).map D.bl)]) := by
  have e1 := eCompR_ok (w := rng1) (own := [7]) (g := gVar 7) (tt := tYesX) (te := eBin bEq (eVar 7) (eVar 5)) (a := aCons (eC (.int 14)) aNil) (ρ := [x0, x1, x2, x3, x4, some (.int j), x6, x7]) (L := L) (h := h) (ys := rngD 0 14) rfl rfl
  have w1 : wipeR [x0, x1, x2, x3, x4, some (.int j), x6, x7] [7] = [x0, x1, x2, x3, x4, some (.int j), x6, none] := rfl
  rw [w1] at e1
  have C := compV_ok (g := gVar 7) (tt := tYesX) (te := eBin bEq (eVar 7) (eVar 5)) (n := h.length) (ρ := [x0, x1, x2, x3, x4, some (.int j), x6, none]) (L := L) (xs := rngD 0 14) (acc := []) (h := h ++ [.lst []])
    (P := fun i acc h' => h' = h ++ [.lst acc] ∧ acc = ((List.range i).map fun k => decide (k = j)).map D.bl)
    (fun i x acc h' hx ⟨eh, ea⟩ => by
      subst eh ea
      have hi : i < 14 := (List.getElem?_eq_some_iff.mp hx).1
      have ex : x = .int i := by
        unfold rngD at hx
        rw [List.getElem?_map, List.getElem?_range (by exact hi)] at hx
        have := (Option.some.inj hx).symm
        simpa using this
      subst ex
      refine ⟨_, h ++ [.lst (((List.range i).map fun k => decide (k = j)).map D.bl)], rfl, .inr ⟨h ++ [.lst (((List.range i).map fun k => decide (k = j)).map D.bl)], .bl (decide (i = j)), h ++ [.lst (((List.range i).map fun k => decide (k = j)).map D.bl)], rfl, ?_, get_app0 _ _, ?_, ?_, ?_⟩⟩
      · have : decide ((i : Int) = (j : Int)) = decide (i = j) := decide_eq_decide.mpr (by omega)
        simp [this]
      · simp only [List.length_map, List.length_range]; exact lt_size (by omega)
      · exact set_app ..
      · rw [List.range_succ]; simp)
    ⟨rfl, rfl⟩
  obtain ⟨acc, h', e2, eh, ea⟩ := C
  subst eh ea
  have e3 : (eCompR rng1 [7] (aCons (eC (.int 14)) aNil) (gVar 7) tYesX (eBin bEq (eVar 7) (eVar 5))) [x0, x1, x2, x3, x4, some (.int j), x6, x7] L h = .ok (.ref h.length) (h ++ [.lst (((List.range 14).map fun k => decide (k = j)).map D.bl)]) := by
    rw [e1]
    exact congrArg R.noExc e2
  generalize hA : ((List.range 14).map fun k => decide (k = j)).map D.bl = A at e3
  have lA : A.length = 14 := by rw [← hA]; simp
  have k1 : ([D.bl true] : List D).length ≤ sizeLine := by decide
  have g1 : (h ++ [Ob.lst A] ++ [Ob.lst [D.bl true]])[h.length]? = some (.lst A) := by rw [List.append_assoc]; exact get_app0 _ _
  have g2 : (h ++ [Ob.lst A] ++ [Ob.lst [D.bl true]])[h.length + 1]? = some (.lst [.bl true]) := by rw [List.append_assoc]; exact get_app _ _ 1
  have k2 : A.length + ([D.bl true] : List D).length ≤ sizeLine := by rw [lA]; decide
  have e4 : eLst (aCons (eC (.bl true)) aNil) [x0, x1, x2, x3, x4, some (.int j), x6, x7] L (h ++ [.lst A]) = .ok (.ref (h.length + 1)) (h ++ [.lst A] ++ [.lst [.bl true]]) := by
    simp only [eLst_x, aCons_x, eC_x, aNil_x, R.bind_ok, if_pos k1, List.length_append]
    rfl
  rw [eBin_x, e3, R.bind_ok, e4, R.bind_ok]
  simp only [bAdd, g1, g2, if_pos k2, new]
  have ef : A ++ [D.bl true] = (fl j).map D.bl := by rw [← hA]; unfold fl; simp
  rw [ef]
  simp
/-- a value that the law raises -/
structure Val (d : D) : Prop where
  ex : ∃ a, (∀ h, toPy 65 h d = some a) ∧ a.canLay0 = true ∧ a.depth ≤ 60
theorem tup_ne {d : D} (v : Val d) (j : Int) (h : Hh) : bNe (.tup [.int j, d]) (.tup [.int j, d]) h = .ok (.bl false) h := by
  obtain ⟨a, e1, e2, e3⟩ := v.ex
  have e4 : toPy 66 h (.tup [.int j, d]) = some (.tuple [.int j, a]) := by
    show (([D.int j, d] : List D).mapM (toPy 65 h)).map PyData.tuple = _
    rw [List.mapM_cons, List.mapM_cons, e1 h]
    rfl
  refine ne_refl rfl e4 e4 ?_
  unfold SeqAt.shaped
  simp only [PyData.canLay0, PyData.canLayAll0, e2, PyData.depth, PyData.depthAll, Bool.and_self, Bool.true_and]
  exact decide_eq_true (by omega)
theorem plain : ∀ ns : List Int, ns.length ≤ 63 → ∃ h', callF tbl 31 7 [.frl (ns.map .int)] [] [] = .ok (.bl true) h' := by
  intro ns _
  obtain ⟨h1, e1, B1, l1⟩ := bag_ok ns []
  have hd : Draws (callF tbl 30 2) := draws_of (m := callF tbl 29 1) mixed_ok
  have hn : Names (callF tbl 30 3) := name_ok (dr := callF tbl 29 2) (draws_of (m := callF tbl 28 1) mixed_ok)
  have hf : callF tbl 30 5 = bodyX 4 (b5 (callF tbl 29)) := rfl
  have hv : callF tbl 30 6 = bodyX 4 (b6 (callF tbl 29)) := rfl
  have hb : callF tbl 30 0 = bodyX 3 bagB := rfl
  have h4' : ∃ r', callF tbl 29 4 = bodyX 2 (b4 r') := ⟨_, rfl⟩
  have r0 : callF tbl 31 7 [.frl (ns.map .int)] [] [] = (b7 (callF tbl 30) [some (.frl (ns.map .int)), none, none, none, none, none, none, none] [] []).fin := rfl
  rw [r0]
  generalize callF tbl 30 = r at *
  obtain ⟨num, h2, v0, v1, e2, B2, E2, l2⟩ := hd h1 3 2 [] ((10 : Int) ^ (12 : Int).toNat) (by decide +kernel) (by decide +kernel) B1 (by simp)
  obtain ⟨nm, h3, e3, n3, _, B3, E3⟩ := hn (h2 ++ [.lst []]) 3 2 [] h2.length [] B2.app (by simp) (by omega) (by simp)
  unfold b7
  have s1 : sAsg (eCall 1 (r 0) (aCons (eVar 0) aNil)) (gVar 1) [some (.frl (ns.map .int)), none, none, none, none, none, none, none] [] [] = .nx [some (.frl (ns.map .int)), some (.ref 3), none, none, none, none, none, none] h1 := by
    simp only [sAsg_x, eCall_x, aCons_x, aNil_x, eVar_0, R.bind_ok, List.length_cons, List.length_nil, if_true, hb, e1, R.toS_ok]
    rfl
  have s2 : sAsg (eCall 2 (r 2) (aCons (eVar 1) (aCons (eBin bPow (eC (.int 10)) (eC (.int 12))) aNil))) (gVar 2) [some (.frl (ns.map .int)), some (.ref 3), none, none, none, none, none, none] [] h1 = .nx [some (.frl (ns.map .int)), some (.ref 3), some (.int num), none, none, none, none, none] h2 := by
    simp only [sAsg_x, eCall_x, aCons_x, aNil_x, eVar_1, eVar_0, eBin_x, eC_x, R.bind_ok, bPow_x (i := 10) (j := 12) (by decide), List.length_cons, List.length_nil, if_true, e2, R.toS_ok]
    rfl
  have s3 : sAsg (eCall 2 (r 3) (aCons (eVar 1) (aCons (eLst aNil) aNil))) (gVar 3) [some (.frl (ns.map .int)), some (.ref 3), some (.int num), none, none, none, none, none] [] h2 = .nx [some (.frl (ns.map .int)), some (.ref 3), some (.int num), some (.str nm), none, none, none, none] h3 := by
    simp only [sAsg_x, eCall_x, aCons_x, aNil_x, eVar_1, eVar_0, eLst_x, R.bind_ok, List.length_cons, List.length_nil, Nat.zero_le, if_true, e3, R.toS_ok]
    rfl
  rw [sSeq_x, s1, SR.seq_nx, sSeq_x, s2, SR.seq_nx, sSeq_x, s3, SR.seq_nx, sSeq_x]
  unfold sFor
  generalize hvs : ([.int num, .int (-1), .str nm, .tup [.int num, .int 0], .tup [], .non] : List D) = vs
  have vals : ∀ d ∈ vs, Val d := by
    have so : PyData.canLay0 (.str nm) = true := by
      simp only [PyData.canLay0]
      unfold PyData.strOk
      rw [← Array.all_toList]
      exact List.all_eq_true.mpr fun c hc => decide_eq_true (by have := n3.az c hc; omega)
    rw [← hvs]
    intro d hd
    simp only [List.mem_cons, List.mem_nil_iff, or_false] at hd
    rcases hd with rfl | rfl | rfl | rfl | rfl | rfl
    · exact ⟨_, fun _ => rfl, rfl, by simp [PyData.depth]⟩
    · exact ⟨_, fun _ => rfl, rfl, by simp [PyData.depth]⟩
    · exact ⟨_, fun _ => rfl, so, by simp [PyData.depth]⟩
    · exact ⟨.tuple [.int num, .int 0], fun _ => rfl, rfl, by simp [PyData.depth, PyData.depthAll]⟩
    · exact ⟨.tuple [], fun _ => rfl, rfl, by decide⟩
    · exact ⟨_, fun _ => rfl, rfl, by simp [PyData.depth]⟩
  have lv : vs.length = 6 := by rw [← hvs]; rfl
  have s4 : eLst (aCons (eVar 2) (aCons (eUn uNeg (eC (.int 1))) (aCons (eVar 3) (aCons (eTup (aCons (eVar 2) (aCons (eC (.int 0)) aNil))) (aCons (eTup aNil) (aCons (eC .non) aNil)))))) [some (.frl (ns.map .int)), some (.ref 3), some (.int num), some (.str nm), none, none, none, none] [] h3 = .ok (.ref h3.length) (h3 ++ [.lst vs]) := by
    have k2 : ([D.int num, .int 0] : List D).length ≤ sizeLine := by show 2 ≤ sizeLine; decide
    have k6 : vs.length ≤ sizeLine := by rw [lv]; decide
    rw [← hvs] at k6 ⊢
    simp only [eLst_x, aCons_x, aNil_x, eVar_3, eVar_2, eVar_1, eVar_0, eUn_x, eC_x, uNeg_x, eTup_x, R.bind_ok, if_pos k2, List.length_nil, Nat.zero_le, if_true, if_pos k6]
  rw [s4, R.toS_ok]
  simp only [forD]
  have C := loopL_ok (g := gVar 4) (b := sForR rng1 (aCons (eC (.int 14)) aNil) (gVar 5) (sSeq (sAsg (eBin bAdd (eCompR rng1 [7] (aCons (eC (.int 14)) aNil) (gVar 7) tYesX (eBin bEq (eVar 7) (eVar 5))) (eLst (aCons (eC (.bl true)) aNil))) (gVar 6))
    (sIf ((xOr (tBl (eBin bNe (eCall 2 (r 5) (aCons (eVar 5) (aCons (eVar 4) aNil))) (eVar 6))) (tBl (eBin bNe (eCall 2 (r 6) (aCons (eVar 5) (aCons (eVar 4) aNil))) (eTup (aCons (eVar 5) (aCons (eVar 4) aNil))))))) (sRet (eC (.bl false))) sNil))) (L := [])
    (P := fun _ ρ h => (∃ x4 x5 x6, ρ = [some (.frl (ns.map .int)), some (.ref 3), some (.int num), some (.str nm), x4, x5, x6, none]) ∧ h[h3.length]? = some (.lst vs)) (B := fun _ => False) (xs := vs) (n := h3.length) (ρ := [some (.frl (ns.map .int)), some (.ref 3), some (.int num), some (.str nm), none, none, none, none]) (h := h3 ++ [.lst vs]) (by omega)
    (fun i ρ h p => p.2)
    (fun i d ρ h hx ⟨⟨x4, x5, x6, er⟩, eh⟩ => by
      subst er
      have vd := vals d (List.mem_of_getElem? hx)
      rw [turn_var]
      unfold sForR
      rw [aCons_x, eC_x, R.bind_ok, aNil_x, R.bind_ok, R.toS_ok]
      have er14 : rng1 [.int 14] = some (rngD 0 14) := rfl
      rw [er14]
      simp only
      have w4 : ([some (.frl (ns.map .int)), some (.ref 3), some (.int num), some (.str nm), x4, x5, x6, none] : Rho).set 4 (some d) = [some (.frl (ns.map .int)), some (.ref 3), some (.int num), some (.str nm), some d, x5, x6, none] := rfl
      rw [w4]
      have C2 := loopV_ok (g := gVar 5) (b := sSeq (sAsg (eBin bAdd (eCompR rng1 [7] (aCons (eC (.int 14)) aNil) (gVar 7) tYesX (eBin bEq (eVar 7) (eVar 5))) (eLst (aCons (eC (.bl true)) aNil))) (gVar 6))
        (sIf ((xOr (tBl (eBin bNe (eCall 2 (r 5) (aCons (eVar 5) (aCons (eVar 4) aNil))) (eVar 6))) (tBl (eBin bNe (eCall 2 (r 6) (aCons (eVar 5) (aCons (eVar 4) aNil))) (eTup (aCons (eVar 5) (aCons (eVar 4) aNil))))))) (sRet (eC (.bl false))) sNil)) (L := [])
        (P := fun _ ρ h => (∃ x5 x6, ρ = [some (.frl (ns.map .int)), some (.ref 3), some (.int num), some (.str nm), some d, x5, x6, none]) ∧ h[h3.length]? = some (.lst vs)) (B := fun _ => False) (xs := rngD 0 14) (ρ := [some (.frl (ns.map .int)), some (.ref 3), some (.int num), some (.str nm), some d, x5, x6, none]) (h := h)
        (fun j x ρ h hx ⟨⟨x5, x6, er⟩, eh⟩ => by
          subst er
          have hj : j < 14 := (List.getElem?_eq_some_iff.mp hx).1
          have ex : x = .int j := by
            unfold rngD at hx
            rw [List.getElem?_map, List.getElem?_range (by exact hj)] at hx
            have := (Option.some.inj hx).symm
            simpa using this
          subst ex
          have l3 := (List.getElem?_eq_some_iff.mp eh).1
          rw [turn_var]
          have w5 : ([some (.frl (ns.map .int)), some (.ref 3), some (.int num), some (.str nm), some d, x5, x6, none] : Rho).set 5 (some (.int j)) = [some (.frl (ns.map .int)), some (.ref 3), some (.int num), some (.str nm), some d, some (.int j), x6, none] := rfl
          rw [w5, sSeq_x, sAsg_x, wanted_ok, R.toS_ok, SR.seq_nx]
          have w6 : ([some (.frl (ns.map .int)), some (.ref 3), some (.int num), some (.str nm), some d, some (.int j), x6, none] : Rho).set 6 (some (.ref (h.length + 2))) = [some (.frl (ns.map .int)), some (.ref 3), some (.int num), some (.str nm), some d, some (.int j), some (.ref (h.length + 2)), none] := rfl
          rw [w6]
          have eh4 : (h ++ [Ob.lst (((List.range 14).map fun k => decide (k = j)).map D.bl), .lst [.bl true], .lst ((fl j).map D.bl)])[h3.length]? = some (.lst vs) := by rw [List.getElem?_append_left l3]; exact eh
          have ew4 : (h ++ [Ob.lst (((List.range 14).map fun k => decide (k = j)).map D.bl), .lst [.bl true], .lst ((fl j).map D.bl)])[h.length + 2]? = some (.lst ((fl j).map D.bl)) := get_app _ _ 2
          generalize h ++ [Ob.lst (((List.range 14).map fun k => decide (k = j)).map D.bl), .lst [.bl true], .lst ((fl j).map D.bl)] = h4 at *
          obtain ⟨os, k, ef, eo⟩ := flags_ok (callF tbl 29) h4' j hj d [] h4
          have ev := value_ok (callF tbl 29) h4' j hj d [] (h4 ++ os)
          have l4 := (List.getElem?_eq_some_iff.mp eh4).1
          have l5 := (List.getElem?_eq_some_iff.mp ew4).1
          have n1 : bNe (.ref (h4.length + k)) (.ref (h.length + 2)) (h4 ++ os) = .ok (.bl false) (h4 ++ os) := by
            refine ne_refl rfl (toPy_bls (bs := fl j) ?_) (toPy_bls (bs := fl j) ?_) (shaped_bls _)
            · rw [get_app]; exact eo
            · rw [List.getElem?_append_left l5]; exact ew4
          have k2 : ([D.int j, d] : List D).length ≤ sizeLine := by show 2 ≤ sizeLine; decide
          have n2 := tup_ne vd j (h4 ++ os)
          have fin : (sIf ((xOr (tBl (eBin bNe (eCall 2 (r 5) (aCons (eVar 5) (aCons (eVar 4) aNil))) (eVar 6))) (tBl (eBin bNe (eCall 2 (r 6) (aCons (eVar 5) (aCons (eVar 4) aNil))) (eTup (aCons (eVar 5) (aCons (eVar 4) aNil))))))) (sRet (eC (.bl false))) sNil) [some (.frl (ns.map .int)), some (.ref 3), some (.int num), some (.str nm), some d, some (.int j), some (.ref (h.length + 2)), none] [] h4 = .nx [some (.frl (ns.map .int)), some (.ref 3), some (.int num), some (.str nm), some d, some (.int j), some (.ref (h.length + 2)), none] (h4 ++ os) := by
            simp only [sIf_x, xOr_x, tBl_x, eBin_x, eCall_x, aCons_x, aNil_x, eVar_6, eVar_5, eVar_4, eVar_3, eVar_2, eVar_1, eVar_0, R.bind_ok, List.length_cons, List.length_nil, if_true, hf, hv, ef, n1, ev, eTup_x, sz2, n2, R.toS_ok, Bool.false_eq_true, if_false, sNil_x]
          rw [fin]
          exact ⟨⟨_, _, rfl⟩, by rw [List.getElem?_append_left l4]; exact eh4⟩)
        ⟨⟨_, _, rfl⟩, eh⟩
      rcases C2 with ⟨ρ', h', ec, ⟨x5', x6', er⟩, eh'⟩ | C2
      · subst er
        rw [ec]
        exact ⟨⟨_, _, _, rfl⟩, eh'⟩
      · exact C2.elim)
    ⟨⟨none, none, none, rfl⟩, get_app0 _ _⟩
  rcases C with ⟨ρ', h', ec, _, _⟩ | C
  · rw [ec]
    exact ⟨h', rfl⟩
  · exact C.elim
end Gx_k07

set_option maxHeartbeats 0
namespace Gx_k07
open Mi PySem PySem.Spec PyProof.Rows L2
def top (i : Nat) : Stmt := PySem.Challenge.pw_bestcovers_k07_errors_and_their_attribut.main.body.getD i (.Pass ⟨0, 0, 0, 0⟩)
def ns : List Str := ["BadOperators", "BadKind", "BadRules", "BadGoal", "BadTree", "BadCover", "BadNumber", "BadSource", "BadText", "BadRows", "NoCover", "NoTree", "TooMany", "NothingDone"]
def fds : List Str := ["value", "value", "at", "value", "path", "path", "value", "value", "at", "at", "", "", "limit", ""]
def G (K : PySem.W.Frag) : Gx := gxOf K ns fds
def N0 : List Str := ["_law_script", "_law_seed", "_law_cell"]
def p0 : List Str := ["_law_script"]
def d0 : He.DefD := ⟨("_law_bag", none), "_law_bag", "_law_bag", defArgs (top 17), defBody (top 17), defScope (top 17), [], []⟩
def N1 : List Str := ["_law_number", "_law_turn", "_law_one", "_law_two", "_law_three"]
def p1 : List Str := ["_law_number", "_law_turn"]
def d1 : He.DefD := ⟨("_law_mixed", none), "_law_mixed", "_law_mixed", defArgs (top 18), defBody (top 18), defScope (top 18), [], []⟩
def N2 : List Str := ["_law_bag_here", "_law_many", "_law_digit", "_law_cell"]
def p2 : List Str := ["_law_bag_here", "_law_many"]
def d2 : He.DefD := ⟨("_law_draw", none), "_law_draw", "_law_draw", defArgs (top 19), defBody (top 19), defScope (top 19), [], []⟩
def N3 : List Str := ["_law_bag_here", "_law_taken", "_law_letters", "_law_size", "_law_name_here", "_law_letter", "_law_k"]
def p3 : List Str := ["_law_bag_here", "_law_taken"]
def d3 : He.DefD := ⟨("_law_name", none), "_law_name", "_law_name", defArgs (top 20), defBody (top 20), defScope (top 20), [], []⟩
def N4 : List Str := ["_law_which", "_law_value_here"]
def p4 : List Str := ["_law_which", "_law_value_here"]
def d4 : He.DefD := ⟨("_law_raised", none), "_law_raised", "_law_raised", defArgs (top 21), defBody (top 21), defScope (top 21), [], []⟩
def N5 : List Str := ["_law_which", "_law_value_here", "_law_flags_here", "wrong"]
def p5 : List Str := ["_law_which", "_law_value_here"]
def d5 : He.DefD := ⟨("_law_flags", none), "_law_flags", "_law_flags", defArgs (top 22), defBody (top 22), defScope (top 22), [], []⟩
def N6 : List Str := ["_law_which", "_law_value_here", "_law_told", "wrong"]
def p6 : List Str := ["_law_which", "_law_value_here"]
def d6 : He.DefD := ⟨("_law_value", none), "_law_value", "_law_value", defArgs (top 23), defBody (top 23), defScope (top 23), [], []⟩
def N7 : List Str := ["_law_script", "_law_bag_here", "_law_number", "_law_name_here", "_law_value_here", "_law_which", "_law_wanted", "_law_k"]
def p7 : List Str := ["_law_script"]
def d7 : He.DefD := ⟨("law", none), "law", "law", defArgs (top 24), defBody (top 24), defScope (top 24), [], []⟩
def dx0 : He.DefD := ⟨("BadOperators", some "__init__"), "__init__", "BadOperators.__init__", defArgs (inClass (top 2) 0), defBody (inClass (top 2) 0), defScope (inClass (top 2) 0), [], []⟩
def dx1 : He.DefD := ⟨("BadKind", some "__init__"), "__init__", "BadKind.__init__", defArgs (inClass (top 3) 0), defBody (inClass (top 3) 0), defScope (inClass (top 3) 0), [], []⟩
def dx2 : He.DefD := ⟨("BadRules", some "__init__"), "__init__", "BadRules.__init__", defArgs (inClass (top 4) 0), defBody (inClass (top 4) 0), defScope (inClass (top 4) 0), [], []⟩
def dx3 : He.DefD := ⟨("BadGoal", some "__init__"), "__init__", "BadGoal.__init__", defArgs (inClass (top 5) 0), defBody (inClass (top 5) 0), defScope (inClass (top 5) 0), [], []⟩
def dx4 : He.DefD := ⟨("BadTree", some "__init__"), "__init__", "BadTree.__init__", defArgs (inClass (top 6) 0), defBody (inClass (top 6) 0), defScope (inClass (top 6) 0), [], []⟩
def dx5 : He.DefD := ⟨("BadCover", some "__init__"), "__init__", "BadCover.__init__", defArgs (inClass (top 7) 0), defBody (inClass (top 7) 0), defScope (inClass (top 7) 0), [], []⟩
def dx6 : He.DefD := ⟨("BadNumber", some "__init__"), "__init__", "BadNumber.__init__", defArgs (inClass (top 8) 0), defBody (inClass (top 8) 0), defScope (inClass (top 8) 0), [], []⟩
def dx7 : He.DefD := ⟨("BadSource", some "__init__"), "__init__", "BadSource.__init__", defArgs (inClass (top 9) 0), defBody (inClass (top 9) 0), defScope (inClass (top 9) 0), [], []⟩
def dx8 : He.DefD := ⟨("BadText", some "__init__"), "__init__", "BadText.__init__", defArgs (inClass (top 10) 0), defBody (inClass (top 10) 0), defScope (inClass (top 10) 0), [], []⟩
def dx9 : He.DefD := ⟨("BadRows", some "__init__"), "__init__", "BadRows.__init__", defArgs (inClass (top 11) 0), defBody (inClass (top 11) 0), defScope (inClass (top 11) 0), [], []⟩
def dx12 : He.DefD := ⟨("TooMany", some "__init__"), "__init__", "TooMany.__init__", defArgs (inClass (top 14) 0), defBody (inClass (top 14) 0), defScope (inClass (top 14) 0), [], []⟩
def fn : List He.DefD := [d0, d1, d2, d3, d4, d5, d6, d7, dx0, dx1, dx2, dx3, dx4, dx5, dx6, dx7, dx8, dx9, dx12]
def pss : List (List Str) := [p0, p1, p2, p3, p4, p5, p6, p7]
def fs : List Fm := [fFree "int",
  fFree "len",
  fGlo "_law_mixed",
  fGlo "_law_draw",
  fFree "range",
  fXc "BadOperators" "value",
  fGlo "BadOperators",
  fXc "BadKind" "value",
  fGlo "BadKind",
  fXc "BadRules" "at",
  fGlo "BadRules",
  fXc "BadGoal" "value",
  fGlo "BadGoal",
  fXc "BadTree" "path",
  fGlo "BadTree",
  fXc "BadCover" "path",
  fGlo "BadCover",
  fXc "BadNumber" "value",
  fGlo "BadNumber",
  fXc "BadSource" "value",
  fGlo "BadSource",
  fXc "BadText" "at",
  fGlo "BadText",
  fXc "BadRows" "at",
  fGlo "BadRows",
  fXc "TooMany" "limit",
  fGlo "TooMany",
  fX0 "NoCover",
  fGlo "NoCover",
  fX0 "NoTree",
  fGlo "NoTree",
  fX0 "NothingDone",
  fGlo "NothingDone",
  fGlo "_law_raised",
  fAll_ 14 (fExc ns),
  fAll_ 14 (fKit ns "BadOperators" (fun c => Nat.beq c 0)),
  fFree "isinstance",
  fAll_ 14 (fKit ns "BadKind" (fun c => Nat.beq c 1)),
  fAll_ 14 (fKit ns "BadRules" (fun c => Nat.beq c 2)),
  fAll_ 14 (fKit ns "BadGoal" (fun c => Nat.beq c 3)),
  fAll_ 14 (fKit ns "BadTree" (fun c => Nat.beq c 4)),
  fAll_ 14 (fKit ns "BadCover" (fun c => Nat.beq c 5)),
  fAll_ 14 (fKit ns "BadNumber" (fun c => Nat.beq c 6)),
  fAll_ 14 (fKit ns "BadSource" (fun c => Nat.beq c 7)),
  fAll_ 14 (fKit ns "BadText" (fun c => Nat.beq c 8)),
  fAll_ 14 (fKit ns "BadRows" (fun c => Nat.beq c 9)),
  fAll_ 14 (fKit ns "TooMany" (fun c => Nat.beq c 12)),
  fAll_ 14 (fKit ns "NoCover" (fun c => Nat.beq c 10)),
  fAll_ 14 (fKit ns "NoTree" (fun c => Nat.beq c 11)),
  fAll_ 14 (fKit ns "NothingDone" (fun c => Nat.beq c 13)),
  fAll_ 14 (fKitT ns "ValueError" (fun _ => true)),
  fFree "ValueError",
  fAll_ 14 (fExm ns "CoverError" (fun _ => true)),
  fGlo "CoverError",
  fAll_ 14 (fExm ns "NothingDone" (fun c => Nat.beq c 13)),
  fAll_ 14 (fExm ns "NoTree" (fun c => Nat.beq c 11)),
  fAll_ 14 (fExm ns "NoCover" (fun c => Nat.beq c 10)),
  fAll_ 14 (fExm ns "TooMany" (fun c => Nat.beq c 12)),
  fAll_ 14 (fExm ns "BadRows" (fun c => Nat.beq c 9)),
  fAll_ 14 (fExm ns "BadText" (fun c => Nat.beq c 8)),
  fAll_ 14 (fExm ns "BadSource" (fun c => Nat.beq c 7)),
  fAll_ 14 (fExm ns "BadNumber" (fun c => Nat.beq c 6)),
  fAll_ 14 (fExm ns "BadCover" (fun c => Nat.beq c 5)),
  fAll_ 14 (fExm ns "BadTree" (fun c => Nat.beq c 4)),
  fAll_ 14 (fExm ns "BadGoal" (fun c => Nat.beq c 3)),
  fAll_ 14 (fExm ns "BadRules" (fun c => Nat.beq c 2)),
  fAll_ 14 (fExm ns "BadKind" (fun c => Nat.beq c 1)),
  fAll_ 14 (fExm ns "BadOperators" (fun c => Nat.beq c 0)),
  fGlo "_law_bag",
  fGlo "_law_name",
  fGlo "_law_flags",
  fGlo "_law_value",
  fGlo "law"]
theorem sc0 : FnScope N0 p0 (defScope (top 17)) := ⟨rfl, rfl, rfl, by decide +kernel, rfl, by decide +kernel, by decide +kernel⟩
theorem sc1 : FnScope N1 p1 (defScope (top 18)) := ⟨rfl, rfl, rfl, by decide +kernel, rfl, by decide +kernel, by decide +kernel⟩
theorem sc2 : FnScope N2 p2 (defScope (top 19)) := ⟨rfl, rfl, rfl, by decide +kernel, rfl, by decide +kernel, by decide +kernel⟩
theorem sc3 : FnScope N3 p3 (defScope (top 20)) := ⟨rfl, rfl, rfl, by decide +kernel, rfl, by decide +kernel, by decide +kernel⟩
theorem sc4 : FnScope N4 p4 (defScope (top 21)) := ⟨rfl, rfl, rfl, by decide +kernel, rfl, by decide +kernel, by decide +kernel⟩
theorem sc5 : FnScope N5 p5 (defScope (top 22)) := ⟨rfl, rfl, rfl, by decide +kernel, rfl, by decide +kernel, by decide +kernel⟩
theorem sc6 : FnScope N6 p6 (defScope (top 23)) := ⟨rfl, rfl, rfl, by decide +kernel, rfl, by decide +kernel, by decide +kernel⟩
theorem sc7 : FnScope N7 p7 (defScope (top 24)) := ⟨rfl, rfl, rfl, by decide +kernel, rfl, by decide +kernel, by decide +kernel⟩
section
variable {P : Program} {w : World} {K : PySem.W.Frag} {mg : Str → Option Value} {base : Heap} {k : Nat} {r : Nat → FX}
theorem xi0 (T : Tx fs fn K mg) : ∃ fd, FnOk P w K mg base L2.CX0 (k + 1) (He.ma K (He.ga K "BadOperators") "__init__") fd ["self", "value"] (spXI (He.ga K "BadOperators") "value") ∧ Binds K fd ["self", "value"] [] := by
  obtain ⟨fd, F⟩ := T.c.def_ 8 (d := dx0) rfl
  exact ⟨fd, init_ok (fXc_ok (T.at_ 5)) F ⟨rfl, rfl, rfl, by decide +kernel, rfl, by decide +kernel, by decide +kernel⟩ (Or.inl rfl) (Or.inl rfl), F.bindsN fun _ _ _ _ _ _ us hl => match us, hl with | [_, _], _ => rfl⟩
theorem xi1 (T : Tx fs fn K mg) : ∃ fd, FnOk P w K mg base L2.CX0 (k + 1) (He.ma K (He.ga K "BadKind") "__init__") fd ["self", "value"] (spXI (He.ga K "BadKind") "value") ∧ Binds K fd ["self", "value"] [] := by
  obtain ⟨fd, F⟩ := T.c.def_ 9 (d := dx1) rfl
  exact ⟨fd, init_ok (fXc_ok (T.at_ 7)) F ⟨rfl, rfl, rfl, by decide +kernel, rfl, by decide +kernel, by decide +kernel⟩ (Or.inl rfl) (Or.inl rfl), F.bindsN fun _ _ _ _ _ _ us hl => match us, hl with | [_, _], _ => rfl⟩
theorem xi2 (T : Tx fs fn K mg) : ∃ fd, FnOk P w K mg base L2.CX0 (k + 1) (He.ma K (He.ga K "BadRules") "__init__") fd ["self", "at"] (spXI (He.ga K "BadRules") "at") ∧ Binds K fd ["self", "at"] [] := by
  obtain ⟨fd, F⟩ := T.c.def_ 10 (d := dx2) rfl
  exact ⟨fd, init_ok (fXc_ok (T.at_ 9)) F ⟨rfl, rfl, rfl, by decide +kernel, rfl, by decide +kernel, by decide +kernel⟩ (Or.inl rfl) (Or.inl rfl), F.bindsN fun _ _ _ _ _ _ us hl => match us, hl with | [_, _], _ => rfl⟩
theorem xi3 (T : Tx fs fn K mg) : ∃ fd, FnOk P w K mg base L2.CX0 (k + 1) (He.ma K (He.ga K "BadGoal") "__init__") fd ["self", "value"] (spXI (He.ga K "BadGoal") "value") ∧ Binds K fd ["self", "value"] [] := by
  obtain ⟨fd, F⟩ := T.c.def_ 11 (d := dx3) rfl
  exact ⟨fd, init_ok (fXc_ok (T.at_ 11)) F ⟨rfl, rfl, rfl, by decide +kernel, rfl, by decide +kernel, by decide +kernel⟩ (Or.inl rfl) (Or.inl rfl), F.bindsN fun _ _ _ _ _ _ us hl => match us, hl with | [_, _], _ => rfl⟩
theorem xi4 (T : Tx fs fn K mg) : ∃ fd, FnOk P w K mg base L2.CX0 (k + 1) (He.ma K (He.ga K "BadTree") "__init__") fd ["self", "path"] (spXI (He.ga K "BadTree") "path") ∧ Binds K fd ["self", "path"] [] := by
  obtain ⟨fd, F⟩ := T.c.def_ 12 (d := dx4) rfl
  exact ⟨fd, init_ok (fXc_ok (T.at_ 13)) F ⟨rfl, rfl, rfl, by decide +kernel, rfl, by decide +kernel, by decide +kernel⟩ (Or.inl rfl) (Or.inl rfl), F.bindsN fun _ _ _ _ _ _ us hl => match us, hl with | [_, _], _ => rfl⟩
theorem xi5 (T : Tx fs fn K mg) : ∃ fd, FnOk P w K mg base L2.CX0 (k + 1) (He.ma K (He.ga K "BadCover") "__init__") fd ["self", "path"] (spXI (He.ga K "BadCover") "path") ∧ Binds K fd ["self", "path"] [] := by
  obtain ⟨fd, F⟩ := T.c.def_ 13 (d := dx5) rfl
  exact ⟨fd, init_ok (fXc_ok (T.at_ 15)) F ⟨rfl, rfl, rfl, by decide +kernel, rfl, by decide +kernel, by decide +kernel⟩ (Or.inl rfl) (Or.inl rfl), F.bindsN fun _ _ _ _ _ _ us hl => match us, hl with | [_, _], _ => rfl⟩
theorem xi6 (T : Tx fs fn K mg) : ∃ fd, FnOk P w K mg base L2.CX0 (k + 1) (He.ma K (He.ga K "BadNumber") "__init__") fd ["self", "value"] (spXI (He.ga K "BadNumber") "value") ∧ Binds K fd ["self", "value"] [] := by
  obtain ⟨fd, F⟩ := T.c.def_ 14 (d := dx6) rfl
  exact ⟨fd, init_ok (fXc_ok (T.at_ 17)) F ⟨rfl, rfl, rfl, by decide +kernel, rfl, by decide +kernel, by decide +kernel⟩ (Or.inl rfl) (Or.inl rfl), F.bindsN fun _ _ _ _ _ _ us hl => match us, hl with | [_, _], _ => rfl⟩
theorem xi7 (T : Tx fs fn K mg) : ∃ fd, FnOk P w K mg base L2.CX0 (k + 1) (He.ma K (He.ga K "BadSource") "__init__") fd ["self", "value"] (spXI (He.ga K "BadSource") "value") ∧ Binds K fd ["self", "value"] [] := by
  obtain ⟨fd, F⟩ := T.c.def_ 15 (d := dx7) rfl
  exact ⟨fd, init_ok (fXc_ok (T.at_ 19)) F ⟨rfl, rfl, rfl, by decide +kernel, rfl, by decide +kernel, by decide +kernel⟩ (Or.inl rfl) (Or.inl rfl), F.bindsN fun _ _ _ _ _ _ us hl => match us, hl with | [_, _], _ => rfl⟩
theorem xi8 (T : Tx fs fn K mg) : ∃ fd, FnOk P w K mg base L2.CX0 (k + 1) (He.ma K (He.ga K "BadText") "__init__") fd ["self", "at"] (spXI (He.ga K "BadText") "at") ∧ Binds K fd ["self", "at"] [] := by
  obtain ⟨fd, F⟩ := T.c.def_ 16 (d := dx8) rfl
  exact ⟨fd, init_ok (fXc_ok (T.at_ 21)) F ⟨rfl, rfl, rfl, by decide +kernel, rfl, by decide +kernel, by decide +kernel⟩ (Or.inl rfl) (Or.inl rfl), F.bindsN fun _ _ _ _ _ _ us hl => match us, hl with | [_, _], _ => rfl⟩
theorem xi9 (T : Tx fs fn K mg) : ∃ fd, FnOk P w K mg base L2.CX0 (k + 1) (He.ma K (He.ga K "BadRows") "__init__") fd ["self", "at"] (spXI (He.ga K "BadRows") "at") ∧ Binds K fd ["self", "at"] [] := by
  obtain ⟨fd, F⟩ := T.c.def_ 17 (d := dx9) rfl
  exact ⟨fd, init_ok (fXc_ok (T.at_ 23)) F ⟨rfl, rfl, rfl, by decide +kernel, rfl, by decide +kernel, by decide +kernel⟩ (Or.inl rfl) (Or.inl rfl), F.bindsN fun _ _ _ _ _ _ us hl => match us, hl with | [_, _], _ => rfl⟩
theorem xi12 (T : Tx fs fn K mg) : ∃ fd, FnOk P w K mg base L2.CX0 (k + 1) (He.ma K (He.ga K "TooMany") "__init__") fd ["self", "limit"] (spXI (He.ga K "TooMany") "limit") ∧ Binds K fd ["self", "limit"] [] := by
  obtain ⟨fd, F⟩ := T.c.def_ 18 (d := dx12) rfl
  exact ⟨fd, init_ok (fXc_ok (T.at_ 25)) F ⟨rfl, rfl, rfl, by decide +kernel, rfl, by decide +kernel, by decide +kernel⟩ (Or.inl rfl) (Or.inl rfl), F.bindsN fun _ _ _ _ _ _ us hl => match us, hl with | [_, _], _ => rfl⟩
/-- _law_bag -/
theorem fn0 (T : Tx fs fn K mg) (ih : AllOk P w K mg base (G K) fn pss k r) {fd : FuncData} (F : FunD K d0.name d0.qual d0.params d0.body d0.scope [] [] (He.fAd K d0.at_) fd) :
    FnOk P w K mg base (L2.CX P w) (k + 3) (He.fAd K d0.at_) fd p0 (spF K (G K) p0.length (bodyX N0.length (b0 r))) := by
  refine fn_ok (N := N0) F sc0 fun cdv A outer s H E hr => ?_
  have tk := tk_def (P := P) (w := w) (K := K) (mg := mg) (base := base) (G := G K) (N := N0) (qual := d0.qual) (scope := d0.scope) (f := He.fAd K d0.at_) (cdv := cdv) (A := A) (outer := outer) (s := s) (H := H) (E := E)
  have po := po_def (P := P) (w := w) (K := K) (mg := mg) (base := base) (N := N0) (qual := d0.qual) (scope := d0.scope) (f := He.fAd K d0.at_) (cdv := cdv) (A := A) (outer := outer) (s := s) (H := H) (E := E)
  exact (mb_cons (ms_set (i := 1) sc0.nd rfl (by first | exact Or.inl rfl | exact Or.inr rfl) (me_int))
    (mb_cons (ms_for po rfl (me_sl (me_var 0) mo_no (mo_yes (me_int))) (mg_name sc0.nd rfl (by first | exact Or.inl rfl | exact Or.inr rfl)) (mb_one (ms_set (i := 1) sc0.nd rfl (by first | exact Or.inl rfl | exact Or.inr rfl) (me_mod (me_fInt rfl (T.free 0) (ma_cons (me_add (me_add (me_mul (me_var 1) (me_int)) (me_mod (me_fInt rfl (T.free 0) (ma_cons (me_var 2) ma_nil)) (me_int))) (me_int)) ma_nil)) (me_int)))))
    (mb_one (ms_ret (me_lst (ma_cons (me_comp (own := [("_law_cell", 2)]) rfl sc0.nd (me_sl (me_var 0) mo_no (mo_yes (me_int))) (blk_mk (N := N0) (sc := defScope (top 17)) (by decide +kernel)) (gt_name (by decide)) ⟨fun _ _ _ _ _ => (pg_name sc0.nd (i := 2) rfl (by first | exact Or.inl rfl | exact Or.inr rfl)), fun _ _ _ _ _ => mts_nil, fun _ _ _ _ _ => (me_fInt rfl (T.free 0) (ma_cons (me_var 2) ma_nil))⟩) (ma_cons (me_int) (ma_cons (me_int) (ma_cons (me_int) (ma_cons (me_var 1) ma_nil))))))))))
/-- _law_mixed -/
theorem fn1 (T : Tx fs fn K mg) (ih : AllOk P w K mg base (G K) fn pss k r) {fd : FuncData} (F : FunD K d1.name d1.qual d1.params d1.body d1.scope [] [] (He.fAd K d1.at_) fd) :
    FnOk P w K mg base (L2.CX P w) (k + 3) (He.fAd K d1.at_) fd p1 (spF K (G K) p1.length (bodyX N1.length (b1 r))) := by
  refine fn_ok (N := N1) F sc1 fun cdv A outer s H E hr => ?_
  have tk := tk_def (P := P) (w := w) (K := K) (mg := mg) (base := base) (G := G K) (N := N1) (qual := d1.qual) (scope := d1.scope) (f := He.fAd K d1.at_) (cdv := cdv) (A := A) (outer := outer) (s := s) (H := H) (E := E)
  have po := po_def (P := P) (w := w) (K := K) (mg := mg) (base := base) (N := N1) (qual := d1.qual) (scope := d1.scope) (f := He.fAd K d1.at_) (cdv := cdv) (A := A) (outer := outer) (s := s) (H := H) (E := E)
  exact (mb_cons (ms_set (i := 2) sc1.nd rfl (by first | exact Or.inl rfl | exact Or.inr rfl) (me_mod (me_fInt rfl (T.free 0) (ma_cons (me_mul (me_add (me_add (me_mod (me_fInt rfl (T.free 0) (ma_cons (me_var 0) ma_nil)) (me_int)) (me_mul (me_int) (me_var 1))) (me_int)) (me_int)) ma_nil)) (me_int)))
    (mb_cons (ms_set (i := 3) sc1.nd rfl (by first | exact Or.inl rfl | exact Or.inr rfl) (me_mod (me_fInt rfl (T.free 0) (ma_cons (me_mul (me_var 2) (me_add (me_div (me_var 2) (me_int)) (me_int))) ma_nil)) (me_int)))
    (mb_cons (ms_set (i := 4) sc1.nd rfl (by first | exact Or.inl rfl | exact Or.inr rfl) (me_mod (me_fInt rfl (T.free 0) (ma_cons (me_mul (me_var 3) (me_add (me_div (me_var 3) (me_int)) (me_int))) ma_nil)) (me_int)))
    (mb_one (ms_ret (me_div (me_var 4) (me_int)))))))
/-- _law_draw -/
theorem fn2 (T : Tx fs fn K mg) (ih : AllOk P w K mg base (G K) fn pss k r) {fd : FuncData} (F : FunD K d2.name d2.qual d2.params d2.body d2.scope [] [] (He.fAd K d2.at_) fd) :
    FnOk P w K mg base (L2.CX P w) (k + 3) (He.fAd K d2.at_) fd p2 (spF K (G K) p2.length (bodyX N2.length (b2 r))) := by
  obtain ⟨fd1, F1, B1, K1⟩ := ih 1 d1 p1 rfl rfl
  refine fn_ok (N := N2) F sc2 fun cdv A outer s H E hr => ?_
  have tk := tk_def (P := P) (w := w) (K := K) (mg := mg) (base := base) (G := G K) (N := N2) (qual := d2.qual) (scope := d2.scope) (f := He.fAd K d2.at_) (cdv := cdv) (A := A) (outer := outer) (s := s) (H := H) (E := E)
  have po := po_def (P := P) (w := w) (K := K) (mg := mg) (base := base) (N := N2) (qual := d2.qual) (scope := d2.scope) (f := He.fAd K d2.at_) (cdv := cdv) (A := A) (outer := outer) (s := s) (H := H) (E := E)
  exact (mb_cons (ms_put (hu_of hr) (me_var 0) (me_int) (me_add (me_ix (hu_of hr) (me_var 0) (me_int)) (me_int)))
    (mb_cons (ms_if (mt_mc (mc_eq hr.units (me_ix (hu_of hr) (me_var 0) (me_int)) (me_int))) (mb_cons (ms_if (mt_mc (mc_ge (me_ix (hu_of hr) (me_var 0) (me_int)) (me_fLen rfl (T.free 1) (ma_cons (me_ix (hu_of hr) (me_var 0) (me_int)) ma_nil)))) (mb_one (ms_ret (me_mod (me_fInt rfl (T.free 0) (ma_cons (me_call F1 hr rfl (T.glo 2) K1 B1 tk (ma_cons (me_ix (hu_of hr) (me_var 0) (me_int)) (ma_cons (me_ix (hu_of hr) (me_var 0) (me_int)) ma_nil))) ma_nil)) (me_var 1)))) mb_nil)
    (mb_cons (ms_set (i := 3) sc2.nd rfl (by first | exact Or.inl rfl | exact Or.inr rfl) (me_ix (hu_of hr) (me_ix (hu_of hr) (me_var 0) (me_int)) (me_ix (hu_of hr) (me_var 0) (me_int))))
    (mb_cons (ms_put (hu_of hr) (me_var 0) (me_int) (me_add (me_ix (hu_of hr) (me_var 0) (me_int)) (me_int)))
    (mb_cons (ms_if (mt_mc (mc_lt (me_var 3) (me_pow (me_int) (me_int)))) (mb_one (ms_ret (me_mod (me_fInt rfl (T.free 0) (ma_cons (me_call F1 hr rfl (T.glo 2) K1 B1 tk (ma_cons (me_var 3) (ma_cons (me_ix (hu_of hr) (me_var 0) (me_int)) ma_nil))) ma_nil)) (me_var 1)))) mb_nil)
    (mb_one (ms_put (hu_of hr) (me_var 0) (me_int) (me_var 3))))))) mb_nil)
    (mb_cons (ms_set (i := 2) sc2.nd rfl (by first | exact Or.inl rfl | exact Or.inr rfl) (me_mod (me_fInt rfl (T.free 0) (ma_cons (me_ix (hu_of hr) (me_var 0) (me_int)) ma_nil)) (me_var 1)))
    (mb_cons (ms_put (hu_of hr) (me_var 0) (me_int) (me_div (me_ix (hu_of hr) (me_var 0) (me_int)) (me_var 1)))
    (mb_one (ms_ret (me_var 2)))))))
/-- _law_name -/
theorem fn3 (T : Tx fs fn K mg) (ih : AllOk P w K mg base (G K) fn pss k r) {fd : FuncData} (F : FunD K d3.name d3.qual d3.params d3.body d3.scope [] [] (He.fAd K d3.at_) fd) :
    FnOk P w K mg base (L2.CX P w) (k + 3) (He.fAd K d3.at_) fd p3 (spF K (G K) p3.length (bodyX N3.length (b3 r))) := by
  obtain ⟨fd2, F2, B2, K2⟩ := ih 2 d2 p2 rfl rfl
  refine fn_ok (N := N3) F sc3 fun cdv A outer s H E hr => ?_
  have tk := tk_def (P := P) (w := w) (K := K) (mg := mg) (base := base) (G := G K) (N := N3) (qual := d3.qual) (scope := d3.scope) (f := He.fAd K d3.at_) (cdv := cdv) (A := A) (outer := outer) (s := s) (H := H) (E := E)
  have po := po_def (P := P) (w := w) (K := K) (mg := mg) (base := base) (N := N3) (qual := d3.qual) (scope := d3.scope) (f := He.fAd K d3.at_) (cdv := cdv) (A := A) (outer := outer) (s := s) (H := H) (E := E)
  exact (mb_cons (ms_set (i := 2) sc3.nd rfl (by first | exact Or.inl rfl | exact Or.inr rfl) (me_str))
    (mb_cons (ms_set (i := 3) sc3.nd rfl (by first | exact Or.inl rfl | exact Or.inr rfl) (me_ix (hu_of hr) (me_lst (ma_cons (me_int) (ma_cons (me_int) (ma_cons (me_int) (ma_cons (me_int) (ma_cons (me_int) (ma_cons (me_int) (ma_cons (me_int) (ma_cons (me_int) ma_nil))))))))) (me_call F2 hr rfl (T.glo 3) K2 B2 tk (ma_cons (me_var 0) (ma_cons (me_int) ma_nil)))))
    (mb_cons (ms_set (i := 4) sc3.nd rfl (by first | exact Or.inl rfl | exact Or.inr rfl) (me_join (me_str) (me_compR1 (own := [("_law_k", 6)]) rfl sc3.nd rfl (T.free 4) (ma_cons (me_var 3) ma_nil) (blk_mk (N := N3) (sc := defScope (top 20)) (by decide +kernel)) (gt_name (by decide)) ⟨fun _ _ _ _ _ => (pg_name sc3.nd (i := 6) rfl (by first | exact Or.inl rfl | exact Or.inr rfl)), fun _ _ _ _ _ => mts_nil, fun _ _ _ _ _ => (me_ix (hu_of hr) (me_var 2) (me_call F2 hr rfl (T.glo 3) K2 B2 tk_quiet (ma_cons (me_var 0) (ma_cons (me_int) ma_nil))))⟩)))
    (mb_cons (ms_if (mt_mc (mc_notIn (hu_of hr) (me_var 4) (me_var 1))) (mb_one (ms_ret (me_var 4))) mb_nil)
    (mb_cons (ms_for po rfl (me_var 2) (mg_name sc3.nd rfl (by first | exact Or.inl rfl | exact Or.inr rfl)) (mb_one (ms_if (mt_mc (mc_notIn (hu_of hr) (me_add (me_sl (me_var 4) mo_no (mo_yes (me_int))) (me_var 5)) (me_var 1))) (mb_one (ms_ret (me_add (me_sl (me_var 4) mo_no (mo_yes (me_int))) (me_var 5)))) mb_nil)))
    (mb_one (ms_ret (me_var 4))))))))
/-- _law_raised -/
theorem fn4 (T : Tx fs fn K mg) (ih : AllOk P w K mg base (G K) fn pss k r) {fd : FuncData} (F : FunD K d4.name d4.qual d4.params d4.body d4.scope [] [] (He.fAd K d4.at_) fd) :
    FnOk P w K mg base (L2.CX P w) (k + 3) (He.fAd K d4.at_) fd p4 (spF K (G K) p4.length (bodyX N4.length (b4 r))) := by
  obtain ⟨fdX0, X0, BX0⟩ := xi0 (P := P) (w := w) (base := base) (k := k) T
  obtain ⟨fdX1, X1, BX1⟩ := xi1 (P := P) (w := w) (base := base) (k := k) T
  obtain ⟨fdX2, X2, BX2⟩ := xi2 (P := P) (w := w) (base := base) (k := k) T
  obtain ⟨fdX3, X3, BX3⟩ := xi3 (P := P) (w := w) (base := base) (k := k) T
  obtain ⟨fdX4, X4, BX4⟩ := xi4 (P := P) (w := w) (base := base) (k := k) T
  obtain ⟨fdX5, X5, BX5⟩ := xi5 (P := P) (w := w) (base := base) (k := k) T
  obtain ⟨fdX6, X6, BX6⟩ := xi6 (P := P) (w := w) (base := base) (k := k) T
  obtain ⟨fdX7, X7, BX7⟩ := xi7 (P := P) (w := w) (base := base) (k := k) T
  obtain ⟨fdX8, X8, BX8⟩ := xi8 (P := P) (w := w) (base := base) (k := k) T
  obtain ⟨fdX9, X9, BX9⟩ := xi9 (P := P) (w := w) (base := base) (k := k) T
  obtain ⟨fdX12, X12, BX12⟩ := xi12 (P := P) (w := w) (base := base) (k := k) T
  refine fn_ok (N := N4) F sc4 fun cdv A outer s H E hr => ?_
  have tk := tk_def (P := P) (w := w) (K := K) (mg := mg) (base := base) (G := G K) (N := N4) (qual := d4.qual) (scope := d4.scope) (f := He.fAd K d4.at_) (cdv := cdv) (A := A) (outer := outer) (s := s) (H := H) (E := E)
  have po := po_def (P := P) (w := w) (K := K) (mg := mg) (base := base) (N := N4) (qual := d4.qual) (scope := d4.scope) (f := He.fAd K d4.at_) (cdv := cdv) (A := A) (outer := outer) (s := s) (H := H) (E := E)
  exact (mb_cons (ms_if (mt_mc (mc_eq hr.units (me_var 0) (me_int))) (mb_one (ms_raise (c := 0) rfl rfl (fXc_ok (T.at_ 5)) k X0 hr BX0 tk rfl (T.glo 6) (me_var 1))) mb_nil)
    (mb_cons (ms_if (mt_mc (mc_eq hr.units (me_var 0) (me_int))) (mb_one (ms_raise (c := 1) rfl rfl (fXc_ok (T.at_ 7)) k X1 hr BX1 tk rfl (T.glo 8) (me_var 1))) mb_nil)
    (mb_cons (ms_if (mt_mc (mc_eq hr.units (me_var 0) (me_int))) (mb_one (ms_raise (c := 2) rfl rfl (fXc_ok (T.at_ 9)) k X2 hr BX2 tk rfl (T.glo 10) (me_var 1))) mb_nil)
    (mb_cons (ms_if (mt_mc (mc_eq hr.units (me_var 0) (me_int))) (mb_one (ms_raise (c := 3) rfl rfl (fXc_ok (T.at_ 11)) k X3 hr BX3 tk rfl (T.glo 12) (me_var 1))) mb_nil)
    (mb_cons (ms_if (mt_mc (mc_eq hr.units (me_var 0) (me_int))) (mb_one (ms_raise (c := 4) rfl rfl (fXc_ok (T.at_ 13)) k X4 hr BX4 tk rfl (T.glo 14) (me_var 1))) mb_nil)
    (mb_cons (ms_if (mt_mc (mc_eq hr.units (me_var 0) (me_int))) (mb_one (ms_raise (c := 5) rfl rfl (fXc_ok (T.at_ 15)) k X5 hr BX5 tk rfl (T.glo 16) (me_var 1))) mb_nil)
    (mb_cons (ms_if (mt_mc (mc_eq hr.units (me_var 0) (me_int))) (mb_one (ms_raise (c := 6) rfl rfl (fXc_ok (T.at_ 17)) k X6 hr BX6 tk rfl (T.glo 18) (me_var 1))) mb_nil)
    (mb_cons (ms_if (mt_mc (mc_eq hr.units (me_var 0) (me_int))) (mb_one (ms_raise (c := 7) rfl rfl (fXc_ok (T.at_ 19)) k X7 hr BX7 tk rfl (T.glo 20) (me_var 1))) mb_nil)
    (mb_cons (ms_if (mt_mc (mc_eq hr.units (me_var 0) (me_int))) (mb_one (ms_raise (c := 8) rfl rfl (fXc_ok (T.at_ 21)) k X8 hr BX8 tk rfl (T.glo 22) (me_var 1))) mb_nil)
    (mb_cons (ms_if (mt_mc (mc_eq hr.units (me_var 0) (me_int))) (mb_one (ms_raise (c := 9) rfl rfl (fXc_ok (T.at_ 23)) k X9 hr BX9 tk rfl (T.glo 24) (me_var 1))) mb_nil)
    (mb_cons (ms_if (mt_mc (mc_eq hr.units (me_var 0) (me_int))) (mb_one (ms_raise (c := 12) rfl rfl (fXc_ok (T.at_ 25)) k X12 hr BX12 tk rfl (T.glo 26) (me_var 1))) mb_nil)
    (mb_cons (ms_if (mt_mc (mc_eq hr.units (me_var 0) (me_int))) (mb_one (ms_raise0 (c := 10) rfl rfl PySem.F.excBase_ValueError (He.exc_ok (T.at_ 27)).1 (T.glo 28) (He.exc_ok (T.at_ 27)).2.1 (raises_own (He.exc_ok (T.at_ 27)).2.2.1 (He.exc_ok (T.at_ 27)).2.2.2) rfl tk)) mb_nil)
    (mb_cons (ms_if (mt_mc (mc_eq hr.units (me_var 0) (me_int))) (mb_one (ms_raise0 (c := 11) rfl rfl PySem.F.excBase_ValueError (He.exc_ok (T.at_ 29)).1 (T.glo 30) (He.exc_ok (T.at_ 29)).2.1 (raises_own (He.exc_ok (T.at_ 29)).2.2.1 (He.exc_ok (T.at_ 29)).2.2.2) rfl tk)) mb_nil)
    (mb_one (ms_raise0 (c := 13) rfl rfl PySem.F.excBase_ValueError (He.exc_ok (T.at_ 31)).1 (T.glo 32) (He.exc_ok (T.at_ 31)).2.1 (raises_own (He.exc_ok (T.at_ 31)).2.2.1 (He.exc_ok (T.at_ 31)).2.2.2) rfl tk)))))))))))))))
/-- _law_flags -/
theorem fn5 (T : Tx fs fn K mg) (ih : AllOk P w K mg base (G K) fn pss k r) {fd : FuncData} (F : FunD K d5.name d5.qual d5.params d5.body d5.scope [] [] (He.fAd K d5.at_) fd) :
    FnOk P w K mg base (L2.CX P w) (k + 3) (He.fAd K d5.at_) fd p5 (spF K (G K) p5.length (bodyX N5.length (b5 r))) := by
  obtain ⟨fd4, F4, B4, K4⟩ := ih 4 d4 p4 rfl rfl
  refine fn_ok (N := N5) F sc5 fun cdv A outer s H E hr => ?_
  have tk := tk_def (P := P) (w := w) (K := K) (mg := mg) (base := base) (G := G K) (N := N5) (qual := d5.qual) (scope := d5.scope) (f := He.fAd K d5.at_) (cdv := cdv) (A := A) (outer := outer) (s := s) (H := H) (E := E)
  have po := po_def (P := P) (w := w) (K := K) (mg := mg) (base := base) (N := N5) (qual := d5.qual) (scope := d5.scope) (f := He.fAd K d5.at_) (cdv := cdv) (A := A) (outer := outer) (s := s) (H := H) (E := E)
  exact (mb_cons (ms_set (i := 2) sc5.nd rfl (by first | exact Or.inl rfl | exact Or.inr rfl) (me_lst ma_nil))
    (mb_cons (ms_try (n := 14) sc5.nd rfl rfl tk (fun W pn xe tk1 po1 => (mb_one (ms_expr (me_call F4 hr rfl (T.glo 33) K4 B4 tk1 (ma_cons (me_var 0) (ma_cons (me_var 1) ma_nil))))))
      (HsOk.cons (fun c hc => of_decide_eq_true (fAll_ok (T.at_ 52) hc)) HsOk.nil)
      (HdOk.as ⟨rfl, by decide, .inl (T.glo 53)⟩ (i := 3) rfl rfl (fun a oe cls d pn hz hf => su_of fun c p => (msu_set (j := 2) (fun q e => by cases e; exact (by decide : (3 : Nat) ≠ 2)) sc5.nd rfl (by first | exact Or.inl rfl | exact Or.inr rfl) (me_lst (ma_cons (me_xi (cs := List.range 14) (i := 3) (fun c hc => ⟨excB_ok (fAll_ok (T.at_ 34) (List.mem_range.mp hc)), of_decide_eq_true (fAll_ok (T.at_ 35) (List.mem_range.mp hc))⟩) rfl (T.glo 6) rfl (T.free 36) hz hf rfl (by first | exact Or.inl rfl | exact Or.inr rfl)) (ma_cons (me_xi (cs := List.range 14) (i := 3) (fun c hc => ⟨excB_ok (fAll_ok (T.at_ 34) (List.mem_range.mp hc)), of_decide_eq_true (fAll_ok (T.at_ 37) (List.mem_range.mp hc))⟩) rfl (T.glo 8) rfl (T.free 36) hz hf rfl (by first | exact Or.inl rfl | exact Or.inr rfl)) (ma_cons (me_xi (cs := List.range 14) (i := 3) (fun c hc => ⟨excB_ok (fAll_ok (T.at_ 34) (List.mem_range.mp hc)), of_decide_eq_true (fAll_ok (T.at_ 38) (List.mem_range.mp hc))⟩) rfl (T.glo 10) rfl (T.free 36) hz hf rfl (by first | exact Or.inl rfl | exact Or.inr rfl)) ma_nil))))
        (msu_set (j := 2) (fun q e => by cases e; exact (by decide : (3 : Nat) ≠ 2)) sc5.nd rfl (by first | exact Or.inl rfl | exact Or.inr rfl) (me_add (me_var 2) (me_lst (ma_cons (me_xi (cs := List.range 14) (i := 3) (fun c hc => ⟨excB_ok (fAll_ok (T.at_ 34) (List.mem_range.mp hc)), of_decide_eq_true (fAll_ok (T.at_ 39) (List.mem_range.mp hc))⟩) rfl (T.glo 12) rfl (T.free 36) hz hf rfl (by first | exact Or.inl rfl | exact Or.inr rfl)) (ma_cons (me_xi (cs := List.range 14) (i := 3) (fun c hc => ⟨excB_ok (fAll_ok (T.at_ 34) (List.mem_range.mp hc)), of_decide_eq_true (fAll_ok (T.at_ 40) (List.mem_range.mp hc))⟩) rfl (T.glo 14) rfl (T.free 36) hz hf rfl (by first | exact Or.inl rfl | exact Or.inr rfl)) (ma_cons (me_xi (cs := List.range 14) (i := 3) (fun c hc => ⟨excB_ok (fAll_ok (T.at_ 34) (List.mem_range.mp hc)), of_decide_eq_true (fAll_ok (T.at_ 41) (List.mem_range.mp hc))⟩) rfl (T.glo 16) rfl (T.free 36) hz hf rfl (by first | exact Or.inl rfl | exact Or.inr rfl)) ma_nil)))))
        (msu_set (j := 2) (fun q e => by cases e; exact (by decide : (3 : Nat) ≠ 2)) sc5.nd rfl (by first | exact Or.inl rfl | exact Or.inr rfl) (me_add (me_var 2) (me_lst (ma_cons (me_xi (cs := List.range 14) (i := 3) (fun c hc => ⟨excB_ok (fAll_ok (T.at_ 34) (List.mem_range.mp hc)), of_decide_eq_true (fAll_ok (T.at_ 42) (List.mem_range.mp hc))⟩) rfl (T.glo 18) rfl (T.free 36) hz hf rfl (by first | exact Or.inl rfl | exact Or.inr rfl)) (ma_cons (me_xi (cs := List.range 14) (i := 3) (fun c hc => ⟨excB_ok (fAll_ok (T.at_ 34) (List.mem_range.mp hc)), of_decide_eq_true (fAll_ok (T.at_ 43) (List.mem_range.mp hc))⟩) rfl (T.glo 20) rfl (T.free 36) hz hf rfl (by first | exact Or.inl rfl | exact Or.inr rfl)) (ma_cons (me_xi (cs := List.range 14) (i := 3) (fun c hc => ⟨excB_ok (fAll_ok (T.at_ 34) (List.mem_range.mp hc)), of_decide_eq_true (fAll_ok (T.at_ 44) (List.mem_range.mp hc))⟩) rfl (T.glo 22) rfl (T.free 36) hz hf rfl (by first | exact Or.inl rfl | exact Or.inr rfl)) ma_nil)))))
        (msu_set (j := 2) (fun q e => by cases e; exact (by decide : (3 : Nat) ≠ 2)) sc5.nd rfl (by first | exact Or.inl rfl | exact Or.inr rfl) (me_add (me_var 2) (me_lst (ma_cons (me_xi (cs := List.range 14) (i := 3) (fun c hc => ⟨excB_ok (fAll_ok (T.at_ 34) (List.mem_range.mp hc)), of_decide_eq_true (fAll_ok (T.at_ 45) (List.mem_range.mp hc))⟩) rfl (T.glo 24) rfl (T.free 36) hz hf rfl (by first | exact Or.inl rfl | exact Or.inr rfl)) (ma_cons (me_xi (cs := List.range 14) (i := 3) (fun c hc => ⟨excB_ok (fAll_ok (T.at_ 34) (List.mem_range.mp hc)), of_decide_eq_true (fAll_ok (T.at_ 46) (List.mem_range.mp hc))⟩) rfl (T.glo 26) rfl (T.free 36) hz hf rfl (by first | exact Or.inl rfl | exact Or.inr rfl)) (ma_cons (me_xi (cs := List.range 14) (i := 3) (fun c hc => ⟨excB_ok (fAll_ok (T.at_ 34) (List.mem_range.mp hc)), of_decide_eq_true (fAll_ok (T.at_ 47) (List.mem_range.mp hc))⟩) rfl (T.glo 28) rfl (T.free 36) hz hf rfl (by first | exact Or.inl rfl | exact Or.inr rfl)) ma_nil)))))
        (msu_set (j := 2) (fun q e => by cases e; exact (by decide : (3 : Nat) ≠ 2)) sc5.nd rfl (by first | exact Or.inl rfl | exact Or.inr rfl) (me_add (me_var 2) (me_lst (ma_cons (me_xi (cs := List.range 14) (i := 3) (fun c hc => ⟨excB_ok (fAll_ok (T.at_ 34) (List.mem_range.mp hc)), of_decide_eq_true (fAll_ok (T.at_ 48) (List.mem_range.mp hc))⟩) rfl (T.glo 30) rfl (T.free 36) hz hf rfl (by first | exact Or.inl rfl | exact Or.inr rfl)) (ma_cons (me_xi (cs := List.range 14) (i := 3) (fun c hc => ⟨excB_ok (fAll_ok (T.at_ 34) (List.mem_range.mp hc)), of_decide_eq_true (fAll_ok (T.at_ 49) (List.mem_range.mp hc))⟩) rfl (T.glo 32) rfl (T.free 36) hz hf rfl (by first | exact Or.inl rfl | exact Or.inr rfl)) (ma_cons (me_xiT (cs := List.range 14) (i := 3) (fun c hc => ⟨excB_ok (fAll_ok (T.at_ 34) (List.mem_range.mp hc)), of_decide_eq_true (fAll_ok (T.at_ 50) (List.mem_range.mp hc))⟩) rfl (T.free 51) (by decide +kernel) rfl (T.free 36) hz hf rfl (by first | exact Or.inl rfl | exact Or.inr rfl)) ma_nil)))))
        msu_nil)))))) HdOk.nil))
    (mb_one (ms_ret (me_var 2)))))
/-- _law_value -/
theorem fn6 (T : Tx fs fn K mg) (ih : AllOk P w K mg base (G K) fn pss k r) {fd : FuncData} (F : FunD K d6.name d6.qual d6.params d6.body d6.scope [] [] (He.fAd K d6.at_) fd) :
    FnOk P w K mg base (L2.CX P w) (k + 3) (He.fAd K d6.at_) fd p6 (spF K (G K) p6.length (bodyX N6.length (b6 r))) := by
  obtain ⟨fd4, F4, B4, K4⟩ := ih 4 d4 p4 rfl rfl
  refine fn_ok (N := N6) F sc6 fun cdv A outer s H E hr => ?_
  have tk := tk_def (P := P) (w := w) (K := K) (mg := mg) (base := base) (G := G K) (N := N6) (qual := d6.qual) (scope := d6.scope) (f := He.fAd K d6.at_) (cdv := cdv) (A := A) (outer := outer) (s := s) (H := H) (E := E)
  have po := po_def (P := P) (w := w) (K := K) (mg := mg) (base := base) (N := N6) (qual := d6.qual) (scope := d6.scope) (f := He.fAd K d6.at_) (cdv := cdv) (A := A) (outer := outer) (s := s) (H := H) (E := E)
  exact (mb_cons (ms_set (i := 2) sc6.nd rfl (by first | exact Or.inl rfl | exact Or.inr rfl) (me_non))
    (mb_cons (ms_try (n := 14) sc6.nd rfl rfl tk (fun W pn xe tk1 po1 => (mb_one (ms_expr (me_call F4 hr rfl (T.glo 33) K4 B4 tk1 (ma_cons (me_var 0) (ma_cons (me_var 1) ma_nil))))))
      (HsOk.cons (fun c hc => of_decide_eq_true (fAll_ok (T.at_ 67) hc)) (HsOk.cons (fun c hc => of_decide_eq_true (fAll_ok (T.at_ 66) hc)) (HsOk.cons (fun c hc => of_decide_eq_true (fAll_ok (T.at_ 65) hc)) (HsOk.cons (fun c hc => of_decide_eq_true (fAll_ok (T.at_ 64) hc)) (HsOk.cons (fun c hc => of_decide_eq_true (fAll_ok (T.at_ 63) hc)) (HsOk.cons (fun c hc => of_decide_eq_true (fAll_ok (T.at_ 62) hc)) (HsOk.cons (fun c hc => of_decide_eq_true (fAll_ok (T.at_ 61) hc)) (HsOk.cons (fun c hc => of_decide_eq_true (fAll_ok (T.at_ 60) hc)) (HsOk.cons (fun c hc => of_decide_eq_true (fAll_ok (T.at_ 59) hc)) (HsOk.cons (fun c hc => of_decide_eq_true (fAll_ok (T.at_ 58) hc)) (HsOk.cons (fun c hc => of_decide_eq_true (fAll_ok (T.at_ 57) hc)) (HsOk.cons (fun c hc => of_decide_eq_true (fAll_ok (T.at_ 56) hc)) (HsOk.cons (fun c hc => of_decide_eq_true (fAll_ok (T.at_ 55) hc)) (HsOk.cons (fun c hc => of_decide_eq_true (fAll_ok (T.at_ 54) hc)) HsOk.nil))))))))))))))
      (HdOk.as ⟨rfl, by decide, .inl (T.glo 6)⟩ (i := 3) rfl rfl (fun a oe cls d pn hz hf => su_of fun c p => (msu_set (j := 2) (fun q e => by cases e; exact (by decide : (3 : Nat) ≠ 2)) sc6.nd rfl (by first | exact Or.inl rfl | exact Or.inr rfl) (me_tup (ma_cons (me_int) (ma_cons (me_xf (cs := [0]) (List.forall_mem_singleton.mpr ⟨excX (excB_ok (fAll_ok (T.at_ 34) (c := 0) (by decide))), (fXc_ok (T.at_ 5)).no, rfl⟩) hz hf rfl (by first | exact Or.inl rfl | exact Or.inr rfl)) ma_nil)))
        msu_nil)) (HdOk.as ⟨rfl, by decide, .inl (T.glo 8)⟩ (i := 3) rfl rfl (fun a oe cls d pn hz hf => su_of fun c p => (msu_set (j := 2) (fun q e => by cases e; exact (by decide : (3 : Nat) ≠ 2)) sc6.nd rfl (by first | exact Or.inl rfl | exact Or.inr rfl) (me_tup (ma_cons (me_int) (ma_cons (me_xf (cs := [1]) (List.forall_mem_singleton.mpr ⟨excX (excB_ok (fAll_ok (T.at_ 34) (c := 1) (by decide))), (fXc_ok (T.at_ 7)).no, rfl⟩) hz hf rfl (by first | exact Or.inl rfl | exact Or.inr rfl)) ma_nil)))
        msu_nil)) (HdOk.as ⟨rfl, by decide, .inl (T.glo 10)⟩ (i := 3) rfl rfl (fun a oe cls d pn hz hf => su_of fun c p => (msu_set (j := 2) (fun q e => by cases e; exact (by decide : (3 : Nat) ≠ 2)) sc6.nd rfl (by first | exact Or.inl rfl | exact Or.inr rfl) (me_tup (ma_cons (me_int) (ma_cons (me_xf (cs := [2]) (List.forall_mem_singleton.mpr ⟨excX (excB_ok (fAll_ok (T.at_ 34) (c := 2) (by decide))), (fXc_ok (T.at_ 9)).no, rfl⟩) hz hf rfl (by first | exact Or.inl rfl | exact Or.inr rfl)) ma_nil)))
        msu_nil)) (HdOk.as ⟨rfl, by decide, .inl (T.glo 12)⟩ (i := 3) rfl rfl (fun a oe cls d pn hz hf => su_of fun c p => (msu_set (j := 2) (fun q e => by cases e; exact (by decide : (3 : Nat) ≠ 2)) sc6.nd rfl (by first | exact Or.inl rfl | exact Or.inr rfl) (me_tup (ma_cons (me_int) (ma_cons (me_xf (cs := [3]) (List.forall_mem_singleton.mpr ⟨excX (excB_ok (fAll_ok (T.at_ 34) (c := 3) (by decide))), (fXc_ok (T.at_ 11)).no, rfl⟩) hz hf rfl (by first | exact Or.inl rfl | exact Or.inr rfl)) ma_nil)))
        msu_nil)) (HdOk.as ⟨rfl, by decide, .inl (T.glo 14)⟩ (i := 3) rfl rfl (fun a oe cls d pn hz hf => su_of fun c p => (msu_set (j := 2) (fun q e => by cases e; exact (by decide : (3 : Nat) ≠ 2)) sc6.nd rfl (by first | exact Or.inl rfl | exact Or.inr rfl) (me_tup (ma_cons (me_int) (ma_cons (me_xf (cs := [4]) (List.forall_mem_singleton.mpr ⟨excX (excB_ok (fAll_ok (T.at_ 34) (c := 4) (by decide))), (fXc_ok (T.at_ 13)).no, rfl⟩) hz hf rfl (by first | exact Or.inl rfl | exact Or.inr rfl)) ma_nil)))
        msu_nil)) (HdOk.as ⟨rfl, by decide, .inl (T.glo 16)⟩ (i := 3) rfl rfl (fun a oe cls d pn hz hf => su_of fun c p => (msu_set (j := 2) (fun q e => by cases e; exact (by decide : (3 : Nat) ≠ 2)) sc6.nd rfl (by first | exact Or.inl rfl | exact Or.inr rfl) (me_tup (ma_cons (me_int) (ma_cons (me_xf (cs := [5]) (List.forall_mem_singleton.mpr ⟨excX (excB_ok (fAll_ok (T.at_ 34) (c := 5) (by decide))), (fXc_ok (T.at_ 15)).no, rfl⟩) hz hf rfl (by first | exact Or.inl rfl | exact Or.inr rfl)) ma_nil)))
        msu_nil)) (HdOk.as ⟨rfl, by decide, .inl (T.glo 18)⟩ (i := 3) rfl rfl (fun a oe cls d pn hz hf => su_of fun c p => (msu_set (j := 2) (fun q e => by cases e; exact (by decide : (3 : Nat) ≠ 2)) sc6.nd rfl (by first | exact Or.inl rfl | exact Or.inr rfl) (me_tup (ma_cons (me_int) (ma_cons (me_xf (cs := [6]) (List.forall_mem_singleton.mpr ⟨excX (excB_ok (fAll_ok (T.at_ 34) (c := 6) (by decide))), (fXc_ok (T.at_ 17)).no, rfl⟩) hz hf rfl (by first | exact Or.inl rfl | exact Or.inr rfl)) ma_nil)))
        msu_nil)) (HdOk.as ⟨rfl, by decide, .inl (T.glo 20)⟩ (i := 3) rfl rfl (fun a oe cls d pn hz hf => su_of fun c p => (msu_set (j := 2) (fun q e => by cases e; exact (by decide : (3 : Nat) ≠ 2)) sc6.nd rfl (by first | exact Or.inl rfl | exact Or.inr rfl) (me_tup (ma_cons (me_int) (ma_cons (me_xf (cs := [7]) (List.forall_mem_singleton.mpr ⟨excX (excB_ok (fAll_ok (T.at_ 34) (c := 7) (by decide))), (fXc_ok (T.at_ 19)).no, rfl⟩) hz hf rfl (by first | exact Or.inl rfl | exact Or.inr rfl)) ma_nil)))
        msu_nil)) (HdOk.as ⟨rfl, by decide, .inl (T.glo 22)⟩ (i := 3) rfl rfl (fun a oe cls d pn hz hf => su_of fun c p => (msu_set (j := 2) (fun q e => by cases e; exact (by decide : (3 : Nat) ≠ 2)) sc6.nd rfl (by first | exact Or.inl rfl | exact Or.inr rfl) (me_tup (ma_cons (me_int) (ma_cons (me_xf (cs := [8]) (List.forall_mem_singleton.mpr ⟨excX (excB_ok (fAll_ok (T.at_ 34) (c := 8) (by decide))), (fXc_ok (T.at_ 21)).no, rfl⟩) hz hf rfl (by first | exact Or.inl rfl | exact Or.inr rfl)) ma_nil)))
        msu_nil)) (HdOk.as ⟨rfl, by decide, .inl (T.glo 24)⟩ (i := 3) rfl rfl (fun a oe cls d pn hz hf => su_of fun c p => (msu_set (j := 2) (fun q e => by cases e; exact (by decide : (3 : Nat) ≠ 2)) sc6.nd rfl (by first | exact Or.inl rfl | exact Or.inr rfl) (me_tup (ma_cons (me_int) (ma_cons (me_xf (cs := [9]) (List.forall_mem_singleton.mpr ⟨excX (excB_ok (fAll_ok (T.at_ 34) (c := 9) (by decide))), (fXc_ok (T.at_ 23)).no, rfl⟩) hz hf rfl (by first | exact Or.inl rfl | exact Or.inr rfl)) ma_nil)))
        msu_nil)) (HdOk.as ⟨rfl, by decide, .inl (T.glo 26)⟩ (i := 3) rfl rfl (fun a oe cls d pn hz hf => su_of fun c p => (msu_set (j := 2) (fun q e => by cases e; exact (by decide : (3 : Nat) ≠ 2)) sc6.nd rfl (by first | exact Or.inl rfl | exact Or.inr rfl) (me_tup (ma_cons (me_int) (ma_cons (me_xf (cs := [12]) (List.forall_mem_singleton.mpr ⟨excX (excB_ok (fAll_ok (T.at_ 34) (c := 12) (by decide))), (fXc_ok (T.at_ 25)).no, rfl⟩) hz hf rfl (by first | exact Or.inl rfl | exact Or.inr rfl)) ma_nil)))
        msu_nil)) (HdOk.bare ⟨rfl, by decide, .inl (T.glo 28)⟩ (fun a oe cls d pn hz hf => su_of fun c p => (msu_set (j := 2) (fun q e => nomatch e) sc6.nd rfl (by first | exact Or.inl rfl | exact Or.inr rfl) (me_tup (ma_cons (me_int) (ma_cons (me_var 1) ma_nil)))
        msu_nil)) (HdOk.bare ⟨rfl, by decide, .inl (T.glo 30)⟩ (fun a oe cls d pn hz hf => su_of fun c p => (msu_set (j := 2) (fun q e => nomatch e) sc6.nd rfl (by first | exact Or.inl rfl | exact Or.inr rfl) (me_tup (ma_cons (me_int) (ma_cons (me_var 1) ma_nil)))
        msu_nil)) (HdOk.bare ⟨rfl, by decide, .inl (T.glo 32)⟩ (fun a oe cls d pn hz hf => su_of fun c p => (msu_set (j := 2) (fun q e => nomatch e) sc6.nd rfl (by first | exact Or.inl rfl | exact Or.inr rfl) (me_tup (ma_cons (me_int) (ma_cons (me_var 1) ma_nil)))
        msu_nil)) HdOk.nil)))))))))))))))
    (mb_one (ms_ret (me_var 2)))))
/-- law -/
theorem fn7 (T : Tx fs fn K mg) (ih : AllOk P w K mg base (G K) fn pss k r) {fd : FuncData} (F : FunD K d7.name d7.qual d7.params d7.body d7.scope [] [] (He.fAd K d7.at_) fd) :
    FnOk P w K mg base (L2.CX P w) (k + 3) (He.fAd K d7.at_) fd p7 (spF K (G K) p7.length (bodyX N7.length (b7 r))) := by
  obtain ⟨fd0, F0, B0, K0⟩ := ih 0 d0 p0 rfl rfl
  obtain ⟨fd2, F2, B2, K2⟩ := ih 2 d2 p2 rfl rfl
  obtain ⟨fd3, F3, B3, K3⟩ := ih 3 d3 p3 rfl rfl
  obtain ⟨fd5, F5, B5, K5⟩ := ih 5 d5 p5 rfl rfl
  obtain ⟨fd6, F6, B6, K6⟩ := ih 6 d6 p6 rfl rfl
  refine fn_ok (N := N7) F sc7 fun cdv A outer s H E hr => ?_
  have tk := tk_def (P := P) (w := w) (K := K) (mg := mg) (base := base) (G := G K) (N := N7) (qual := d7.qual) (scope := d7.scope) (f := He.fAd K d7.at_) (cdv := cdv) (A := A) (outer := outer) (s := s) (H := H) (E := E)
  have po := po_def (P := P) (w := w) (K := K) (mg := mg) (base := base) (N := N7) (qual := d7.qual) (scope := d7.scope) (f := He.fAd K d7.at_) (cdv := cdv) (A := A) (outer := outer) (s := s) (H := H) (E := E)
  exact (mb_cons (ms_set (i := 1) sc7.nd rfl (by first | exact Or.inl rfl | exact Or.inr rfl) (me_call F0 hr rfl (T.glo 68) K0 B0 tk (ma_cons (me_var 0) ma_nil)))
    (mb_cons (ms_set (i := 2) sc7.nd rfl (by first | exact Or.inl rfl | exact Or.inr rfl) (me_call F2 hr rfl (T.glo 3) K2 B2 tk (ma_cons (me_var 1) (ma_cons (me_pow (me_int) (me_int)) ma_nil))))
    (mb_cons (ms_set (i := 3) sc7.nd rfl (by first | exact Or.inl rfl | exact Or.inr rfl) (me_call F3 hr rfl (T.glo 69) K3 B3 tk (ma_cons (me_var 1) (ma_cons (me_lst ma_nil) ma_nil))))
    (mb_cons (ms_for po rfl (me_lst (ma_cons (me_var 2) (ma_cons (me_neg (me_int)) (ma_cons (me_var 3) (ma_cons (me_tup (ma_cons (me_var 2) (ma_cons (me_int) ma_nil))) (ma_cons (me_tup ma_nil) (ma_cons (me_non) ma_nil))))))) (mg_name sc7.nd rfl (by first | exact Or.inl rfl | exact Or.inr rfl)) (mb_one (ms_forR1 po rfl rfl (T.free 4) (ma_cons (me_int) ma_nil) (mg_name sc7.nd rfl (by first | exact Or.inl rfl | exact Or.inr rfl)) (mb_cons (ms_set (i := 6) sc7.nd rfl (by first | exact Or.inl rfl | exact Or.inr rfl) (me_add (me_compR1 (own := [("_law_k", 7)]) rfl sc7.nd rfl (T.free 4) (ma_cons (me_int) ma_nil) (blk_mk (N := N7) (sc := defScope (top 24)) (by decide +kernel)) (gt_name (by decide)) ⟨fun _ _ _ _ _ => (pg_name sc7.nd (i := 7) rfl (by first | exact Or.inl rfl | exact Or.inr rfl)), fun _ _ _ _ _ => mts_nil, fun _ _ _ _ _ => (me_mc (mc_eq hr.units (me_var 7) (me_var 5)))⟩) (me_lst (ma_cons (me_bl) ma_nil))))
    (mb_one (ms_if (mt_w (mw_or (mt_mc (mc_ne hr.units (me_call F5 hr rfl (T.glo 70) K5 B5 tk (ma_cons (me_var 5) (ma_cons (me_var 4) ma_nil))) (me_var 6))) (mw_or1 (mt_mc (mc_ne hr.units (me_call F6 hr rfl (T.glo 71) K6 B6 tk (ma_cons (me_var 5) (ma_cons (me_var 4) ma_nil))) (me_tup (ma_cons (me_var 5) (ma_cons (me_var 4) ma_nil)))))))) (mb_one (ms_ret (me_bl))) mb_nil))))))
    (mb_one (ms_ret (me_bl)))))))
theorem all_ok (T : Tx fs fn K mg) : ∀ k, AllOk P w K mg base (G K) fn pss k (callF tbl k)
  | 0 => fun i d p hd hp => by
    match i, hd, hp with
    | 0, hd, hp =>
      obtain rfl : d0 = d := Option.some.inj hd
      obtain rfl : p0 = p := Option.some.inj hp
      obtain ⟨fd, F⟩ := T.c.def_ 0 (d := d0) rfl
      exact ⟨fd, fn_bad.mono (Nat.zero_le _), F.bindsN fun _ _ _ _ _ _ us hl => match us, hl with | [_], _ => rfl, F.kp⟩
    | 1, hd, hp =>
      obtain rfl : d1 = d := Option.some.inj hd
      obtain rfl : p1 = p := Option.some.inj hp
      obtain ⟨fd, F⟩ := T.c.def_ 1 (d := d1) rfl
      exact ⟨fd, fn_bad.mono (Nat.zero_le _), F.bindsN fun _ _ _ _ _ _ us hl => match us, hl with | [_, _], _ => rfl, F.kp⟩
    | 2, hd, hp =>
      obtain rfl : d2 = d := Option.some.inj hd
      obtain rfl : p2 = p := Option.some.inj hp
      obtain ⟨fd, F⟩ := T.c.def_ 2 (d := d2) rfl
      exact ⟨fd, fn_bad.mono (Nat.zero_le _), F.bindsN fun _ _ _ _ _ _ us hl => match us, hl with | [_, _], _ => rfl, F.kp⟩
    | 3, hd, hp =>
      obtain rfl : d3 = d := Option.some.inj hd
      obtain rfl : p3 = p := Option.some.inj hp
      obtain ⟨fd, F⟩ := T.c.def_ 3 (d := d3) rfl
      exact ⟨fd, fn_bad.mono (Nat.zero_le _), F.bindsN fun _ _ _ _ _ _ us hl => match us, hl with | [_, _], _ => rfl, F.kp⟩
    | 4, hd, hp =>
      obtain rfl : d4 = d := Option.some.inj hd
      obtain rfl : p4 = p := Option.some.inj hp
      obtain ⟨fd, F⟩ := T.c.def_ 4 (d := d4) rfl
      exact ⟨fd, fn_bad.mono (Nat.zero_le _), F.bindsN fun _ _ _ _ _ _ us hl => match us, hl with | [_, _], _ => rfl, F.kp⟩
    | 5, hd, hp =>
      obtain rfl : d5 = d := Option.some.inj hd
      obtain rfl : p5 = p := Option.some.inj hp
      obtain ⟨fd, F⟩ := T.c.def_ 5 (d := d5) rfl
      exact ⟨fd, fn_bad.mono (Nat.zero_le _), F.bindsN fun _ _ _ _ _ _ us hl => match us, hl with | [_, _], _ => rfl, F.kp⟩
    | 6, hd, hp =>
      obtain rfl : d6 = d := Option.some.inj hd
      obtain rfl : p6 = p := Option.some.inj hp
      obtain ⟨fd, F⟩ := T.c.def_ 6 (d := d6) rfl
      exact ⟨fd, fn_bad.mono (Nat.zero_le _), F.bindsN fun _ _ _ _ _ _ us hl => match us, hl with | [_, _], _ => rfl, F.kp⟩
    | 7, hd, hp =>
      obtain rfl : d7 = d := Option.some.inj hd
      obtain rfl : p7 = p := Option.some.inj hp
      obtain ⟨fd, F⟩ := T.c.def_ 7 (d := d7) rfl
      exact ⟨fd, fn_bad.mono (Nat.zero_le _), F.bindsN fun _ _ _ _ _ _ us hl => match us, hl with | [_], _ => rfl, F.kp⟩
    | n + 8, hd, hp => exact absurd hp (by simp [pss])
  | k + 1 => fun i d p hd hp => by
    have ih := all_ok T k
    match i, hd, hp with
    | 0, hd, hp =>
      obtain rfl : d0 = d := Option.some.inj hd
      obtain rfl : p0 = p := Option.some.inj hp
      obtain ⟨fd, F⟩ := T.c.def_ 0 (d := d0) rfl
      exact ⟨fd, fn0 T ih F, F.bindsN fun _ _ _ _ _ _ us hl => match us, hl with | [_], _ => rfl, F.kp⟩
    | 1, hd, hp =>
      obtain rfl : d1 = d := Option.some.inj hd
      obtain rfl : p1 = p := Option.some.inj hp
      obtain ⟨fd, F⟩ := T.c.def_ 1 (d := d1) rfl
      exact ⟨fd, fn1 T ih F, F.bindsN fun _ _ _ _ _ _ us hl => match us, hl with | [_, _], _ => rfl, F.kp⟩
    | 2, hd, hp =>
      obtain rfl : d2 = d := Option.some.inj hd
      obtain rfl : p2 = p := Option.some.inj hp
      obtain ⟨fd, F⟩ := T.c.def_ 2 (d := d2) rfl
      exact ⟨fd, fn2 T ih F, F.bindsN fun _ _ _ _ _ _ us hl => match us, hl with | [_, _], _ => rfl, F.kp⟩
    | 3, hd, hp =>
      obtain rfl : d3 = d := Option.some.inj hd
      obtain rfl : p3 = p := Option.some.inj hp
      obtain ⟨fd, F⟩ := T.c.def_ 3 (d := d3) rfl
      exact ⟨fd, fn3 T ih F, F.bindsN fun _ _ _ _ _ _ us hl => match us, hl with | [_, _], _ => rfl, F.kp⟩
    | 4, hd, hp =>
      obtain rfl : d4 = d := Option.some.inj hd
      obtain rfl : p4 = p := Option.some.inj hp
      obtain ⟨fd, F⟩ := T.c.def_ 4 (d := d4) rfl
      exact ⟨fd, fn4 T ih F, F.bindsN fun _ _ _ _ _ _ us hl => match us, hl with | [_, _], _ => rfl, F.kp⟩
    | 5, hd, hp =>
      obtain rfl : d5 = d := Option.some.inj hd
      obtain rfl : p5 = p := Option.some.inj hp
      obtain ⟨fd, F⟩ := T.c.def_ 5 (d := d5) rfl
      exact ⟨fd, fn5 T ih F, F.bindsN fun _ _ _ _ _ _ us hl => match us, hl with | [_, _], _ => rfl, F.kp⟩
    | 6, hd, hp =>
      obtain rfl : d6 = d := Option.some.inj hd
      obtain rfl : p6 = p := Option.some.inj hp
      obtain ⟨fd, F⟩ := T.c.def_ 6 (d := d6) rfl
      exact ⟨fd, fn6 T ih F, F.bindsN fun _ _ _ _ _ _ us hl => match us, hl with | [_, _], _ => rfl, F.kp⟩
    | 7, hd, hp =>
      obtain rfl : d7 = d := Option.some.inj hd
      obtain rfl : p7 = p := Option.some.inj hp
      obtain ⟨fd, F⟩ := T.c.def_ 7 (d := d7) rfl
      exact ⟨fd, fn7 T ih F, F.bindsN fun _ _ _ _ _ _ us hl => match us, hl with | [_], _ => rfl, F.kp⟩
    | n + 8, hd, hp => exact absurd hp (by simp [pss])
end
def nm0 : List Str := ["__name__", "CoverError", "BadOperators", "BadKind", "BadRules", "BadGoal", "BadTree", "BadCover", "BadNumber", "BadSource", "BadText", "BadRows", "NoCover", "NoTree", "TooMany", "NothingDone", "_law_bag", "_law_mixed", "_law_draw", "_law_name", "_law_raised", "_law_flags", "_law_value"]
def nms : List Str := nm0
abbrev R : PySem.W.OpenRow := PySem.W.OpenLaw.row PySem.Challenge.rw_bestcovers_k07_errors_and_their_attribut
abbrev hk : PySem.W.Hook := hookM 6 fs fn
def ob (s : PySem.W.SharedT) : He.AlD := obsMG 6 fs fn (HandSHeadRun.getT s)
theorem ob_eq (s : PySem.W.SharedT) : ob s = hk.obs s.abs := obsMG_eq (HandSHeadRun.getT_eq s)
theorem run (w : World) : HandSHeadRun.RunEq R (PySem.W.view R.prog [24]) hk ob 8000 nms w := by
  intro os
  kernel_rfl
/-- the script read, whatever it is -/
def Plain : Prop := ∀ ns : List Int, ns.length ≤ 63 → ∃ h', callF tbl 31 7 [.frl (ns.map .int)] [] [] = .ok (.bl true) h'
theorem facts (hp : Plain) {P : Program} {w : World} {K : PySem.W.Frag} {h : Heap} {mg : Str → Option Value} {f : Addr} (X : K.In h) (G0 : h.Ns mainGlobals mg) (hfa : mg ("law" : Str) = some (.ref f)) (c : SaysM fs fn K) :
    ∃ (fd : FuncData) (sp : Sp), (∀ (s : Shared) (v : Value), BindsTo s fd ⟨[v], []⟩ [("_law_script", v)]) ∧ (∀ (H : Hp) (a : Addr) (ns : List Int), ns.length ≤ 63 → Only H → SqL K H a (ns.map V.int) → sp [.ref a] H (fun v _ => v = .bl true) fun _ _ _ => False) ∧ ∀ base : Heap, K.In base → base.Ns mainGlobals mg → FnOk P w K mg base L2.CX0 33 f fd ["_law_script"] sp := by
  have T : Tx fs fn K mg := ⟨c, h, X, G0⟩
  obtain ⟨fd, F⟩ := c.def_ 7 (d := d7) rfl
  have e := hfa.symm.trans (T.glo 72)
  cases e
  have b := FunD.bindsA (ps := ["_law_script"]) F fun _ _ _ _ _ _ us hl => match us, hl with | [_], _ => rfl
  exact ⟨fd, fun vs H Q _ => spF K (G K) 1 (callF tbl 31 7) vs H Q fun _ _ _ => False, fun s v => b s [v] rfl, fun H a ns hl ho hS => top_sp rfl ho hS (hp ns hl), fun base _ _ => fn_top (fn7 T (all_ok T 30) F)⟩
end Gx_k07
open PySem PySem.W PySem.Calls PyProof.Rows
theorem Gx_k07.holds (hp : Gx_k07.Plain) : PySem.Challenge.rw_bestcovers_k07_errors_and_their_attribut.Holds := by
  w_on; o_law
  refine HandSHeadRun.head_any (r := OpenLaw.row PySem.Challenge.rw_bestcovers_k07_errors_and_their_attribut) (q := view (OpenLaw.row PySem.Challenge.rw_bestcovers_k07_errors_and_their_attribut).prog [24]) (H := Gx_k07.hk) (ob := Gx_k07.ob) (M := 8000) (loose := Gx_k07.nms) (d := HandSHeadRun.topDef (OpenLaw.row PySem.Challenge.rw_bestcovers_k07_errors_and_their_attribut).prog 24) (kwd := []) Gx_k07.ob_eq
    (by kernel_rfl) (fun s => by kernel_rfl) Gx_k07.run (by kernel_rfl) (by kernel_rfl) (by kernel_rfl) (by rfl) (by first | assumption | decide +kernel) (by decide +kernel) ⟨rfl, rfl, rfl, rfl, rfl, by decide +kernel⟩ ?hw ?hc
  case hw => w_witness2
  case hc =>
    refine L2.walk_ofE (l := PySem.Challenge.rw_bestcovers_k07_errors_and_their_attribut) (n := 63) (k := 33) (x := "_law_script") (CX := L2.CX0) rfl (by decide) (by kernel_rfl) ⟨rfl, by decide, by decide⟩ ?F (fun _ _ _ _ z => z)
    intro w mg fa h Y G hmg0
    obtain ⟨K, KX, c⟩ := Y
    have hmg : mg ("law" : PySem.Str) = some (.ref fa) := by
      have e : (HandSHeadRun.topDef (OpenLaw.row PySem.Challenge.rw_bestcovers_k07_errors_and_their_attribut).prog 24).name = ("law" : PySem.Str) := by kernel_rfl
      rw [← e]
      exact hmg0
    obtain ⟨fd, sp, hb, hs, hF⟩ := Gx_k07.facts hp (P := (PySem.Challenge.rw_bestcovers_k07_errors_and_their_attribut).prog) (w := w) KX G hmg c
    exact ⟨K, fd, sp, KX, hb, hs, hF⟩

theorem PySem.Challenge.cw_bestcovers_k07_errors_and_their_attribut_holds : PySem.Challenge.rw_bestcovers_k07_errors_and_their_attribut.Holds := by
  exact Gx_k07.holds Gx_k07.plain

