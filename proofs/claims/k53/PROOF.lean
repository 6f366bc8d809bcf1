import PyProof.Rows.All
import Wide.All
import OpenK.AllK
import Wide.FinOn
import HandS.ForMost
import HandS.ForExc
import HandS.Conv
import HandS.IsInst
import HandS.ExcInit
import HandS.ExcField
import HandS.ExcIs
import KE.KExcIs
import HandS.TryMany
import HandS.Defaults
import HandS.CallSlots
import HandS.Property
import HandS.TupAny
import HandS.Flow
import HandS.CallRecv
import HandS.Wide
import KE.LtSeq
import KE.KDictKeyed
import KE.DataEq
import HandS.Words
import HandS.More
import HandS.Head0
import HandS.Head1
import HandS.Head2
import HandS.HeadEnd
import HandS.HeadHook1
import HandS.HeadHook2
import KE.LtData
import HandS.Set
import HandS.SetFor
import HandS.Strs
import HandS.TupSets
import HandS.OwnEq
import OpenK.KOps
import KE.KOpsOwn
import HandS.TryOnly
import HandS.Deep
import HandS.StrMore
import HandS.RevTup
import HandS.Rev
import HandS.RevRange
import HandS.DictComp
import HandS.Style
import HandS.TupLen
import KE.KeyNested
import HandS.SetKeys
import KE.SortData
import KE.GoesEnum
import HandS.SortKw
import KE.KMinBuiltin
import PySem.Challenge.RW_bestcovers_k53_limits_of_unfolded_trees
import KE.DatumOrd
set_option Elab.async false
set_option linter.all false
set_option maxRecDepth 100000
section
set_option maxHeartbeats 1000000
namespace Mi
open PySem L2
/-- data: a tuple and a list that nobody can change stand in it, a changeable thing by its number -/
inductive D where
  | non | bl (b : Bool) | int (i : Int) | str (x : Str) | tup (xs : List D) | frl (xs : List D) | ref (n : Nat)
/-- a changeable thing -/
inductive Ob where
  | lst (xs : List D) | dic (kvs : List (Key × D)) | dct (kvs : List (List Key × D)) | ins (c : Nat) (fs : List (Str × D)) | dnk (kvs : List (NestedKey × D))
abbrev Hh := List Ob
/-- how a piece of a program ends: with a value, with an error (its class's number, what it holds), or in a way that nothing is said of -/
inductive R (α : Type) where
  | ok (a : α) (h : Hh) | exc (c : Nat) (p : Option D) (h : Hh) | bad
def R.bind {α β : Type} (r : R α) (f : α → Hh → R β) : R β := match r with
  | .ok a h => f a h
  | .exc c p h => .exc c p h
  | .bad => .bad
@[simp] theorem R.bind_ok {α β : Type} (a : α) (h : Hh) (f : α → Hh → R β) : (R.ok a h).bind f = f a h := rfl
@[simp] theorem R.bind_exc {α β : Type} (c : Nat) (p : Option D) (h : Hh) (f : α → Hh → R β) : (R.exc c p h : R α).bind f = .exc c p h := rfl
@[simp] theorem R.bind_bad {α β : Type} (f : α → Hh → R β) : (R.bad : R α).bind f = .bad := rfl
abbrev Rho := List (Option D)
/-- an expression, a test, an argument row: the slots, the locked things, the heap -/
abbrev EX := Rho → List Nat → Hh → R D
abbrev TX := Rho → List Nat → Hh → R Bool
abbrev AX := Rho → List Nat → Hh → R (List D)
/-- how a statement ends -/
inductive SR where
  | nx (ρ : Rho) (h : Hh) | ret (d : D) (h : Hh) | brk (ρ : Rho) (h : Hh) | cnt (ρ : Rho) (h : Hh) | exc (c : Nat) (p : Option D) (ρ : Rho) (h : Hh) | bad
abbrev SX := Rho → List Nat → Hh → SR
/-- a def -/
abbrev FX := List D → List Nat → Hh → R D
/-- behind an expression, in a statement -/
def R.toS {α : Type} (r : R α) (ρ : Rho) (f : α → Hh → SR) : SR := match r with
  | .ok a h => f a h
  | .exc c p h => .exc c p ρ h
  | .bad => .bad
@[simp] theorem R.toS_ok {α : Type} (a : α) (h : Hh) (ρ : Rho) (f : α → Hh → SR) : (R.ok a h).toS ρ f = f a h := rfl
@[simp] theorem R.toS_exc {α : Type} (c : Nat) (p : Option D) (h : Hh) (ρ : Rho) (f : α → Hh → SR) : (R.exc c p h : R α).toS ρ f = .exc c p ρ h := rfl
@[simp] theorem R.toS_bad {α : Type} (ρ : Rho) (f : α → Hh → SR) : (R.bad : R α).toS ρ f = .bad := rfl
/-- behind a statement -/
def SR.seq (r : SR) (f : Rho → Hh → SR) : SR := match r with
  | .nx ρ h => f ρ h
  | r => r
@[simp] theorem SR.seq_nx (ρ : Rho) (h : Hh) (f : Rho → Hh → SR) : (SR.nx ρ h).seq f = f ρ h := rfl
@[simp] theorem SR.seq_ret (d : D) (h : Hh) (f : Rho → Hh → SR) : (SR.ret d h).seq f = .ret d h := rfl
@[simp] theorem SR.seq_brk (ρ : Rho) (h : Hh) (f : Rho → Hh → SR) : (SR.brk ρ h).seq f = .brk ρ h := rfl
@[simp] theorem SR.seq_cnt (ρ : Rho) (h : Hh) (f : Rho → Hh → SR) : (SR.cnt ρ h).seq f = .cnt ρ h := rfl
@[simp] theorem SR.seq_exc (c : Nat) (p : Option D) (ρ : Rho) (h : Hh) (f : Rho → Hh → SR) : (SR.exc c p ρ h).seq f = .exc c p ρ h := rfl
@[simp] theorem SR.seq_bad (f : Rho → Hh → SR) : (SR.bad).seq f = .bad := rfl
def eVar (i : Nat) : EX := fun ρ _ h => match ρ[i]? with
  | some (some d) => .ok d h
  | _ => .bad
def eC (d : D) : EX := fun _ _ h => .ok d h
def aNil : AX := fun _ _ h => .ok [] h
def aCons (a : EX) (r : AX) : AX := fun ρ L h => (a ρ L h).bind fun x h1 => (r ρ L h1).bind fun xs h2 => .ok (x :: xs) h2
/-- a two-place operation -/
abbrev B2 := D → D → Hh → R D
def eBin (f : B2) (a b : EX) : EX := fun ρ L h => (a ρ L h).bind fun x h1 => (b ρ L h1).bind fun y h2 => f x y h2
def eUn (f : D → Hh → R D) (a : EX) : EX := fun ρ L h => (a ρ L h).bind fun x h1 => f x h1
/-- a built-in called -/
def eCB (f : List D → Hh → R D) (a : AX) : EX := fun ρ L h => (a ρ L h).bind fun xs h1 => f xs h1
def eTup (a : AX) : EX := fun ρ L h => (a ρ L h).bind fun xs h1 => if xs.length ≤ sizeLine then .ok (.tup xs) h1 else .bad
/-- a new thing -/
def new (o : Ob) (h : Hh) : R D := .ok (.ref h.length) (h ++ [o])
def eLst (a : AX) : EX := fun ρ L h => (a ρ L h).bind fun xs h1 => if xs.length ≤ sizeLine then new (.lst xs) h1 else .bad
/-- a def called -/
def eCall (n : Nat) (f : FX) (a : AX) : EX := fun ρ L h => (a ρ L h).bind fun xs h1 => if xs.length = n then f xs L h1 else .bad
def bSub : B2 := fun x y h => match x, y with
  | .int i, .int j => .ok (.int (i - j)) h
  | _, _ => .bad
/-- the items of a list -/
def lstOf (x : D) (h : Hh) : Option (List D) := match x with
  | .frl xs => some xs
  | .ref n => (match h[n]? with
    | some (.lst xs) => some xs
    | _ => none)
  | _ => none
def bAdd : B2 := fun x y h => match x, y with
  | .int i, .int j => .ok (.int (i + j)) h
  | .str i, .str j => if i.length + j.length ≤ sizeLine then .ok (.str (i ++ j)) h else .bad
  | .tup xs, .tup ys => if xs.length + ys.length ≤ sizeLine then .ok (.tup (xs ++ ys)) h else .bad
  | .ref n, .ref m => (match h[n]?, h[m]? with
    | some (.lst xs), some (.lst ys) => if xs.length + ys.length ≤ sizeLine then new (.lst (xs ++ ys)) h else .bad
    | _, _ => .bad)
  | _, _ => .bad
def small64 (i : Int) : Bool := decide (-(2 ^ 64) < i ∧ i < 2 ^ 64)
def bMul : B2 := fun x y h => match x, y with
  | .int i, .int j => if small64 i || small64 j then .ok (.int (i * j)) h else .bad
  | _, _ => .bad
/-- // by a positive number below 2 ^ 9000 -/
def bDiv : B2 := fun x y h => match x, y with
  | .int i, .int j => if 0 < j ∧ j.natAbs < 2 ^ 9000 then .ok (.int (i / j)) h else .bad
  | _, _ => .bad
/-- % by a positive number -/
def bMod : B2 := fun x y h => match x, y with
  | .int i, .int j => if 0 < j then .ok (.int (i % j)) h else .bad
  | _, _ => .bad
def bPow : B2 := fun x y h => match x, y with
  | .int i, .int j => if 0 ≤ j ∧ j ≤ 1000000 ∧ i.natAbs < 2 ^ 64 then .ok (.int (i ^ j.toNat)) h else .bad
  | _, _ => .bad
def cInt (p : Int → Int → Bool) : B2 := fun x y h => match x, y with
  | .int i, .int j => .ok (.bl (p i j)) h
  | _, _ => .bad
def bLt : B2 := cInt fun i j => decide (i < j)
def bLe : B2 := cInt fun i j => decide (i ≤ j)
def bGt : B2 := cInt fun i j => decide (j < i)
def bGe : B2 := cInt fun i j => decide (j ≤ i)
def uNeg : D → Hh → R D := fun x h => match x with
  | .int i => .ok (.int (-i)) h
  | _ => .bad
def D.isNon : D → Bool
  | .non => true
  | _ => false
def uIsN : D → Hh → R D := fun x h => .ok (.bl x.isNon) h
def uNotN : D → Hh → R D := fun x h => .ok (.bl (!x.isNon)) h
/-- data as a whole, lists read off the heap, to a depth -/
def toPy : Nat → Hh → D → Option PyData
  | 0, _, _ => none
  | f + 1, h, d => match d with
    | .non => some .none
    | .bl b => some (.bool b)
    | .int i => some (.int i)
    | .str x => some (.str x)
    | .tup xs => (xs.mapM (toPy f h)).map .tuple
    | .frl xs => (xs.mapM (toPy f h)).map .list
    | .ref n => (match h[n]? with
      | some (.lst xs) => (xs.mapM (toPy f h)).map .list
      | _ => none)
/-- == of two plain values -/
def scEq : D → D → Option Bool
  | .non, .non => some true
  | .non, .int _ => some false | .int _, .non => some false | .non, .bl _ => some false | .bl _, .non => some false | .non, .str _ => some false | .str _, .non => some false
  | .int i, .int j => some (decide (i = j))
  | .bl i, .bl j => some (decide (i = j))
  | .str i, .str j => some (decide (i = j))
  | .int _, .str _ => some false | .str _, .int _ => some false | .bl _, .str _ => some false | .str _, .bl _ => some false
  | _, _ => none
/-- a flat value (what `in` looks for among the items of a list or a tuple) -/
def flatD : D → Bool
  | .non | .bl _ | .int _ | .str _ => true
  | _ => false
/-- == of flat values -/
def eqF : D → D → Bool
  | .non, .non => true
  | .bl a, .bl b => a == b
  | .int a, .int b => a == b
  | .bl a, .int b => (if a then 1 else 0) == b
  | .int a, .bl b => a == (if b then 1 else 0)
  | .str a, .str b => a == b
  | _, _ => false
/-- == of two items: the same thing, or plain data -/
def eqE (h : Hh) (x y : D) : Option Bool := match x, y with
  | .ref a, .ref b => if a = b then some true else (match toPy 60 h x, toPy 60 h y with
    | some p, some q => some (PyData.eqv p q)
    | _, _ => none)
  | _, _ => (match toPy 60 h x, toPy 60 h y with
    | some p, some q => some (PyData.eqv p q)
    | _, _ => none)
def eqTs (h : Hh) : List D → List D → Option Bool
  | [], [] => some true
  | [], _ :: _ => some false
  | _ :: _, [] => some false
  | x :: xs, y :: ys => match eqE h x y, eqTs h xs ys with
    | some b, some r => some (b && r)
    | _, _ => none
def eqT (h : Hh) : D → D → Option Bool
  | .tup xs, .tup ys => eqTs h xs ys
  | _, _ => none
def eqD (x y : D) (h : Hh) : Option Bool := match scEq x y with
  | some b => some b
  | none => (match toPy 66 h x, toPy 66 h y with
    | some a, some b => if SeqAt.shaped a && SeqAt.shaped b then some (PyData.eqv a b) else eqT h x y
    | _, _ => eqT h x y)
def bEq : B2 := fun x y h => match eqD x y h with
  | some b => .ok (.bl b) h
  | none => .bad
def bNe : B2 := fun x y h => match eqD x y h with
  | some b => .ok (.bl (!b)) h
  | none => .bad
/-- the items of a list or a tuple -/
def seqOf (x : D) (h : Hh) : Option (List D) := match x with
  | .tup xs => some xs
  | _ => lstOf x h
def keyD : D → Option Key
  | .int i => some (.inl i)
  | .str x => some (.inr x)
  | _ => none
def keysD : List D → Option (List Key)
  | [] => none
  | [d] => (keyD d).map fun k => [k]
  | d :: e :: ds => match keyD d, keysD (e :: ds) with
    | some k, some ks => some (k :: ks)
    | _, _ => none
def valD {κ : Type} [DecidableEq κ] (kvs : List (κ × D)) (k : κ) : Option D := (kvs.find? fun kv => decide (kv.1 = k)).map (·.2)
def putD {κ : Type} [DecidableEq κ] (kvs : List (κ × D)) (k : κ) (v : D) : List (κ × D) :=
  if (kvs.any fun kv => decide (kv.1 = k)) = true then kvs.map (fun kv => if kv.1 = k then (kv.1, v) else kv) else kvs ++ [(k, v)]
/-- what a dict says of a key: none: no such question; some none: the key is not there -/
def dGet (x y : D) (h : Hh) : Option (Option D) := match x with
  | .ref n => (match h[n]? with
    | some (.dic kvs) => (match keyD y with
      | some k => some (valD kvs k)
      | none => none)
    | some (.dct kvs) => (match y with
      | .tup ds => (match keysD ds with
        | some ks => some (valD kvs ks)
        | none => none)
      | _ => none)
    | _ => none)
  | _ => none
/-- one sign in a text -/
def occ (i j : Str) : Option Bool := match i.cps.toList with
  | [c] => some (decide (c ∈ j.cps.toList))
  | _ => none
def inD (x y : D) (h : Hh) : Option Bool := match dGet y x h with
  | some o => some o.isSome
  | none => (match x, y with
    | .str i, .str j => occ i j
    | _, _ => (match seqOf y h with
      | some ys => if flatD x && ys.all flatD then some (ys.any fun z => eqF z x) else none
      | none => none))
def bIn : B2 := fun x y h => match inD x y h with
  | some b => .ok (.bl b) h
  | none => .bad
def bNotIn : B2 := fun x y h => match inD x y h with
  | some b => .ok (.bl (!b)) h
  | none => .bad
def bIx : B2 := fun x y h => match y with
  | .int i => (match x with
    | .str z => if z.length ≤ sizeLine then (match atI z.cps.toList i with
      | some c => .ok (.str ⟨#[c]⟩) h
      | none => .bad) else .bad
    | _ => (match seqOf x h with
      | some xs => (match atI xs i with
        | some v => .ok v h
        | none => .bad)
      | none => (match dGet x y h with
        | some (some v) => .ok v h
        | _ => .bad)))
  | _ => (match dGet x y h with
    | some (some v) => .ok v h
    | _ => .bad)
/-- the part of a list -/
def cutD {α : Type} (xs : List α) (lo hi : Option Int) : List α := (xs.drop (HT.sIx xs.length 0 lo)).take (HT.sIx xs.length xs.length hi - HT.sIx xs.length 0 lo)
/-- a slice's part -/
abbrev OX := Rho → List Nat → Hh → R (Option Int)
def oNo : OX := fun _ _ h => .ok none h
def oYes (a : EX) : OX := fun ρ L h => (a ρ L h).bind fun x h1 => match x with
  | .int i => .ok (some i) h1
  | _ => .bad
def slD (x : D) (lo hi : Option Int) (h : Hh) : R D := match x with
  | .tup xs => .ok (.tup (cutD xs lo hi)) h
  | .str z => if z.length ≤ sizeLine then .ok (.str (cutS z lo hi)) h else .bad
  | _ => (match lstOf x h with
    | some xs => new (.lst (cutD xs lo hi)) h
    | none => .bad)
def eSl (a : EX) (lo hi : OX) : EX := fun ρ L h => (a ρ L h).bind fun x h1 => (lo ρ L h1).bind fun l h2 => (hi ρ L h2).bind fun u h3 => slD x l u h3
def truD (x : D) (h : Hh) : Option Bool := match x with
  | .non => some false
  | .bl b => some b
  | .int i => some (i != 0)
  | .str y => if y.length ≤ sizeLine then some ((y.length : Int) != 0) else none
  | .tup xs => some (!xs.isEmpty)
  | .frl xs => some (!xs.isEmpty)
  | .ref n => (match h[n]? with
    | some (.lst xs) => some (!xs.isEmpty)
    | _ => none)
def tTru (a : EX) : TX := fun ρ L h => (a ρ L h).bind fun x h1 => match truD x h1 with
  | some b => .ok b h1
  | none => .bad
/-- a comparison as a test -/
def tBl (a : EX) : TX := fun ρ L h => (a ρ L h).bind fun x h1 => match x with
  | .bl b => .ok b h1
  | _ => .bad
def xAnd (t u : TX) : TX := fun ρ L h => (t ρ L h).bind fun b h1 => if b then u ρ L h1 else .ok false h1
def xOr (t u : TX) : TX := fun ρ L h => (t ρ L h).bind fun b h1 => if b then .ok true h1 else u ρ L h1
def xNot (t : TX) : TX := fun ρ L h => (t ρ L h).bind fun b h1 => .ok (!b) h1
/-- a or b, a and b, not a as values -/
def eOr (a b : EX) : EX := fun ρ L h => (a ρ L h).bind fun x h1 => match truD x h1 with
  | some true => .ok x h1
  | some false => b ρ L h1
  | none => .bad
def eAnd (a b : EX) : EX := fun ρ L h => (a ρ L h).bind fun x h1 => match truD x h1 with
  | some true => b ρ L h1
  | some false => .ok x h1
  | none => .bad
def eNot (a : EX) : EX := fun ρ L h => (a ρ L h).bind fun x h1 => match truD x h1 with
  | some b => .ok (.bl (!b)) h1
  | none => .bad
def eIf (t : TX) (a b : EX) : EX := fun ρ L h => (t ρ L h).bind fun c h1 => if c then a ρ L h1 else b ρ L h1
/-- a op b op' c -/
def eCh (f g : B2) (a b c : EX) : EX := fun ρ L h => (a ρ L h).bind fun x h1 => (b ρ L h1).bind fun y h2 => (f x y h2).bind fun z h3 => match z with
  | .bl true => (c ρ L h3).bind fun u h4 => g y u h4
  | .bl false => .ok (.bl false) h3
  | _ => .bad
def sNil : SX := fun ρ _ h => .nx ρ h
def sSeq (a b : SX) : SX := fun ρ L h => (a ρ L h).seq fun ρ' h' => b ρ' L h'
def sRet (a : EX) : SX := fun ρ L h => (a ρ L h).toS ρ fun d h' => .ret d h'
def sRetN : SX := fun _ _ h => .ret .non h
def sDrop (a : EX) : SX := fun ρ L h => (a ρ L h).toS ρ fun _ h' => .nx ρ h'
def sIf (t : TX) (a b : SX) : SX := fun ρ L h => (t ρ L h).toS ρ fun c h1 => if c then a ρ L h1 else b ρ L h1
def sBrk : SX := fun ρ _ h => .brk ρ h
def sCnt : SX := fun ρ _ h => .cnt ρ h
/-- an error is let out by nothing here -/
def R.noExc {α : Type} : R α → R α
  | .exc _ _ _ => .bad
  | r => r
@[simp] theorem R.noExc_ok {α : Type} (a : α) (h : Hh) : (R.ok a h).noExc = .ok a h := rfl
@[simp] theorem R.noExc_bad {α : Type} : (R.bad : R α).noExc = .bad := rfl
/-- a target: it takes a value -/
abbrev GX := D → Rho → List Nat → Hh → R Rho
abbrev GsX := List D → Rho → List Nat → Hh → R Rho
def gVar (i : Nat) : GX := fun d ρ _ h => .ok (ρ.set i (some d)) h
def gsNil : GsX := fun ds ρ _ h => match ds with
  | [] => .ok ρ h
  | _ => .bad
def gsCons (g : GX) (r : GsX) : GsX := fun ds ρ L h => match ds with
  | d :: ds => (g d ρ L h).bind fun ρ' h' => (r ds ρ' L h').noExc
  | [] => .bad
/-- a, b = a tuple -/
def gTupX (n : Nat) (r : GsX) : GX := fun d ρ L h => match d with
  | .tup xs => if xs.length = n then r xs ρ L h else .bad
  | _ => .bad
def sAsg (a : EX) (g : GX) : SX := fun ρ L h => (a ρ L h).toS ρ fun d h1 => (g d ρ L h1).toS ρ fun ρ' h2 => .nx ρ' h2
/-- o[i] = d by values -/
def setIx (o i d : D) (L : List Nat) (h : Hh) : Option Hh := match o with
  | .ref n => if n ∈ L then none else (match h[n]? with
    | some (.lst xs) => (match i with
      | .int k => (match ixN xs.length k with
        | some j => some (h.set n (.lst (xs.set j d)))
        | none => none)
      | _ => none)
    | some (.dic kvs) => (match keyD i with
      | some k => if kvs.length < sizeLine then some (h.set n (.dic (putD kvs k d))) else none
      | none => none)
    | some (.dct kvs) => (match i with
      | .tup ds => (match keysD ds with
        | some ks => if kvs.length < sizeLine then some (h.set n (.dct (putD kvs ks d))) else none
        | none => none)
      | _ => none)
    | _ => none)
  | _ => none
/-- o[i] = e: e, then o, then i -/
def sPut (o i a : EX) : SX := fun ρ L h => (a ρ L h).toS ρ fun d h1 => (o ρ L h1).toS ρ fun x h2 => (i ρ L h2).toS ρ fun y h3 => match setIx x y d L h3 with
  | some h4 => .nx ρ h4
  | none => .bad
/-- attributes -/
def putFD (f : Str) (v : D) : List (Str × D) → List (Str × D)
  | [] => [(f, v)]
  | (g, x) :: r => if g = f then (g, v) :: r else (g, x) :: putFD f v r
def eFld (cs : List Nat) (f : Str) (o : EX) : EX := fun ρ L h => (o ρ L h).bind fun x h1 => match x with
  | .ref n => (match h1[n]? with
    | some (.ins c fs) => if c ∈ cs then (match fs.lookup f with
      | some v => .ok v h1
      | none => .bad) else .bad
    | _ => .bad)
  | _ => .bad
/-- o.f = e: e, then o -/
def sFldX (cs : List Nat) (f : Str) (o a : EX) : SX := fun ρ L h => (a ρ L h).toS ρ fun d h1 => (o ρ L h1).toS ρ fun x h2 => match x with
  | .ref n => (match h2[n]? with
    | some (.ins c fs) => if c ∈ cs ∧ fs.length < 1000 then .nx ρ (h2.set n (.ins c (putFD f d fs))) else .bad
    | _ => .bad)
  | _ => .bad
/-- x op= e -/
def sAug (i : Nat) (f : B2) (a : EX) : SX := fun ρ L h => match ρ[i]? with
  | some (some x) => (a ρ L h).toS ρ fun y h1 => (f x y h1).toS ρ fun z h2 => .nx (ρ.set i (some z)) h2
  | _ => .bad
def loopL (g : GX) (b : SX) (n : Nat) : Nat → Nat → SX
  | 0, _ => fun _ _ _ => .bad
  | f + 1, i => fun ρ L h => match h[n]? with
    | some (.lst xs) => (match xs[i]? with
      | none => .nx ρ h
      | some x => (match (g x ρ L h).toS ρ fun ρ1 h1 => b ρ1 L h1 with
        | .nx ρ2 h2 => loopL g b n f (i + 1) ρ2 L h2
        | .cnt ρ2 h2 => loopL g b n f (i + 1) ρ2 L h2
        | .brk ρ2 h2 => .nx ρ2 h2
        | r => r))
    | _ => .bad
/-- over items that stand still -/
def loopV (g : GX) (b : SX) : List D → SX
  | [] => fun ρ _ h => .nx ρ h
  | x :: xs => fun ρ L h => match (g x ρ L h).toS ρ fun ρ1 h1 => b ρ1 L h1 with
    | .nx ρ2 h2 => loopV g b xs ρ2 L h2
    | .cnt ρ2 h2 => loopV g b xs ρ2 L h2
    | .brk ρ2 h2 => .nx ρ2 h2
    | r => r
/-- an error leaves no locked loop -/
def SR.noExc : SR → SR
  | .exc _ _ _ _ => .bad
  | r => r
def keysOf {κ : Type} (f : κ → D) (kvs : List (κ × D)) : List D := kvs.map fun kv => f kv.1
def keyV : Key → D
  | .inl i => .int i
  | .inr x => .str x
def strsOf (z : Str) : List D := z.cps.toList.map fun c => .str ⟨#[c]⟩
def fuel : Nat := 100000
/-- for x in e: a list (as it stands at each turn), a tuple, a text -/
def forD (g : GX) (b : SX) (x : D) : SX := fun ρ L h => match x with
  | .tup xs => loopV g b xs ρ L h
  | .frl xs => loopV g b xs ρ L h
  | .str z => loopV g b (strsOf z) ρ L h
  | .ref n => loopL g b n fuel 0 ρ L h
  | _ => .bad
/-- a dict's keys -/
def keysAt (x : D) (h : Hh) : Option (Nat × List D) := match x with
  | .ref n => (match h[n]? with
    | some (.dic kvs) => some (n, keysOf keyV kvs)
    | some (.dct kvs) => some (n, keysOf (fun ks => .tup (ks.map keyV)) kvs)
    | _ => none)
  | _ => none
/-- for x in e, e a dict that stands (locked meanwhile) -/
def sForK (a : EX) (g : GX) (b : SX) : SX := fun ρ L h => (a ρ L h).toS ρ fun x h1 => match keysAt x h1 with
  | some (n, xs) => (loopV g b xs ρ (n :: L) h1).noExc
  | none => .bad
def sFor (a : EX) (g : GX) (b : SX) : SX := fun ρ L h => (a ρ L h).toS ρ fun x h1 => forD g b x ρ L h1
/-- range(lo, hi) as items -/
def rngD (lo hi : Int) : List D := (List.range (hi - lo).toNat).map fun (i : Nat) => .int (lo + i)
def sm62 (i : Int) : Bool := decide (-(2 ^ 62) ≤ i ∧ i < 2 ^ 62)
/-- range(..) as items -/
def rng1 : List D → Option (List D)
  | [.int j] => if sm62 j then some (rngD 0 j) else none
  | _ => none
def sForR (w : List D → Option (List D)) (a : AX) (g : GX) (b : SX) : SX := fun ρ L h => (a ρ L h).toS ρ fun xs h1 => match w xs with
  | some ys => loopV g b ys ρ L h1
  | none => .bad
def wipeR (ρ : Rho) : List Nat → Rho
  | [] => ρ
  | v :: vs => (wipeR ρ vs).set v none
def compV (g : GX) (tt : TX) (te : EX) (n : Nat) : List D → EX
  | [] => fun _ _ h => .ok (.ref n) h
  | x :: xs => fun ρ L h => (g x ρ L h).noExc.bind fun ρ1 h1 => (tt ρ1 L h1).bind fun b h2 => if b then (te ρ1 L h2).bind fun y h3 => (match h3[n]? with
      | some (.lst acc) => if acc.length < sizeLine then compV g tt te n xs ρ L (h3.set n (.lst (acc ++ [y]))) else .bad
      | _ => .bad)
    else compV g tt te n xs ρ L h2
/-- over a list as it stands at each turn -/
def compL (g : GX) (tt : TX) (te : EX) (n k : Nat) : Nat → Nat → EX
  | 0, _ => fun _ _ _ => .bad
  | f + 1, i => fun ρ L h => match h[k]? with
    | some (.lst xs) => (match xs[i]? with
      | none => .ok (.ref n) h
      | some x => (g x ρ L h).noExc.bind fun ρ1 h1 => (tt ρ1 L h1).bind fun b h2 => if b then (te ρ1 L h2).bind fun y h3 => (match h3[n]? with
          | some (.lst acc) => if acc.length < sizeLine then compL g tt te n k f (i + 1) ρ L (h3.set n (.lst (acc ++ [y]))) else .bad
          | _ => .bad)
        else compL g tt te n k f (i + 1) ρ L h2)
    | _ => .bad
def tYesX : TX := fun _ _ h => .ok true h
def compD (g : GX) (tt : TX) (te : EX) (x : D) : EX := fun ρ L h => match x with
  | .tup xs => compV g tt te h.length xs ρ L (h ++ [.lst []])
  | .frl xs => compV g tt te h.length xs ρ L (h ++ [.lst []])
  | .str z => compV g tt te h.length (strsOf z) ρ L (h ++ [.lst []])
  | .ref n => compL g tt te h.length n fuel 0 ρ L (h ++ [.lst []])
  | _ => .bad
def eComp (own : List Nat) (a : EX) (g : GX) (tt : TX) (te : EX) : EX := fun ρ L h => (a ρ L h).bind fun x h1 => (compD g tt te x (wipeR ρ own) L h1).noExc
def eCompK (own : List Nat) (a : EX) (g : GX) (tt : TX) (te : EX) : EX := fun ρ L h => (a ρ L h).bind fun x h1 => match keysAt x h1 with
  | some (n, xs) => (compV g tt te h1.length xs (wipeR ρ own) (n :: L) (h1 ++ [.lst []])).noExc
  | none => .bad
def eCompR (w : List D → Option (List D)) (own : List Nat) (a : AX) (g : GX) (tt : TX) (te : EX) : EX := fun ρ L h => (a ρ L h).bind fun xs h1 => match w xs with
  | some ys => (compV g tt te h1.length ys (wipeR ρ own) L (h1 ++ [.lst []])).noExc
  | none => .bad
def fLen : List D → Hh → R D := fun xs h => match xs with
  | [x] => (match x with
    | .str y => if y.length ≤ sizeLine then .ok (.int y.length) h else .bad
    | .ref n => (match h[n]? with
      | some (.lst ys) => .ok (.int ys.length) h
      | some (.dic kvs) => .ok (.int kvs.length) h
      | _ => .bad)
    | .tup ys => .ok (.int ys.length) h
    | .frl ys => .ok (.int ys.length) h
    | _ => .bad)
  | _ => .bad
def fInt : List D → Hh → R D := fun xs h => match xs with
  | [.int i] => .ok (.int i) h
  | [.bl b] => .ok (.int (if b then 1 else 0)) h
  | _ => .bad
def fList : List D → Hh → R D := fun xs h => match xs with
  | [x] => (match seqOf x h with
    | some ys => new (.lst ys) h
    | none => .bad)
  | _ => .bad
def fTuple : List D → Hh → R D := fun xs h => match xs with
  | [.tup ys] => .ok (.tup ys) h
  | [x] => (match lstOf x h with
    | some ys => .ok (.tup ys) h
    | none => .bad)
  | _ => .bad
def fMin2 : List D → Hh → R D := fun xs h => match xs with
  | [.int i, .int j] => .ok (.int (if j < i then j else i)) h
  | _ => .bad
def fMax2 : List D → Hh → R D := fun xs h => match xs with
  | [.int i, .int j] => .ok (.int (if j > i then j else i)) h
  | _ => .bad
def intsD : List D → Option (List Int)
  | [] => some []
  | .int i :: r => (intsD r).map (i :: ·)
  | _ => none
def blsD : List D → Option (List Bool)
  | [] => some []
  | .bl i :: r => (blsD r).map (i :: ·)
  | _ => none
def strsD : List D → Option (List Str)
  | [] => some []
  | .str i :: r => (strsD r).map (i :: ·)
  | _ => none
def fSum : List D → Hh → R D := fun xs h => match xs with
  | [x] => (match (lstOf x h).bind intsD with
    | some ns => .ok (.int ns.sum) h
    | none => .bad)
  | _ => .bad
def fAll : List D → Hh → R D := fun xs h => match xs with
  | [x] => (match (lstOf x h).bind blsD with
    | some ns => .ok (.bl (ns.all id)) h
    | none => .bad)
  | _ => .bad
def fAny : List D → Hh → R D := fun xs h => match xs with
  | [x] => (match (lstOf x h).bind blsD with
    | some ns => .ok (.bl (ns.any id)) h
    | none => .bad)
  | _ => .bad
/-- texts in their order -/
def leS (x y : Str) : Bool := !PySem.Spec.ltCps y.cps.toList x.cps.toList
def sortS (xs : List Str) : List Str := xs.mergeSort leS
/-- sorted: a list of texts, a dict of texts (below 64) -/
def fSortS : List D → Hh → R D := fun xs h => match xs with
  | [x] => (match (lstOf x h).bind strsD with
    | some ss => if ss.length < 64 then new (.lst ((sortS ss).map .str)) h else .bad
    | none => .bad)
  | _ => .bad
def fSortK : List D → Hh → R D := fun xs h => match xs with
  | [.ref n] => (match h[n]? with
    | some (.dic kvs) => (match strsD (keysOf keyV kvs) with
      | some ss => if ss.length < 64 then new (.lst ((sortS ss).map .str)) h else .bad
      | none => .bad)
    | _ => .bad)
  | _ => .bad
/-- the type's name -/
def tyD (x : D) (h : Hh) : Option String := match x with
  | .non => some "NoneType"
  | .bl _ => some "bool"
  | .int _ => some "int"
  | .str _ => some "str"
  | .tup _ => some "tuple"
  | .frl _ => some "list"
  | .ref n => (match h[n]? with
    | some (.lst _) => some "list"
    | some (.dic _) => some "dict"
    | _ => none)
/-- isinstance with built-in types -/
def isB (a : String) (ts : List String) : Bool := ts.any fun t => a == t || (a == "bool" && t == "int")
def uIsi (ts : List String) : D → Hh → R D := fun x h => match tyD x h with
  | some a => .ok (.bl (isB a ts)) h
  | none => .bad
/-- o.append(e) -/
def eApp (o a : EX) : EX := fun ρ L h => (o ρ L h).bind fun x h1 => match x with
  | .ref n => (match h1[n]? with
    | some (.lst _) => (a ρ L h1).bind fun y h2 => (match h2[n]? with
      | some (.lst xs) => if xs.length < sizeLine then .ok .non (h2.set n (.lst (xs ++ [y]))) else .bad
      | _ => .bad)
    | _ => .bad)
  | _ => .bad
/-- o.join(e) -/
def eJoin (o a : EX) : EX := fun ρ L h => (o ρ L h).bind fun x h1 => match x with
  | .str s => (a ρ L h1).bind fun y h2 => (match (seqOf y h2).bind strsD with
    | some ss => if (ss.map (·.length)).sum + ss.length * s.length ≤ 16777216 then .ok (.str (Txt.join s ss)) h2 else .bad
    | none => .bad)
  | _ => .bad
/-- raise C(e), raise C() -/
def sRaise (c : Nat) (a : EX) : SX := fun ρ L h => (a ρ L h).toS ρ fun d h1 => .exc c (some d) ρ h1
/-- within an except suite: the caught error's field, is it of a class -/
def eXf (cs : List Nat) (c : Nat) (p : Option D) : EX := fun _ _ h => if c ∈ cs then (match p with
  | some d => .ok d h
  | none => .bad) else .bad
def eXi (cs : List Nat) (is : Nat → Bool) (c : Nat) : EX := fun _ _ h => if c ∈ cs then .ok (.bl (is c)) h else .bad
/-- an except clause: which classes, the name's slot, the suite by what the error is -/
structure Hd where
  is : Nat → Bool
  slot : Option Nat
  suite : Nat → Option D → SX
def SR.wipe (i : Nat) : SR → SR
  | .nx ρ h => .nx (ρ.set i none) h
  | .brk ρ h => .brk (ρ.set i none) h
  | .cnt ρ h => .cnt (ρ.set i none) h
  | .ret d h => .ret d h
  | _ => .bad
def Hd.run (x : Hd) (c : Nat) (p : Option D) : SX := fun ρ L h => match x.slot with
  | some i => if i < ρ.length then (x.suite c p (ρ.set i none) L h).wipe i else .bad
  | none => (x.suite c p ρ L h).noExc
def catch_ : List Hd → Nat → Option D → SX
  | [], c, p => fun ρ _ h => .exc c p ρ h
  | x :: xs, c, p => if x.is c then x.run c p else catch_ xs c p
def sTry (n : Nat) (b : SX) (hs : List Hd) : SX := fun ρ L h => match b ρ L h with
  | .exc c p ρ' h' => if c < n then catch_ hs c p ρ' L h' else .bad
  | r => r
/-- is it of an own class -/
def uIsO (cs : List Nat) (is : Nat → Bool) : D → Hh → R D := fun x h => match x with
  | .ref n => (match h[n]? with
    | some (.ins c _) => if c ∈ cs then .ok (.bl (is c)) h else .bad
    | some (.lst _) => .ok (.bl false) h
    | some (.dic _) => .ok (.bl false) h
    | _ => .bad)
  | _ => .ok (.bl false) h
/-- o.m(..): o of the class c -/
def eMeth (c : Nat) (m : Str) (np : Nat) (f : FX) (o : EX) (a : AX) : EX := fun ρ L h => (o ρ L h).bind fun x h1 => match x with
  | .ref n => (match h1[n]? with
    | some (.ins c' fs) => if c' = c ∧ fs.lookup m = none then (a ρ L h1).bind fun xs h2 => if xs.length + 1 = np then f (x :: xs) L h2 else .bad else .bad
    | _ => .bad)
  | _ => .bad
/-- o.p, a property whose getter lets nothing out -/
def eProp (c : Nat) (f : FX) (o : EX) : EX := fun ρ L h => (o ρ L h).bind fun x h1 => match x with
  | .ref n => (match h1[n]? with
    | some (.ins c' _) => if c' = c then (f [x] L h1).noExc else .bad
    | _ => .bad)
  | _ => .bad
/-- C(..) by its __init__ -/
def eMake (c : Nat) (np : Nat) (f : FX) (a : AX) : EX := fun ρ L h => (a ρ L h).bind fun xs h1 => if xs.length + 1 = np then (f (.ref h1.length :: xs) L (h1 ++ [.ins c []])).bind fun v h2 => match v with
  | .non => .ok (.ref h1.length) h2
  | _ => .bad else .bad
/-- a in b, a not in b by b's own __contains__, which lets nothing out and answers True or False -/
def eOwnIn (neg : Bool) (c : Nat) (f : FX) (a b : EX) : EX := fun ρ L h => (a ρ L h).bind fun x h1 => (b ρ L h1).bind fun y h2 => match y with
  | .ref n => (match h2[n]? with
    | some (.ins c' _) => if c' = c then (f [y, x] L h2).noExc.bind fun v h3 => match v with
      | .bl k => .ok (.bl (if neg then !k else k)) h3
      | _ => .bad else .bad
    | _ => .bad)
  | _ => .bad
def eDic0 : EX := fun _ _ h => new (.dic []) h
def eDct0 : EX := fun _ _ h => new (.dct []) h
def pairsX : List (EX × EX) → Rho → List Nat → Hh → R (List (D × D))
  | [] => fun _ _ h => .ok [] h
  | q :: r => fun ρ L h => (q.1 ρ L h).bind fun k h1 => (q.2 ρ L h1).bind fun v h2 => (pairsX r ρ L h2).bind fun ps h3 => .ok ((k, v) :: ps) h3
def kvsD : List (D × D) → Option (List (Key × D))
  | [] => some []
  | (k, v) :: r => match keyD k, kvsD r with
    | some k, some r => some ((k, v) :: r)
    | _, _ => none
def mergeD (kvs more : List (Key × D)) : List (Key × D) := more.foldl (fun acc kv => putD acc kv.1 kv.2) kvs
/-- {k: v, ..}: the new dict stands empty while the pairs are made -/
def eDisp (ps : List (EX × EX)) : EX := fun ρ L h => (pairsX ps ρ L (h ++ [.dic []])).bind fun qs h2 => match h2[h.length]? with
  | some (.dic []) => (match kvsD qs with
    | some kvs => if kvs.length ≤ 15 then .ok (.ref h.length) (h2.set h.length (.dic (mergeD [] kvs))) else .bad
    | none => .bad)
  | _ => .bad
/-- dict(d) -/
def fDict : List D → Hh → R D := fun xs h => match xs with
  | [.ref n] => (match h[n]? with
    | some (.dic kvs) => new (.dic kvs) h
    | _ => .bad)
  | _ => .bad
def bAddI : B2 := fun x y h => match x, y with
  | .int i, .int j => .ok (.int (i + j)) h
  | _, _ => .bad
/-- the greatest of a list of numbers -/
def fMaxL : List D → Hh → R D := fun xs h => match xs with
  | [x] => (match (lstOf x h).bind intsD with
    | some (i :: is) => .ok (.int (is.foldl (fun a b => if b > a then b else a) i)) h
    | _ => .bad)
  | _ => .bad
/-- sorted(x): a list of texts, a dict of texts -/
def fSortA : List D → Hh → R D := fun xs h => match xs with
  | [.ref n] => (match h[n]? with
    | some (.dic _) => fSortK [.ref n] h
    | _ => fSortS [.ref n] h)
  | _ => fSortS xs h
/-- list(x): a list, a tuple; a dict that nobody walks -/
def eListA (a : EX) : EX := fun ρ L h => (a ρ L h).bind fun x h1 => match x with
  | .ref n => (match h1[n]? with
    | some (.dic kvs) => if n ∈ L then .bad else new (.lst (keysOf keyV kvs)) h1
    | _ => fList [.ref n] h1)
  | _ => fList [x] h1
def SR.fin : SR → R D
  | .nx _ h' => .ok .non h'
  | .ret d h' => .ok d h'
  | .exc c p _ h' => .exc c p h'
  | _ => .bad
def bodyX (slots : Nat) (b : SX) : FX := fun ds L h => (b (ds.map some ++ List.replicate (slots - ds.length) none) L h).fin
@[simp] theorem SR.fin_nx (ρ : Rho) (h : Hh) : (SR.nx ρ h).fin = .ok .non h := rfl
@[simp] theorem SR.fin_ret (d : D) (h : Hh) : (SR.ret d h).fin = .ok d h := rfl
@[simp] theorem SR.fin_exc (c : Nat) (p : Option D) (ρ : Rho) (h : Hh) : (SR.exc c p ρ h).fin = .exc c p h := rfl
/-- the defs of a text, to a depth -/
def callF (tbl : (Nat → FX) → Nat → FX) : Nat → Nat → FX
  | 0 => fun _ _ _ _ => .bad
  | k + 1 => tbl (callF tbl k)
end Mi
end
section
set_option maxHeartbeats 1000000
namespace Mi
open PySem PySem.Spec PyProof.Rows L2
/-- a list that nobody changes -/
def SqF (K : PySem.W.Frag) (H : Hp) (a : Addr) (vs : List V) : Prop :=
  (∃ o, H a = some (.frz o (.lst vs))) ∨
    ∃ (o : Obj) (its : Array Value) (n : Nat), K.lookup a = some o ∧ o.cls = .type "list" ∧ o.dict = none ∧ o.data = .seq its n ∧ its.size ≤ sizeLine ∧ Vals vs its.toList
theorem SqF.l {K : PySem.W.Frag} {H : Hp} {a : Addr} {vs : List V} (h : SqF K H a vs) : SqL K H a vs := by
  rcases h with h | h
  · exact .inl (.inr h)
  · exact .inr h
/-- a tuple: made by the run, or an empty one -/
def SqD (K : PySem.W.Frag) (H : Hp) (a : Addr) (vs : List V) : Prop := H a = some (.tup vs) ∨ (vs = [] ∧ SqT K H a vs)
theorem SqD.t {K : PySem.W.Frag} {H : Hp} {a : Addr} {vs : List V} (h : SqD K H a vs) : SqT K H a vs := h.elim SqT.of fun x => x.2
mutual
inductive RD (K : PySem.W.Frag) (H : Hp) (m : List Addr) : D → V → Prop
  | non : RD K H m .non .non
  | bl (b : Bool) : RD K H m (.bl b) (.bl b)
  | int (i : Int) : RD K H m (.int i) (.int i)
  | str (x : Str) : RD K H m (.str x) (.str x)
  | tup {a : Addr} {xs : List D} {vs : List V} (h : SqD K H a vs) (t : RDs K H m xs vs) : RD K H m (.tup xs) (.ref a)
  | frl {a : Addr} {xs : List D} {vs : List V} (h : SqF K H a vs) (t : RDs K H m xs vs) : RD K H m (.frl xs) (.ref a)
  | ref {n : Nat} {a : Addr} (h : m[n]? = some a) : RD K H m (.ref n) (.ref a)
inductive RDs (K : PySem.W.Frag) (H : Hp) (m : List Addr) : List D → List V → Prop
  | nil : RDs K H m [] []
  | cons {d : D} {ds : List D} {v : V} {vs : List V} (h : RD K H m d v) (t : RDs K H m ds vs) : RDs K H m (d :: ds) (v :: vs)
end
/-- what stays: tuples, lists that nobody changes, what errors hold -/
structure PersD (K : PySem.W.Frag) (H H' : Hp) : Prop where
  tup : ∀ a vs, SqD K H a vs → SqD K H' a vs
  frl : ∀ a vs, SqF K H a vs → SqF K H' a vs
structure Pers (K : PySem.W.Frag) (H H' : Hp) : Prop extends PersD K H H' where
  xd : ∀ a fs, H a = some (.xd fs) → H' a = some (.xd fs)
  frz : ∀ a o u, H a = some (.frz o u) → H' a = some (.frz o u)
theorem Pers.refl {K : PySem.W.Frag} (H : Hp) : Pers K H H := ⟨⟨fun _ _ h => h, fun _ _ h => h⟩, fun _ _ h => h, fun _ _ _ h => h⟩
theorem Pers.trans {K : PySem.W.Frag} {H H1 H2 : Hp} (a : Pers K H H1) (b : Pers K H1 H2) : Pers K H H2 :=
  ⟨⟨fun x vs h => b.tup x vs (a.tup x vs h), fun x vs h => b.frl x vs (a.frl x vs h)⟩, fun x fs h => b.xd x fs (a.xd x fs h), fun x o u h => b.frz x o u (a.frz x o u h)⟩
/-- the numbers of things stay -/
abbrev Le (m m' : List Addr) : Prop := ∀ (n : Nat) (a : Addr), m[n]? = some a → m'[n]? = some a
theorem Le.refl (m : List Addr) : Le m m := fun _ _ h => h
theorem Le.trans {m m1 m2 : List Addr} (a : Le m m1) (b : Le m1 m2) : Le m m2 := fun n x h => b n x (a n x h)
theorem Le.app (m r : List Addr) : Le m (m ++ r) := fun n a h => by
  have hl : n < m.length := (List.getElem?_eq_some_iff.mp h).1
  rw [List.getElem?_append_left hl]
  exact h
mutual
theorem RD.monoD {K : PySem.W.Frag} {H H' : Hp} {m m' : List Addr} (p : PersD K H H') (l : Le m m') : ∀ {d : D} {v : V}, RD K H m d v → RD K H' m' d v
  | _, _, .non => .non
  | _, _, .bl b => .bl b
  | _, _, .int i => .int i
  | _, _, .str x => .str x
  | _, _, .tup h t => .tup (p.tup _ _ h) (RDs.monoD p l t)
  | _, _, .frl h t => .frl (p.frl _ _ h) (RDs.monoD p l t)
  | _, _, .ref h => .ref (l _ _ h)
theorem RDs.monoD {K : PySem.W.Frag} {H H' : Hp} {m m' : List Addr} (p : PersD K H H') (l : Le m m') : ∀ {ds : List D} {vs : List V}, RDs K H m ds vs → RDs K H' m' ds vs
  | _, _, .nil => .nil
  | _, _, .cons h t => .cons (RD.monoD p l h) (RDs.monoD p l t)
end
theorem RD.mono {K : PySem.W.Frag} {H H' : Hp} {m m' : List Addr} (p : Pers K H H') (l : Le m m') {d : D} {v : V} (r : RD K H m d v) : RD K H' m' d v := r.monoD p.toPersD l
theorem RDs.mono {K : PySem.W.Frag} {H H' : Hp} {m m' : List Addr} (p : Pers K H H') (l : Le m m') {ds : List D} {vs : List V} (r : RDs K H m ds vs) : RDs K H' m' ds vs := r.monoD p.toPersD l
theorem RDs.length {K : PySem.W.Frag} {H : Hp} {m : List Addr} : ∀ {ds : List D} {vs : List V}, RDs K H m ds vs → ds.length = vs.length
  | _, _, .nil => rfl
  | _, _, .cons _ t => congrArg (· + 1) (RDs.length t)
theorem RDs.get {K : PySem.W.Frag} {H : Hp} {m : List Addr} : ∀ {ds : List D} {vs : List V} {i : Nat} {d : D}, RDs K H m ds vs → ds[i]? = some d → ∃ v, vs[i]? = some v ∧ RD K H m d v
  | _, _, _, _, .nil, e => by simp at e
  | _, _, 0, _, .cons r _, e => by simp at e; subst e; exact ⟨_, rfl, r⟩
  | _, _, i + 1, x, .cons _ t, e => by
    obtain ⟨u, h1, h2⟩ := RDs.get (i := i) (d := x) t (by simpa using e)
    exact ⟨u, by simpa using h1, h2⟩
theorem RDs.none_of {K : PySem.W.Frag} {H : Hp} {m : List Addr} {ds : List D} {vs : List V} {i : Nat} (r : RDs K H m ds vs) (e : ds[i]? = none) : vs[i]? = none := by
  have h1 := r.length
  have h2 := List.getElem?_eq_none_iff.mp e
  exact List.getElem?_eq_none_iff.mpr (by omega)
theorem RDs.append {K : PySem.W.Frag} {H : Hp} {m : List Addr} : ∀ {ds es : List D} {vs us : List V}, RDs K H m ds vs → RDs K H m es us → RDs K H m (ds ++ es) (vs ++ us)
  | _, _, _, _, .nil, s => s
  | _, _, _, _, .cons r t, s => .cons r (RDs.append t s)
theorem RDs.take {K : PySem.W.Frag} {H : Hp} {m : List Addr} : ∀ {ds : List D} {vs : List V} (n : Nat), RDs K H m ds vs → RDs K H m (ds.take n) (vs.take n)
  | _, _, 0, _ => .nil
  | _, _, _ + 1, .nil => .nil
  | _, _, n + 1, .cons r t => .cons r (RDs.take n t)
theorem RDs.drop {K : PySem.W.Frag} {H : Hp} {m : List Addr} : ∀ {ds : List D} {vs : List V} (n : Nat), RDs K H m ds vs → RDs K H m (ds.drop n) (vs.drop n)
  | _, _, 0, r => r
  | _, _, _ + 1, .nil => .nil
  | _, _, n + 1, .cons _ t => RDs.drop n t
theorem RDs.set {K : PySem.W.Frag} {H : Hp} {m : List Addr} {d : D} {v : V} (r : RD K H m d v) : ∀ {ds : List D} {vs : List V} (n : Nat), RDs K H m ds vs → RDs K H m (ds.set n d) (vs.set n v)
  | _, _, _, .nil => .nil
  | _, _, 0, .cons _ t => .cons r t
  | _, _, n + 1, .cons q t => .cons q (RDs.set r n t)
theorem RDs.snoc {K : PySem.W.Frag} {H : Hp} {m : List Addr} {ds : List D} {vs : List V} {d : D} {v : V} (t : RDs K H m ds vs) (r : RD K H m d v) : RDs K H m (ds ++ [d]) (vs ++ [v]) := t.append (.cons r .nil)
/-- pairs with keys -/
abbrev RK {κ : Type} (K : PySem.W.Frag) (H : Hp) (m : List Addr) : List (κ × D) → List (κ × V) → Prop := Paired fun p q => p.1 = q.1 ∧ RD K H m p.2 q.2
theorem RK.monoD {κ : Type} {K : PySem.W.Frag} {H H' : Hp} {m m' : List Addr} (p : PersD K H H') (l : Le m m') {ds : List (κ × D)} {vs : List (κ × V)} (r : RK K H m ds vs) : RK K H' m' ds vs :=
  Paired.mapP r fun _ _ q => ⟨q.1, q.2.monoD p l⟩
theorem RK.mono {κ : Type} {K : PySem.W.Frag} {H H' : Hp} {m m' : List Addr} (p : Pers K H H') (l : Le m m') {ds : List (κ × D)} {vs : List (κ × V)} (r : RK K H m ds vs) : RK K H' m' ds vs :=
  Paired.mapP r fun _ _ q => ⟨q.1, q.2.mono p l⟩
theorem RK.length {κ : Type} {K : PySem.W.Frag} {H : Hp} {m : List Addr} {ds : List (κ × D)} {vs : List (κ × V)} (r : RK K H m ds vs) : ds.length = vs.length := Paired.length r
/-- the number of a class | the field of an error's class -/
structure Gx where
  ca : Nat → Addr
  xf : Nat → Str
  w : World
mutual
inductive NV (K : PySem.W.Frag) (H : Hp) : NestedKey → V → Prop
  | non : NV K H .none .non
  | num (i : Int) : NV K H (.num i) (.int i)
  | text (x : Str) : NV K H (.text x) (.str x)
  | tup {b : Addr} {vs : List V} {ks : List NestedKey} (h : SqD K H b vs) (ne : vs ≠ []) (t : NVs K H ks vs) : NV K H (.tup ks) (.ref b)
inductive NVs (K : PySem.W.Frag) (H : Hp) : List NestedKey → List V → Prop
  | nil : NVs K H [] []
  | cons {k : NestedKey} {ks : List NestedKey} {v : V} {vs : List V} (h : NV K H k v) (t : NVs K H ks vs) : NVs K H (k :: ks) (v :: vs)
end
mutual
theorem NV.mono {K : PySem.W.Frag} {H H' : Hp} (p : PersD K H H') : ∀ {k : NestedKey} {v : V}, NV K H k v → NV K H' k v
  | _, _, .non => .non
  | _, _, .num i => .num i
  | _, _, .text x => .text x
  | _, _, .tup h ne t => .tup (p.tup _ _ h) ne (NVs.mono p t)
theorem NVs.mono {K : PySem.W.Frag} {H H' : Hp} (p : PersD K H H') : ∀ {ks : List NestedKey} {vs : List V}, NVs K H ks vs → NVs K H' ks vs
  | _, _, .nil => .nil
  | _, _, .cons h t => .cons (NV.mono p h) (NVs.mono p t)
end
/-- at a stands a dict with these keys (each at its address) and values -/
def PhiN (w : World) (a : Addr) (xs : List (NestedKey × Addr × V)) : Heap → Prop := fun h => (a == sysModules) = false ∧ xs.length ≤ sizeLine ∧ ∃ ys : List (NestedKey × Addr × Value),
  Paired (fun (p : NestedKey × Addr × V) (q : NestedKey × Addr × Value) => p.1 = q.1 ∧ p.2.1 = q.2.1 ∧ RelV p.2.2 q.2.2) xs ys ∧ ∃ o es ep, h.get? a = some o ∧ o.ExactDict ∧ o.data = .dict es ep ∧ es.toList = ys.map (fun y => ⟨NestedKey.hash w y.1, .ref y.2.1, y.2.2⟩) ∧ (ys.map (·.1)).Nodup
abbrev RN (K : PySem.W.Frag) (H : Hp) (m : List Addr) : List (NestedKey × D) → List (NestedKey × Addr × V) → Prop := Paired fun p q => p.1 = q.1 ∧ p.1.depth ≤ 8 ∧ NV K H p.1 (.ref q.2.1) ∧ RD K H m p.2 q.2.2
theorem RN.monoD {K : PySem.W.Frag} {H H' : Hp} {m m' : List Addr} (p : PersD K H H') (l : Le m m') {ds : List (NestedKey × D)} {vs : List (NestedKey × Addr × V)} (r : RN K H m ds vs) : RN K H' m' ds vs :=
  Paired.mapP r fun _ _ q => ⟨q.1, q.2.1, q.2.2.1.mono p, q.2.2.2.monoD p l⟩
/-- a changeable thing -/
def RO (K : PySem.W.Frag) (G : Gx) (H : Hp) (m : List Addr) : Ob → HO → Prop
  | .lst xs, .lst vs => RDs K H m xs vs
  | .dic kvs, .dK kvs' => RK K H m kvs kvs'
  | .dct kvs, .dT kvs' => RK K H m kvs kvs'
  | .ins c fs, .ins C _ fs' => C = G.ca c ∧ RK K H m fs fs'
  | .dnk kvs, .ext φ => ∃ (a : Addr) (xs : List (NestedKey × Addr × V)), φ = PhiN G.w a xs ∧ RN K H m kvs xs
  | _, _ => False
theorem RO.monoD {K : PySem.W.Frag} {G : Gx} {H H' : Hp} {m m' : List Addr} (p : PersD K H H') (l : Le m m') {o : Ob} {u : HO} (r : RO K G H m o u) : RO K G H' m' o u := by
  cases o <;> cases u <;> first | exact r.elim | skip
  · exact RDs.monoD p l r
  · exact RK.monoD p l r
  · exact RK.monoD p l r
  · exact ⟨r.1, RK.monoD p l r.2⟩
  · obtain ⟨a, xs, e, q⟩ := r
    exact ⟨a, xs, e, RN.monoD p l q⟩
theorem RO.mono {K : PySem.W.Frag} {G : Gx} {H H' : Hp} {m m' : List Addr} (p : Pers K H H') (l : Le m m') {o : Ob} {u : HO} (r : RO K G H m o u) : RO K G H' m' o u := r.monoD p.toPersD l
def Ob.isDic : Ob → Bool
  | .dic _ => true
  | .dct _ => true
  | _ => false
/-- what may change, or be locked and let go -/
def Chg : HO → Prop
  | .lst _ => True
  | .dK _ => True
  | .dT _ => True
  | .ins _ _ _ => True
  | .ext _ => True
  | _ => False
theorem RO.chg {K : PySem.W.Frag} {G : Gx} {H : Hp} {m : List Addr} {o : Ob} {u : HO} (r : RO K G H m o u) : Chg u := by
  cases o <;> cases u <;> first | exact r.elim | exact True.intro
theorem pers_upd {K : PySem.W.Frag} {H : Hp} {a : Addr} {u : HO} (h : ∀ u0, H a = some u0 → Chg u0) : Pers K H (upd H a u) := by
  refine ⟨⟨fun b vs t => ?_, fun b vs t => ?_⟩, fun b fs t => ?_, fun b o u t => ?_⟩
  · rcases t with t | ⟨rfl, (t | ⟨o, t⟩) | t⟩
    · refine .inl ?_
      rw [upd_ne (fun e => by subst e; exact h _ t)]
      exact t
    · refine .inl ?_
      rw [upd_ne (fun e => by subst e; exact h _ t)]
      exact t
    · refine .inr ⟨rfl, .inl (.inr ⟨o, ?_⟩)⟩
      rw [upd_ne (fun e => by subst e; exact h _ t)]
      exact t
    · exact .inr ⟨rfl, .inr t⟩
  · rcases t with ⟨o, t⟩ | t
    · refine .inl ⟨o, ?_⟩
      rw [upd_ne (fun e => by subst e; exact h _ t)]
      exact t
    · exact .inr t
  · rw [upd_ne (fun e => by subst e; exact h _ t)]
    exact t
  · rw [upd_ne (fun e => by subst e; exact h _ t)]
    exact t
theorem pers_new {K : PySem.W.Frag} {H : Hp} {a : Addr} {u : HO} (h : H a = none) : Pers K H (upd H a u) := pers_upd fun u0 e => by rw [h] at e; cases e
/-- the changeable things of h stand in H, those of L locked -/
structure RH (K : PySem.W.Frag) (G : Gx) (L : List Nat) (m : List Addr) (h : Hh) (H : Hp) : Prop where
  len : m.length = h.length
  nd : m.Nodup
  at_ : ∀ (n : Nat) (o : Ob) (a : Addr), h[n]? = some o → m[n]? = some a → ∃ u, RO K G H m o u ∧ (n ∈ L → o.isDic = true ∧ ∃ od, H a = some (.frz od u)) ∧ (n ∉ L → H a = some u)
section
variable {K : PySem.W.Frag} {G : Gx} {L : List Nat} {m : List Addr} {h : Hh} {H : Hp} {n : Nat} {o : Ob} {a p : Addr} {u : HO}
theorem RH.adr (r : RH K G L m h H) (e : h[n]? = some o) : ∃ a, m[n]? = some a := by
  have h1 := (List.getElem?_eq_some_iff.mp e).1
  exact ⟨_, List.getElem?_eq_getElem (r.len ▸ h1)⟩
theorem RH.obj (r : RH K G L m h H) (e : m[n]? = some a) : ∃ o, h[n]? = some o := by
  have h1 := (List.getElem?_eq_some_iff.mp e).1
  exact ⟨_, List.getElem?_eq_getElem (r.len ▸ h1)⟩
/-- it can be read -/
theorem RH.rd (r : RH K G L m h H) (e : h[n]? = some o) (ea : m[n]? = some a) : ∃ u, RO K G H m o u ∧ Rd H a u := by
  obtain ⟨u, q, h1, h2⟩ := r.at_ n o a e ea
  refine ⟨u, q, ?_⟩
  by_cases z : n ∈ L
  · exact .inr (h1 z).2
  · exact .inl (h2 z)
theorem RH.tracked (r : RH K G L m h H) (ea : m[n]? = some a) : ∃ u, H a = some u := by
  obtain ⟨o, e⟩ := r.obj ea
  obtain ⟨u, _, h1 | ⟨od, h1⟩⟩ := r.rd e ea
  · exact ⟨_, h1⟩
  · exact ⟨_, h1⟩
theorem RH.inj (r : RH K G L m h H) {k : Nat} (ea : m[n]? = some a) (eb : m[k]? = some a) : n = k := by
  obtain ⟨h1, e1⟩ := List.getElem?_eq_some_iff.mp ea
  obtain ⟨h2, e2⟩ := List.getElem?_eq_some_iff.mp eb
  exact (List.getElem_inj r.nd).mp (e1.trans e2.symm)
/-- a new thing -/
theorem RH.new (r : RH K G L m h H) (hp : H p = none) (q : RO K G (upd H p u) (m ++ [p]) o u) (hL : ∀ k ∈ L, k < h.length) : RH K G L (m ++ [p]) (h ++ [o]) (upd H p u) := by
  have np : ∀ (k : Nat) (b : Addr), m[k]? = some b → b ≠ p := fun k b e z => by
    subst z
    obtain ⟨u, hu⟩ := r.tracked e
    rw [hp] at hu
    cases hu
  refine ⟨by simp [r.len], ?_, fun k o' b e eb => ?_⟩
  · refine List.nodup_append.mpr ⟨r.nd, by simp, fun x hx y hy => ?_⟩
    obtain ⟨k, hk⟩ := List.getElem?_of_mem hx
    have e : y = p := by simpa using hy
    subst e
    exact np k x hk
  · by_cases hk : k < h.length
    · rw [List.getElem?_append_left hk] at e
      rw [List.getElem?_append_left (r.len ▸ hk)] at eb
      obtain ⟨u', q', h1, h2⟩ := r.at_ k o' b e eb
      refine ⟨u', q'.mono (pers_new hp) (Le.app _ _), fun z => ?_, fun z => ?_⟩
      · obtain ⟨i1, od, i2⟩ := h1 z
        exact ⟨i1, od, by rw [upd_ne (np k b eb)]; exact i2⟩
      · rw [upd_ne (np k b eb)]
        exact h2 z
    · have hk2 : k < (h ++ [o]).length := (List.getElem?_eq_some_iff.mp e).1
      have ek : k = h.length := by simp at hk2; omega
      subst ek
      rw [List.getElem?_append_right (Nat.le_refl _)] at e
      rw [List.getElem?_append_right (Nat.le_of_eq r.len)] at eb
      simp [r.len] at e eb
      subst e eb
      exact ⟨u, q, fun z => absurd (hL _ z) (Nat.lt_irrefl _), fun _ => upd_same⟩
/-- a thing is written -/
theorem RH.put (r : RH K G L m h H) (e : h[n]? = some o) (ea : m[n]? = some a) (hn : n ∉ L) {o' : Ob} {u' : HO} (q : RO K G H m o' u') : RH K G L m (h.set n o') (upd H a u') ∧ Pers K H (upd H a u') := by
  obtain ⟨u0, q0, h1, h2⟩ := r.at_ n o a e ea
  have P : Pers K H (upd H a u') := pers_upd fun u1 e1 => by
    rw [h2 hn] at e1
    cases e1
    exact q0.chg
  refine ⟨⟨by simp [r.len], r.nd, fun k ok b ek eb => ?_⟩, P⟩
  by_cases hk : k = n
  · subst hk
    have e2 : b = a := by rw [ea] at eb; exact (Option.some.inj eb).symm
    subst e2
    have hl := (List.getElem?_eq_some_iff.mp e).1
    rw [List.getElem?_set_self hl] at ek
    cases ek
    exact ⟨u', q.mono P (Le.refl _), fun z => absurd z hn, fun _ => upd_same⟩
  · rw [List.getElem?_set_ne (Ne.symm hk)] at ek
    have nb : b ≠ a := fun z => hk (by subst z; exact r.inj eb ea)
    obtain ⟨u1, q1, i1, i2⟩ := r.at_ k ok b ek eb
    refine ⟨u1, q1.mono P (Le.refl _), fun z => ?_, fun z => ?_⟩
    · obtain ⟨j1, od, j2⟩ := i1 z
      exact ⟨j1, od, by rw [upd_ne nb]; exact j2⟩
    · rw [upd_ne nb]
      exact i2 z
end
def RS (K : PySem.W.Frag) (H : Hp) (m : List Addr) (ρ : Rho) (σ : L2.St) : Prop := σ.length = ρ.length ∧ ∀ (i : Nat) (d : D), ρ[i]? = some (some d) → ∃ v, σ[i]? = some (some v) ∧ RD K H m d v
theorem RS.mono {K : PySem.W.Frag} {H H' : Hp} {m m' : List Addr} {ρ : Rho} {σ : L2.St} (p : Pers K H H') (l : Le m m') (r : RS K H m ρ σ) : RS K H' m' ρ σ :=
  ⟨r.1, fun i d e => let ⟨v, h1, h2⟩ := r.2 i d e; ⟨v, h1, h2.mono p l⟩⟩
theorem RS.monoD {K : PySem.W.Frag} {H H' : Hp} {m m' : List Addr} {ρ : Rho} {σ : L2.St} (p : PersD K H H') (l : Le m m') (r : RS K H m ρ σ) : RS K H' m' ρ σ :=
  ⟨r.1, fun i d e => let ⟨v, h1, h2⟩ := r.2 i d e; ⟨v, h1, h2.monoD p l⟩⟩
theorem RS.set {K : PySem.W.Frag} {H : Hp} {m : List Addr} {ρ : Rho} {σ : L2.St} {d : D} {v : V} (r : RS K H m ρ σ) (i : Nat) (q : RD K H m d v) : RS K H m (ρ.set i (some d)) (σ.set i (some v)) := by
  refine ⟨by simp [r.1], fun j d' e => ?_⟩
  by_cases hj : i = j
  · subst hj
    have hl : i < (ρ.set i (some d)).length := (List.getElem?_eq_some_iff.mp e).1
    rw [List.length_set] at hl
    rw [List.getElem?_set_self hl] at e
    cases e
    exact ⟨v, List.getElem?_set_self (r.1 ▸ hl), q⟩
  · rw [List.getElem?_set_ne hj] at e ⊢
    exact r.2 j d' e
theorem RS.del {K : PySem.W.Frag} {H : Hp} {m : List Addr} {ρ : Rho} {σ : L2.St} (r : RS K H m ρ σ) (i : Nat) (w : Option V) : RS K H m (ρ.set i none) (σ.set i w) := by
  refine ⟨by simp [r.1], fun j d' e => ?_⟩
  by_cases hj : i = j
  · subst hj
    have hl : i < (ρ.set i none).length := (List.getElem?_eq_some_iff.mp e).1
    rw [List.length_set] at hl
    rw [List.getElem?_set_self hl] at e
    cases e
  · rw [List.getElem?_set_ne hj] at e ⊢
    exact r.2 j d' e
/-- what stands around: the classes, the wish about errors, a fact that stays -/
structure Zx (K : PySem.W.Frag) where
  G : Gx
  W : WX
  I : List Addr → Hp → Prop
  keep : ∀ {m m' : List Addr} {H H' : Hp}, I m H → Le m m' → Pers K H H' → I m' H'
  /-- the slot of a caught error, its address -/
  J : Option (Nat × Addr)
class NoJ {K : PySem.W.Frag} (Z : Zx K) : Prop where
  h : Z.J = none
/-- an error of class c holding p -/
def RX (K : PySem.W.Frag) (G : Gx) (c : Nat) (p : Option D) (m : List Addr) (H : Hp) (cls : Value) (d : Option Addr) : Prop :=
  cls = .ref (G.ca c) ∧ match p with
    | none => d = none
    | some q => ∃ dx v, d = some dx ∧ H dx = some (.xd [(G.xf c, v)]) ∧ RD K H m q v
structure Stt (K : PySem.W.Frag) (Z : Zx K) (L : List Nat) (m : List Addr) (h : Hh) (ρ : Rho) (σ : L2.St) (H : Hp) : Prop where
  rh : RH K Z.G L m h H
  rs : RS K H m ρ σ
  iv : Z.I m H
  lk : ∀ k ∈ L, k < h.length
  jv : ∀ p, Z.J = some p → σ[p.1]? = some (some (V.ref p.2))
theorem Stt.on {K : PySem.W.Frag} {Z : Zx K} {L : List Nat} {m m1 : List Addr} {h h1 : Hh} {ρ : Rho} {σ : L2.St} {H H1 : Hp} (S : Stt K Z L m h ρ σ H) (l : Le m m1) (p : Pers K H H1) (r : RH K Z.G L m1 h1 H1) : Stt K Z L m1 h1 ρ σ H1 :=
  ⟨r, S.rs.mono p l, Z.keep S.iv l p, fun k hk => by
    have h1 := S.lk k hk
    obtain ⟨o, ho⟩ : ∃ o, h[k]? = some o := ⟨_, List.getElem?_eq_getElem h1⟩
    obtain ⟨a, ha⟩ := S.rh.adr ho
    obtain ⟨o', ho'⟩ := RH.obj r (l k a ha)
    exact (List.getElem?_eq_some_iff.mp ho').1, S.jv⟩
abbrev Rl (α β : Type) := List Addr → Hp → α → β → Prop
/-- behind r: what is wanted holds of what r says -/
def Aft {α β : Type} (K : PySem.W.Frag) (Rel : Rl α β) (G : Gx) (L : List Nat) (m : List Addr) (H : Hp) (r : R α) (Q : β → Hp → Prop) (E : XK) : Prop := match r with
  | .ok d h' => ∀ m' H' v, Le m m' → Pers K H H' → RH K G L m' h' H' → Rel m' H' d v → Q v H'
  | .exc c p h' => ∀ m' H' cls d, Le m m' → Pers K H H' → RH K G L m' h' H' → RX K G c p m' H' cls d → E cls d H'
  | .bad => False
theorem Aft.mono {α β : Type} {K : PySem.W.Frag} {Rel : Rl α β} {G : Gx} {L : List Nat} {m m1 : List Addr} {H H1 : Hp} {r : R α} {Q : β → Hp → Prop} {E : XK} (A : Aft K Rel G L m H r Q E) (l : Le m m1) (p : Pers K H H1) : Aft K Rel G L m1 H1 r Q E := by
  cases r with
  | ok d h' => exact fun m' H' v l' p' r' q => A m' H' v (l.trans l') (p.trans p') r' q
  | exc c q h' => exact fun m' H' cls d l' p' r' x => A m' H' cls d (l.trans l') (p.trans p') r' x
  | bad => exact A
/-- the wish about errors at these slots -/
abbrev wS (W : WX) (σ : L2.St) : XK := fun cls d H => W cls d σ H
/-- the reading of r -/
def Rg {α β : Type} (K : PySem.W.Frag) (Rel : Rl α β) (Z : Zx K) (r : Rho → List Nat → Hh → R α) : L2.St → Hp → (β → Hp → Prop) → Prop := fun σ H Q => ∃ m L h ρ, Stt K Z L m h ρ σ H ∧ Aft K Rel Z.G L m H (r ρ L h) Q (wS Z.W σ)
abbrev rD (K : PySem.W.Frag) : Rl D V := fun m H d v => RD K H m d v
abbrev rDs (K : PySem.W.Frag) : Rl (List D) (List V) := fun m H d v => RDs K H m d v
abbrev rE (α : Type) : Rl α α := fun _ _ a b => a = b
section
variable {α β γ δ : Type} {K : PySem.W.Frag} {RA : Rl α β} {RC : Rl γ δ} {Z : Zx K} {L : List Nat} {m : List Addr} {h : Hh} {ρ : Rho} {σ : L2.St} {H : Hp}
theorem Aft.ok {a : α} {b : β} {Q : β → Hp → Prop} {E : XK} (S : Stt K Z L m h ρ σ H) (A : Aft K RA Z.G L m H (.ok a h) Q E) (q : RA m H a b) : Q b H := A m H b (Le.refl m) (Pers.refl H) S.rh q
theorem Rg.bind {ra : Rho → List Nat → Hh → R α} {f : α → Hh → R γ} {Q : δ → Hp → Prop} {F : β → Hp → Prop} (S : Stt K Z L m h ρ σ H) (A : Aft K RC Z.G L m H ((ra ρ L h).bind f) Q (wS Z.W σ))
    (k : ∀ m1 h1 H1 a x, Stt K Z L m1 h1 ρ σ H1 → Le m m1 → Pers K H H1 → RA m1 H1 a x → Aft K RC Z.G L m1 H1 (f a h1) Q (wS Z.W σ) → F x H1) : Rg K RA Z ra σ H F := by
  refine ⟨m, L, h, ρ, S, ?_⟩
  cases e : ra ρ L h with
  | ok a h1 =>
    rw [e] at A
    exact fun m1 H1 v l p r q => k m1 h1 H1 a v (S.on l p r) l p q (Aft.mono (A : Aft K RC Z.G L m H (f a h1) Q (wS Z.W σ)) l p)
  | exc c q h1 =>
    rw [e] at A
    exact A
  | bad =>
    rw [e] at A
    exact A.elim
theorem Rg.bindE {ra : Rho → List Nat → Hh → R α} {f : α → Hh → R γ} {Q : δ → Hp → Prop} {F : β → Hp → Prop} (S : Stt K Z L m h ρ σ H) (A : Aft K RC Z.G L m H ((ra ρ L h).bind f) Q (wS Z.W σ))
    (k : ∀ m1 h1 H1 a x, ra ρ L h = .ok a h1 → Stt K Z L m1 h1 ρ σ H1 → Le m m1 → Pers K H H1 → RA m1 H1 a x → Aft K RC Z.G L m1 H1 (f a h1) Q (wS Z.W σ) → F x H1) : Rg K RA Z ra σ H F := by
  refine ⟨m, L, h, ρ, S, ?_⟩
  cases e : ra ρ L h with
  | ok a h1 =>
    rw [e] at A
    exact fun m1 H1 v l p r q => k m1 h1 H1 a v e (S.on l p r) l p q (Aft.mono (A : Aft K RC Z.G L m H (f a h1) Q (wS Z.W σ)) l p)
  | exc c q h1 =>
    rw [e] at A
    exact A
  | bad =>
    rw [e] at A
    exact A.elim
/-- a heap grows by a thing that has no number -/
theorem RH.more {G : Gx} {p : Addr} {u : HO} (r : RH K G L m h H) (hp : H p = none) : RH K G L m h (upd H p u) := by
  refine ⟨r.len, r.nd, fun n o a e ea => ?_⟩
  obtain ⟨u', q, h1, h2⟩ := r.at_ n o a e ea
  have na : a ≠ p := fun z => by
    subst z
    obtain ⟨u1, hu⟩ := r.tracked ea
    rw [hp] at hu
    cases hu
  refine ⟨u', q.mono (pers_new hp) (Le.refl _), fun z => ?_, fun z => ?_⟩
  · obtain ⟨i1, od, i2⟩ := h1 z
    exact ⟨i1, od, by rw [upd_ne na]; exact i2⟩
  · rw [upd_ne na]
    exact h2 z
/-- a new list, dict .. -/
theorem Aft.new {G : Gx} {o : Ob} {u : HO} {Q : VK} {E : XK} (r : RH K G L m h H) (lk : ∀ k ∈ L, k < h.length) (A : Aft K (rD K) G L m H (new o h) Q E) (q : ∀ p, H p = none → RO K G (upd H p u) (m ++ [p]) o u) : ∀ p, H p = none → Q (.ref p) (upd H p u) := fun p hp =>
  A (m ++ [p]) (upd H p u) (.ref p) (Le.app _ _) (pers_new hp) (r.new hp (q p hp) lk) (.ref (by rw [← r.len]; simp))
/-- a new tuple -/
theorem Aft.newT {G : Gx} {xs : List D} {vs : List V} {Q : VK} {E : XK} (r : RH K G L m h H) (A : Aft K (rD K) G L m H (.ok (.tup xs) h) Q E) (t : RDs K H m xs vs) : ∀ p, H p = none → Q (.ref p) (upd H p (.tup vs)) := fun p hp =>
  A m (upd H p (.tup vs)) (.ref p) (Le.refl _) (pers_new hp) (r.more hp) (.tup (.inl upd_same) (t.mono (pers_new hp) (Le.refl _)))
/-- a list that is read -/
theorem RH.lst {G : Gx} {x : D} {v : V} {xs : List D} (r : RH K G L m h H) (q : RD K H m x v) (e : lstOf x h = some xs) : ∃ a vs, v = .ref a ∧ SqL K H a vs ∧ RDs K H m xs vs := by
  cases q with
  | frl hh t =>
    cases e
    exact ⟨_, _, rfl, hh.l, t⟩
  | ref hn =>
    rename_i n a
    simp only [lstOf] at e
    split at e
    · rename_i ys ey
      cases e
      obtain ⟨u, q, hr⟩ := r.rd ey hn
      cases u <;> first | exact False.elim q | skip
      exact ⟨a, _, rfl, .inl hr, q⟩
    · cases e
  | _ => cases e
theorem RH.seq {G : Gx} {x : D} {v : V} {xs : List D} (r : RH K G L m h H) (q : RD K H m x v) (e : seqOf x h = some xs) : ∃ a vs, v = .ref a ∧ (SqL K H a vs ∨ SqT K H a vs) ∧ RDs K H m xs vs := by
  cases q with
  | tup hh t =>
    cases e
    exact ⟨_, _, rfl, .inr hh.t, t⟩
  | frl hh t =>
    obtain ⟨a, vs, h1, h2, h3⟩ := r.lst (.frl hh t) e
    exact ⟨a, vs, h1, .inl h2, h3⟩
  | ref hn =>
    obtain ⟨a, vs, h1, h2, h3⟩ := r.lst (.ref hn) e
    exact ⟨a, vs, h1, .inl h2, h3⟩
  | _ => cases e
/-- a list that nobody locked -/
theorem RH.lstH {G : Gx} {n : Nat} {a : Addr} {xs : List D} (r : RH K G L m h H) (hn : m[n]? = some a) (e : h[n]? = some (.lst xs)) : ∃ vs, H a = some (.lst vs) ∧ RDs K H m xs vs := by
  obtain ⟨u, q, h1, h2⟩ := r.at_ n _ a e hn
  have nl : n ∉ L := fun z => by
    have := (h1 z).1
    cases this
  cases u <;> first | exact False.elim q | skip
  exact ⟨_, h2 nl, q⟩
end
abbrev ME (X : Cx) (Z : Zx X.K) (e : Expr) (r : EX) : Prop := PE X e (Rg X.K (rD X.K) Z r)
abbrev MA (X : Cx) (Z : Zx X.K) (es : List Expr) (r : AX) : Prop := PA X es (Rg X.K (rDs X.K) Z r)
abbrev MT (X : Cx) (Z : Zx X.K) (e : Expr) (r : TX) : Prop := PT X e (Rg X.K (rE Bool) Z r)
abbrev MW (X : Cx) (Z : Zx X.K) (e : Expr) (r : TX) : Prop := PW X e (Rg X.K (rE Bool) Z r)
abbrev MO (X : Cx) (Z : Zx X.K) (e : Option Expr) (r : OX) : Prop := PO X e (Rg X.K (rE (Option Int)) Z r)
theorem PE.imp {X : Cx} {e : Expr} {t t' : TE} (h : PE X e t) (i : ∀ σ H Q, t' σ H Q → t σ H Q) : PE X e t' := ⟨fun pins s σ H Q I q => h.run pins s σ H Q I (i σ H Q q)⟩
theorem PA.imp {X : Cx} {e : List Expr} {t t' : TA} (h : PA X e t) (i : ∀ σ H Q, t' σ H Q → t σ H Q) : PA X e t' := ⟨fun pos pins s σ H Q I q => h.run pos pins s σ H Q I (i σ H Q q)⟩
theorem PT.imp {X : Cx} {e : Expr} {t t' : TT} (h : PT X e t) (i : ∀ σ H Q, t' σ H Q → t σ H Q) : PT X e t' := ⟨fun pins s σ H Q I q => h.run pins s σ H Q I (i σ H Q q)⟩
theorem PW.imp {X : Cx} {e : Expr} {t t' : TT} (h : PW X e t) (i : ∀ σ H Q, t' σ H Q → t σ H Q) : PW X e t' := ⟨fun w pins s σ H Q I q => h.run w pins s σ H Q I (i σ H Q q)⟩
theorem PO.imp {X : Cx} {e : Option Expr} {t t' : TO} (h : PO X e t) (i : ∀ σ H Q, t' σ H Q → t σ H Q) : PO X e t' := ⟨fun pins s σ H Q I q => h.run pins s σ H Q I (i σ H Q q)⟩
theorem PS.imp {X : Cx} {e : Stmt} {t t' : TS} (h : PS X e t) (i : ∀ D σ H, t' D σ H → t D σ H) : PS X e t' := ⟨fun pins s σ H D I q => h.run pins s σ H D I (i D σ H q)⟩
theorem PSs.imp {X : Cx} {e : List Stmt} {t t' : TS} (h : PSs X e t) (i : ∀ D σ H, t' D σ H → t D σ H) : PSs X e t' := ⟨fun pins s σ H D I q => h.run pins s σ H D I (i D σ H q)⟩
theorem PG.imp {X : Cx} {e : Expr} {t t' : TG} (h : PG X e t) (i : ∀ v σ H Q, t' v σ H Q → t v σ H Q) : PG X e t' := ⟨fun pins s σ H v u Q I r q => h.run pins s σ H v u Q I r (i v σ H Q q)⟩
theorem PE.or {X : Cx} {e : Expr} {t t' : TE} (h : PE X e t) (h' : PE X e t') : PE X e (fun σ H Q => t σ H Q ∨ t' σ H Q) :=
  ⟨fun pins s σ H Q I q => q.elim (h.run pins s σ H Q I) (h'.run pins s σ H Q I)⟩
theorem PT.or {X : Cx} {e : Expr} {t t' : TT} (h : PT X e t) (h' : PT X e t') : PT X e (fun σ H Q => t σ H Q ∨ t' σ H Q) :=
  ⟨fun pins s σ H Q I q => q.elim (h.run pins s σ H Q I) (h'.run pins s σ H Q I)⟩
theorem PS.or {X : Cx} {e : Stmt} {t t' : TS} (h : PS X e t) (h' : PS X e t') : PS X e (fun D σ H => t D σ H ∨ t' D σ H) :=
  ⟨fun pins s σ H D I q => q.elim (h.run pins s σ H D I) (h'.run pins s σ H D I)⟩
section
variable {X : Cx} {Z : Zx X.K} {a b c : Expr} {ra rb rc : EX} {pos : Pos}
theorem me_var (i : Nat) {x : Str} (hN : X.N[i]? = some x := by rfl) (hv : Vis X.env.scope x := by first | exact Or.inl rfl | exact Or.inr (Or.inl rfl) | exact Or.inr (Or.inr rfl)) (hd : (x == ("__debug__" : Str)) = false := by decide)
    (hcd : (x == ("__classdict__" : Str)) = false := by decide) : ME X Z (.Name x pos) (eVar i) := by
  refine PE.imp (pe_var hN hv hd hcd) fun σ H Q h => ?_
  obtain ⟨m, L, h, ρ, S, A⟩ := h
  unfold eVar at A
  split at A
  · rename_i d e
    obtain ⟨v, h1, h2⟩ := S.rs.2 i d e
    exact ⟨v, h1, Aft.ok (RA := rD X.K) S A h2⟩
  · exact A.elim
theorem me_of {v : V} {d : D} {e : Expr} (h : PE X e (tC v)) (r : ∀ H m, RD X.K H m d v) : ME X Z e (eC d) :=
  PE.imp h fun σ H Q ⟨m, L, h, ρ, S, A⟩ => Aft.ok (RA := rD X.K) S A (r H m)
theorem me_int {i : Int} {j : Nat} : ME X Z (.Constant (.int i) j pos) (eC (.int i)) := me_of pe_int fun _ _ => .int i
theorem me_bl {b : Bool} {j : Nat} : ME X Z (.Constant (.bool b) j pos) (eC (.bl b)) := me_of pe_bl fun _ _ => .bl b
theorem me_non {j : Nat} : ME X Z (.Constant .none j pos) (eC .non) := me_of pe_non fun _ _ => .non
theorem me_str {x : Str} {j : Nat} : ME X Z (.Constant (.str x) j pos) (eC (.str x)) := me_of pe_str fun _ _ => .str x
/-- a module's constant -/
theorem me_gint {x : Str} {i : Int} {t : Tok} (hg : Gl X x) (hm : X.mg x = some (.int i t)) (hd : (x == ("__debug__" : Str)) = false := by decide) : ME X Z (.Name x pos) (eC (.int i)) := me_of (pe_glob hg hm (show RelV (.int i) (Value.int i t) from ⟨t, rfl⟩) hd) fun _ _ => .int i
theorem me_gstr {x z : Str} {t : Tok} (hg : Gl X x) (hm : X.mg x = some (.str z t)) (hd : (x == ("__debug__" : Str)) = false := by decide) : ME X Z (.Name x pos) (eC (.str z)) := me_of (pe_glob hg hm (show RelV (.str z) (Value.str z t) from ⟨t, rfl⟩) hd) fun _ _ => .str z
theorem ma_nil : MA X Z [] aNil := PA.imp pa_nil fun σ H Q ⟨m, L, h, ρ, S, A⟩ => Aft.ok (RA := rDs X.K) S A .nil
theorem ma_cons {e : Expr} {es : List Expr} {r : EX} {t : AX} (ha : ME X Z e r) (hr : MA X Z es t) (hs : starEach (e :: es) X.env = (false, eval e X.env) :: starEach es X.env := by rfl) : MA X Z (e :: es) (aCons r t) := by
  refine PA.imp (pa_cons ha hr hs) fun σ H Q ⟨m, L, h, ρ, S, A⟩ => ?_
  refine Rg.bind (RC := rDs X.K) S A fun m1 h1 H1 x v S1 l1 p1 q1 A1 => ?_
  refine Rg.bind (RC := rDs X.K) S1 A1 fun m2 h2 H2 xs vs S2 l2 p2 q2 A2 => ?_
  exact Aft.ok (RA := rDs X.K) S2 A2 (.cons (q1.mono p2 l2) q2)
/-- a two-place operation by values: what its rule asks follows from what the small one says -/
def OkB (K : PySem.W.Frag) (f : B2) (r : R2) : Prop := ∀ (G : Gx) (L : List Nat) (m : List Addr) (h : Hh) (H : Hp) (x y : D) (v u : V) (Q : VK) (E : XK), RH K G L m h H → (∀ k ∈ L, k < h.length) → RD K H m x v → RD K H m y u → Aft K (rD K) G L m H (f x y h) Q E → r v u H Q
def OkU (K : PySem.W.Frag) (f : D → Hh → R D) (r : V → Hp → VK → Prop) : Prop := ∀ (G : Gx) (L : List Nat) (m : List Addr) (h : Hh) (H : Hp) (x : D) (v : V) (Q : VK) (E : XK), RH K G L m h H → (∀ k ∈ L, k < h.length) → RD K H m x v → Aft K (rD K) G L m H (f x h) Q E → r v H Q
def OkL (K : PySem.W.Frag) (f : List D → Hh → R D) (r : List V → Hp → VK → Prop) : Prop := ∀ (G : Gx) (L : List Nat) (m : List Addr) (h : Hh) (H : Hp) (x : List D) (v : List V) (Q : VK) (E : XK), RH K G L m h H → (∀ k ∈ L, k < h.length) → RDs K H m x v → Aft K (rD K) G L m H (f x h) Q E → r v H Q
theorem AftB.ok {G : Gx} {K : PySem.W.Frag} {L : List Nat} {m : List Addr} {h : Hh} {H : Hp} {d : D} {v : V} {Q : VK} {E : XK} (S : RH K G L m h H) (A : Aft K (rD K) G L m H (.ok d h) Q E) (q : RD K H m d v) : Q v H := A m H v (Le.refl m) (Pers.refl H) S q
theorem me_bin {op : Operator} {f : B2} {r : R2} (ho : OpR X (binaryOp op) r) (hf : OkB X.K f r) (ha : ME X Z a ra) (hb : ME X Z b rb) : ME X Z (.BinOp a op b pos) (eBin f ra rb) := by
  refine PE.imp (pe_op ho ha hb) fun σ H Q ⟨m, L, h, ρ, S, A⟩ => ?_
  refine Rg.bind (RC := rD X.K) S A fun m1 h1 H1 x v S1 l1 p1 q1 A1 => ?_
  refine Rg.bind (RC := rD X.K) S1 A1 fun m2 h2 H2 y u S2 l2 p2 q2 A2 => ?_
  exact hf _ L m2 h2 H2 x y v u Q _ S2.rh S2.lk (q1.mono p2 l2) q2 A2
theorem rg_bl {K : PySem.W.Frag} {Z : Zx K} {ra : EX} {σ : L2.St} {H : Hp} {k : Bool → Hp → Prop} (A : Rg K (rE Bool) Z (tBl ra) σ H k) : Rg K (rD K) Z ra σ H fun x H' => ∃ b, x = .bl b ∧ k b H' := by
  obtain ⟨m, L, h, ρ, S, A⟩ := A
  refine Rg.bind (RC := rE Bool) S A fun m1 h1 H1 x v S1 l1 p1 q1 A1 => ?_
  cases q1 <;> first | exact False.elim A1 | exact ⟨_, rfl, (A1 : ∀ _, _) m1 H1 _ (Le.refl _) (Pers.refl _) S1.rh rfl⟩
/-- a comparison: as a value, as a test -/
abbrev MC (X : Cx) (Z : Zx X.K) (e : Expr) (r : EX) : Prop := ME X Z e r ∧ MT X Z e (tBl r)
theorem me_mc {X : Cx} {Z : Zx X.K} {e : Expr} {r : EX} (h : MC X Z e r) : ME X Z e r := h.1
theorem mt_mc {X : Cx} {Z : Zx X.K} {e : Expr} {r : EX} (h : MC X Z e r) : MT X Z e (tBl r) := h.2
theorem mc_of {X : Cx} {Z : Zx X.K} {e : Expr} {ra : EX} {t : TE} (h1 : PE X e t) (h2 : PT X e (fun σ H Q => t σ H fun x H1 => ∃ c, x = .bl c ∧ Q c H1)) (f : ∀ σ H Q, Rg X.K (rD X.K) Z ra σ H Q → t σ H Q) : MC X Z e ra :=
  ⟨PE.imp h1 f, PT.imp h2 fun σ H Q S => f σ H _ (rg_bl S)⟩
theorem mc_cmp {op : CmpOp} {f : B2} {r : R2} (ho : OpR X (compareOp op) r) (hf : OkB X.K f r) (ha : ME X Z a ra) (hb : ME X Z b rb) (hm : behindInMarks op b = false) : MC X Z (.Compare a [op] [b] pos) (eBin f ra rb) := by
  refine mc_of (pe_cmpR ho ha hb hm) (pt_cmpR ho ha hb hm) fun σ H Q ⟨m, L, h, ρ, S, A⟩ => ?_
  refine Rg.bind (RC := rD X.K) S A fun m1 h1 H1 x v S1 l1 p1 q1 A1 => ?_
  refine Rg.bind (RC := rD X.K) S1 A1 fun m2 h2 H2 y u S2 l2 p2 q2 A2 => ?_
  exact hf _ L m2 h2 H2 x y v u Q _ S2.rh S2.lk (q1.mono p2 l2) q2 A2
theorem me_un {op : UnaryOp} {f : D → Hh → R D} {r : V → Hp → VK → Prop} (ho : UnR X (unaryOp op) r) (hf : OkU X.K f r) (ha : ME X Z a ra) : ME X Z (.UnaryOp op a pos) (eUn f ra) := by
  refine PE.imp (pe_un ho ha) fun σ H Q ⟨m, L, h, ρ, S, A⟩ => ?_
  refine Rg.bind (RC := rD X.K) S A fun m1 h1 H1 x v S1 l1 p1 q1 A1 => ?_
  exact hf _ L m1 h1 H1 x v Q _ S1.rh S1.lk q1 A1
variable {K : PySem.W.Frag}
theorem ok_sub : OkB K bSub (rI0 fun i j => .int (i - j)) := by
  intro G L m h H x y v u Q E S lk rx ry A
  cases rx <;> cases ry <;> first | exact False.elim A | exact ⟨_, _, rfl, rfl, AftB.ok S A (.int _)⟩
theorem ok_cInt {p : Int → Int → Bool} : OkB K (cInt p) (rI0 fun i j => .bl (p i j)) := by
  intro G L m h H x y v u Q E S lk rx ry A
  cases rx <;> cases ry <;> first | exact False.elim A | exact ⟨_, _, rfl, rfl, AftB.ok S A (.bl _)⟩
theorem ok_add : OkB K bAdd (fun x y H Q => rI0 (fun i j => .int (i + j)) x y H Q ∨ (∃ i j, x = .str i ∧ y = .str j ∧ i.length + j.length ≤ sizeLine ∧ Q (.str (i ++ j)) H) ∨ rCatA K x y H Q ∨ rCat x y H Q) := by
  intro G L m h H x y v u Q E S lk rx ry A
  cases rx <;> cases ry <;> first | exact False.elim A | exact .inl ⟨_, _, rfl, rfl, AftB.ok S A (.int _)⟩ | skip
  · simp only [bAdd] at A
    split at A
    · rename_i hl
      exact .inr (.inl ⟨_, _, rfl, rfl, hl, AftB.ok S A (.str _)⟩)
    · exact False.elim A
  · rename_i a xs vs h1 t1 b ys us h2 t2
    simp only [bAdd] at A
    split at A
    · rename_i hl
      refine .inr (.inr (.inl ⟨a, b, vs, us, rfl, rfl, h1.t, h2.t, by rw [← t1.length, ← t2.length]; exact hl, fun e => ?_, fun e1 e2 => ?_, fun e1 e2 => ?_⟩))
      · subst e
        cases t1
        exact AftB.ok S A (.tup h2 t2)
      · subst e2
        cases t2
        rw [List.append_nil] at A
        exact AftB.ok S A (.tup h1 t1)
      · exact Aft.newT S A (t1.append t2)
    · exact False.elim A
  · rename_i n a hn k b hk
    simp only [bAdd] at A
    split at A
    · rename_i xs ys e1 e2
      split at A
      · rename_i hl
        obtain ⟨vs, hv, t1⟩ := S.lstH hn e1
        obtain ⟨us, hu, t2⟩ := S.lstH hk e2
        refine .inr (.inr (.inr ⟨a, b, vs, us, rfl, rfl, hv, hu, by rw [← t1.length, ← t2.length]; exact hl, ?_⟩))
        exact Aft.new S lk A fun p hp => (t1.append t2).mono (pers_new hp) (Le.app _ _)
      · exact False.elim A
    · exact False.elim A
theorem op_addX : OpR X (binaryOp .Add) (fun x y H Q => rI0 (fun i j => .int (i + j)) x y H Q ∨ (∃ i j, x = .str i ∧ y = .str j ∧ i.length + j.length ≤ sizeLine ∧ Q (.str (i ++ j)) H) ∨ rCatA X.K x y H Q ∨ rCat x y H Q) := op_add.or (op_add_str.or (op_catA.or op_cat))
end
end Mi
end
section
set_option maxHeartbeats 1000000
namespace Mi
open PySem PySem.Spec PyProof.Rows L2
section
variable {K : PySem.W.Frag}
theorem small64_ok {i j : Int} (h : (small64 i || small64 j) = true) : CMul i j := by
  rcases Bool.or_eq_true_iff.mp h with h | h
  · exact .inl (of_decide_eq_true h)
  · exact .inr (of_decide_eq_true h)
theorem ok_mul : OkB K bMul (rI CMul fun i j => .int (i * j)) := by
  intro G L m h H x y v u Q E S lk rx ry A
  cases rx <;> cases ry <;> first | exact False.elim A | skip
  simp only [bMul] at A
  split at A
  · rename_i hl
    exact ⟨_, _, rfl, rfl, small64_ok hl, AftB.ok S A (.int _)⟩
  · exact False.elim A
theorem ok_div : OkB K bDiv (rI CDivW fun i j => .int (i / j)) := by
  intro G L m h H x y v u Q E S lk rx ry A
  cases rx <;> cases ry <;> first | exact False.elim A | skip
  simp only [bDiv] at A
  split at A
  · rename_i hl
    exact ⟨_, _, rfl, rfl, wide_div hl.1 hl.2 (by decide) (by decide), AftB.ok S A (.int _)⟩
  · exact False.elim A
theorem ok_mod : OkB K bMod (rI (fun _ j => 0 < j) fun i j => .int (i % j)) := by
  intro G L m h H x y v u Q E S lk rx ry A
  cases rx <;> cases ry <;> first | exact False.elim A | skip
  simp only [bMod] at A
  split at A
  · rename_i hl
    exact ⟨_, _, rfl, rfl, hl, AftB.ok S A (.int _)⟩
  · exact False.elim A
theorem ok_pow : OkB K bPow (rI CPow fun i j => .int (i ^ j.toNat)) := by
  intro G L m h H x y v u Q E S lk rx ry A
  cases rx <;> cases ry <;> first | exact False.elim A | skip
  simp only [bPow] at A
  split at A
  · rename_i hl
    exact ⟨_, _, rfl, rfl, hl, AftB.ok S A (.int _)⟩
  · exact False.elim A
theorem ok_neg : OkU K uNeg (rU fun i => .int (-i)) := by
  intro G L m h H x v Q E S lk rx A
  cases rx <;> first | exact False.elim A | exact ⟨_, rfl, AftB.ok S A (.int _)⟩
theorem isNon_ok {H : Hp} {m : List Addr} {x : D} {v : V} (r : RD K H m x v) : decide (v = .non) = x.isNon := by
  cases r <;> simp [D.isNon]
mutual
theorem toPy_dp {G : Gx} {L : List Nat} {m : List Addr} {h : Hh} {H : Hp} (S : RH K G L m h H) : ∀ (f : Nat) {d : D} {v : V} {p : PyData}, RD K H m d v → toPy f h d = some p → Dp K H v p
  | 0, _, _, _, _, e => by simp [toPy] at e
  | f + 1, d, v, p, r, e => by
    have all : ∀ {ds : List D} {vs : List V} {ps : List PyData}, RDs K H m ds vs → ds.mapM (toPy f h) = some ps → DpAll K H vs ps := by
      intro ds
      induction ds with
      | nil =>
        intro vs ps t e
        cases t
        simp at e
        subst e
        exact .nil
      | cons d ds ih =>
        intro vs ps t e
        cases t with
        | cons q t =>
          rw [List.mapM_cons] at e
          cases e1 : toPy f h d with
          | none => rw [e1] at e; cases e
          | some p1 =>
            cases e2 : ds.mapM (toPy f h) with
            | none => rw [e1, e2] at e; cases e
            | some ps2 =>
              rw [e1, e2] at e
              cases e
              exact .cons (toPy_dp S f q e1) (ih t e2)
    cases r with
    | non => cases e; exact .non
    | bl b => cases e; exact .bl b
    | int i => cases e; exact .int i
    | str x => cases e; exact .str x
    | tup hh t =>
      simp only [toPy, Option.map_eq_some_iff] at e
      obtain ⟨ps, e1, rfl⟩ := e
      exact .tup hh.t (all t e1)
    | frl hh t =>
      simp only [toPy, Option.map_eq_some_iff] at e
      obtain ⟨ps, e1, rfl⟩ := e
      exact .lst hh.l (all t e1)
    | ref hn =>
      simp only [toPy] at e
      split at e
      · rename_i xs ex
        rw [Option.map_eq_some_iff] at e
        obtain ⟨ps, e1, rfl⟩ := e
        obtain ⟨u, q, hr⟩ := S.rd ex hn
        cases u <;> first | exact False.elim q | skip
        exact .lst (.inl hr) (all q e1)
      · cases e
end
theorem scEq_ok {H : Hp} {m : List Addr} {x y : D} {v u : V} {b : Bool} (rx : RD K H m x v) (ry : RD K H m y u) (e : scEq x y = some b) : scal v u = true ∧ decide (v = u) = b := by
  cases rx <;> cases ry <;> simp [scEq] at e <;> subst e <;> simp [scal]
mutual
theorem toPy_plain {h : Hh} : ∀ (f : Nat) {d : D} {p : PyData}, toPy f h d = some p → p.plain = true ∧ p.depth ≤ f
  | 0, _, _, e => by simp [toPy] at e
  | f + 1, d, p, e => by
    cases d with
    | non => cases e; simp [PyData.plain, PyData.depth]
    | bl b => cases e; simp [PyData.plain, PyData.depth]
    | int i => cases e; simp [PyData.plain, PyData.depth]
    | str x => cases e; simp [PyData.plain, PyData.depth]
    | tup xs =>
      simp only [toPy, Option.map_eq_some_iff] at e
      obtain ⟨ps, e1, rfl⟩ := e
      obtain ⟨h1, h2⟩ := toPys_plain f xs e1
      exact ⟨by simpa [PyData.plain] using h1, by simp [PyData.depth]; omega⟩
    | frl xs =>
      simp only [toPy, Option.map_eq_some_iff] at e
      obtain ⟨ps, e1, rfl⟩ := e
      obtain ⟨h1, h2⟩ := toPys_plain f xs e1
      exact ⟨by simpa [PyData.plain] using h1, by simp [PyData.depth]; omega⟩
    | ref n =>
      simp only [toPy] at e
      split at e
      · rename_i xs ex
        rw [Option.map_eq_some_iff] at e
        obtain ⟨ps, e1, rfl⟩ := e
        obtain ⟨h1, h2⟩ := toPys_plain f xs e1
        exact ⟨by simpa [PyData.plain] using h1, by simp [PyData.depth]; omega⟩
      · cases e
theorem toPys_plain {h : Hh} : ∀ (f : Nat) (xs : List D) {ps : List PyData}, xs.mapM (toPy f h) = some ps → PyData.plainAll ps = true ∧ PyData.depthAll ps ≤ f
  | f, [], _, e => by cases e; exact ⟨rfl, by simp [PyData.depthAll]⟩
  | f, x :: xs, _, e => by
    rw [List.mapM_cons] at e
    cases e1 : toPy f h x with
    | none => rw [e1] at e; cases e
    | some p1 =>
      cases e2 : xs.mapM (toPy f h) with
      | none => rw [e1, e2] at e; cases e
      | some ps2 =>
        rw [e1, e2] at e
        cases e
        obtain ⟨h1, h2⟩ := toPy_plain f e1
        obtain ⟨h3, h4⟩ := toPys_plain f xs e2
        exact ⟨by simp [PyData.plainAll, h1, h3], by simp [PyData.depthAll]; omega⟩
end
/-- == of two items of tuples -/
def EqE2 (K : PySem.W.Frag) (H : Hp) (v u : V) (b : Bool) : Prop := (∃ a, v = .ref a ∧ u = .ref a ∧ b = true) ∨ ∃ d e, Dp K H v d ∧ Dp K H u e ∧ d.plain = true ∧ e.plain = true ∧ d.depth ≤ 60 ∧ b = PyData.eqv d e
inductive EqTs (K : PySem.W.Frag) (H : Hp) : List V → List V → Bool → Prop
  | nn : EqTs K H [] [] true
  | nc {u : V} {us : List V} : EqTs K H [] (u :: us) false
  | cn {u : V} {us : List V} : EqTs K H (u :: us) [] false
  | cc {v u : V} {vs us : List V} {b r : Bool} : EqE2 K H v u b → EqTs K H vs us r → EqTs K H (v :: vs) (u :: us) (b && r)
def rEqT (K : PySem.W.Frag) : R2 := fun x y H Q => ∃ a b vs us r, x = .ref a ∧ y = .ref b ∧ SqT K H a vs ∧ SqT K H b us ∧ EqTs K H vs us r ∧ Q (.bl r) H
def rNeT (K : PySem.W.Frag) : R2 := fun x y H Q => ∃ a b vs us r, x = .ref a ∧ y = .ref b ∧ SqT K H a vs ∧ SqT K H b us ∧ EqTs K H vs us r ∧ Q (.bl (!r)) H
theorem EqTs.at_ {X : Cx} {pins : List (Addr × Obj)} {σ : L2.St} {H : Hp} {s : Shared} {A : Around} (I : Inv X pins σ H s) (hu : A.units + 61 < cLine) {vs us : List V} {r : Bool} (h : EqTs X.K H vs us r) :
    ∀ {ws ts : List Value}, Vals vs ws → Vals us ts → ∃ e : Nat → Bool, (∀ j (h1 : j < ws.length) (h2 : j < ts.length), SeqAt.EqAt A s ws[j] ts[j] (e j)) ∧ r = ((List.range (min ws.length ts.length)).all e && ws.length == ts.length) := by
  induction h with
  | nn =>
    intro ws ts r1 r2
    cases r1; cases r2
    exact ⟨fun _ => true, fun j h1 => absurd h1 (Nat.not_lt_zero j), by simp⟩
  | nc =>
    intro ws ts r1 r2
    cases r1; cases r2
    exact ⟨fun _ => true, fun j h1 => absurd h1 (Nat.not_lt_zero j), by simp⟩
  | cn =>
    intro ws ts r1 r2
    cases r1; cases r2
    exact ⟨fun _ => true, fun j _ h1 => absurd h1 (Nat.not_lt_zero j), by simp⟩
  | @cc v u vs us b r q _ ih =>
    intro ws ts r1 r2
    cases r1 with
    | @cons _ w _ ws a1 b1 =>
      cases r2 with
      | @cons _ t _ ts a2 b2 =>
        obtain ⟨e, h1, h2⟩ := ih b1 b2
        refine ⟨fun j => match j with
          | 0 => b
          | j + 1 => e j, fun j j1 j2 => ?_, ?_⟩
        · cases j with
          | zero =>
            rcases q with ⟨a, rfl, rfl, rfl⟩ | ⟨d, d', hd, he, pd, pe, dd, rfl⟩
            · cases (show w = Value.ref a from a1)
              cases (show t = Value.ref a from a2)
              exact SeqAt.EqAt.same _
            · obtain ⟨as, q1⟩ := Dp.reads I d _ w hd a1
              obtain ⟨bs, q2⟩ := Dp.reads I d' _ t he a2
              exact SeqAt.eqAt_plain d d' A s _ _ _ _ q1 q2 pd pe (by omega)
          | succ j => exact h1 j (Nat.lt_of_succ_lt_succ j1) (Nat.lt_of_succ_lt_succ j2)
        · rw [h2, List.length_cons, List.length_cons]
          have : min (ws.length + 1) (ts.length + 1) = min ws.length ts.length + 1 := by omega
          rw [this, List.range_succ_eq_map, List.all_cons, List.all_map, Bool.and_assoc]
          congr 2
          rw [Bool.eq_iff_iff]
          simp
theorem op_eqT (hu : X.A.units + 64 < cLine) : OpR X (compareOp .Eq) (rEqT X.K) := by
  intro pins s σ H x y v u Q I rx ry h
  obtain ⟨a, b, vs, us, r, rfl, rfl, ha, hb, hp, q⟩ := h
  obtain rfl : v = Value.ref a := rx
  obtain rfl : u = Value.ref b := ry
  obtain ⟨ws, r1, p1, _⟩ := I.tuple ha
  obtain ⟨ts, r2, p2, _⟩ := I.tuple hb
  obtain ⟨e, h1, h2⟩ := hp.at_ (A := X.A.in1) I (by show X.A.units + 1 + 61 < cLine; omega) r1 r2
  refine SeqAt.RcAt.tuples p1 p2 (by omega) (fun j j1 j2 => h1 j (by simpa using j1) (by simpa using j2)) X.prog X.w _ _ ⟨.bl _, H, I, rfl, ?_⟩
  rw [h2] at q
  simpa using q
theorem op_neT (hu : X.A.units + 64 < cLine) : OpR X (compareOp .NotEq) (rNeT X.K) := by
  intro pins s σ H x y v u Q I rx ry h
  obtain ⟨a, b, vs, us, r, rfl, rfl, ha, hb, hp, q⟩ := h
  obtain rfl : v = Value.ref a := rx
  obtain rfl : u = Value.ref b := ry
  obtain ⟨ws, r1, p1, _⟩ := I.tuple ha
  obtain ⟨ts, r2, p2, _⟩ := I.tuple hb
  obtain ⟨e, h1, h2⟩ := hp.at_ (A := X.A.in1) I (by show X.A.units + 1 + 61 < cLine; omega) r1 r2
  refine SeqAt.RcNeAt.tuples p1 p2 (by omega) (fun j j1 j2 => h1 j (by simpa using j1) (by simpa using j2)) X.prog X.w _ _ ⟨.bl _, H, I, rfl, ?_⟩
  rw [h2] at q
  simpa using q
theorem eqE_ok {G : Gx} {L : List Nat} {m : List Addr} {h : Hh} {H : Hp} {x y : D} {v u : V} {b : Bool} (S : RH K G L m h H) (rx : RD K H m x v) (ry : RD K H m y u) (e : eqE h x y = some b) : EqE2 K H v u b := by
  have data : (match toPy 60 h x, toPy 60 h y with
    | some p, some q => some (PyData.eqv p q)
    | _, _ => none) = some b → EqE2 K H v u b := fun e => by
    split at e
    · rename_i p q e1 e2
      cases e
      obtain ⟨g1, g2⟩ := toPy_plain 60 e1
      exact .inr ⟨p, q, toPy_dp S _ rx e1, toPy_dp S _ ry e2, g1, (toPy_plain 60 e2).1, g2, rfl⟩
    · cases e
  unfold eqE at e
  split at e
  · split at e
    · rename_i hab
      subst hab
      cases e
      cases rx with
      | ref h1 =>
        cases ry with
        | ref h2 =>
          rw [h1] at h2
          cases h2
          exact .inl ⟨_, rfl, rfl, rfl⟩
    · exact data e
  · exact data e
theorem eqTs_ok {G : Gx} {L : List Nat} {m : List Addr} {h : Hh} {H : Hp} (S : RH K G L m h H) : ∀ {xs ys : List D} {vs us : List V} {r : Bool}, RDs K H m xs vs → RDs K H m ys us → eqTs h xs ys = some r → EqTs K H vs us r
  | [], [], _, _, _, .nil, .nil, e => by cases e; exact .nn
  | [], _ :: _, _, _, _, .nil, .cons _ _, e => by cases e; exact .nc
  | _ :: _, [], _, _, _, .cons _ _, .nil, e => by cases e; exact .cn
  | x :: xs, y :: ys, _, _, r, .cons a b, .cons c d, e => by
    simp only [eqTs] at e
    split at e
    · rename_i b' r' h1 h2
      cases e
      exact .cc (eqE_ok S a c h1) (eqTs_ok S b d h2)
    · cases e
theorem eqD_ok {G : Gx} {L : List Nat} {m : List Addr} {h : Hh} {H : Hp} {x y : D} {v u : V} {b : Bool} {Q : Bool → Prop} (S : RH K G L m h H) (rx : RD K H m x v) (ry : RD K H m y u) (e : eqD x y h = some b) (q : Q b) :
    ((scal v u = true ∧ Q (decide (v = u))) ∨ ∃ d e, Dp K H v d ∧ Dp K H u e ∧ SeqAt.shaped d = true ∧ SeqAt.shaped e = true ∧ Q (PyData.eqv d e)) ∨ ∃ a b vs us r, v = .ref a ∧ u = .ref b ∧ SqT K H a vs ∧ SqT K H b us ∧ EqTs K H vs us r ∧ Q r := by
  have tt : eqT h x y = some b → ∃ a b vs us r, v = .ref a ∧ u = .ref b ∧ SqT K H a vs ∧ SqT K H b us ∧ EqTs K H vs us r ∧ Q r := fun e => by
    unfold eqT at e
    split at e
    · cases rx with
      | tup h1 t1 =>
        cases ry with
        | tup h2 t2 => exact ⟨_, _, _, _, _, rfl, rfl, h1.t, h2.t, eqTs_ok S t1 t2 e, q⟩
    · cases e
  unfold eqD at e
  split at e
  · rename_i b' es
    cases e
    obtain ⟨h1, h2⟩ := scEq_ok rx ry es
    exact .inl (.inl ⟨h1, by rw [h2]; exact q⟩)
  · split at e
    · rename_i p1 p2 e1 e2
      split at e
      · rename_i hs
        obtain ⟨s1, s2⟩ := Bool.and_eq_true_iff.mp hs
        cases e
        exact .inl (.inr ⟨p1, p2, toPy_dp S _ rx e1, toPy_dp S _ ry e2, s1, s2, q⟩)
      · exact .inr (tt e)
    · exact .inr (tt e)
theorem ok_eq : OkB K bEq (fun x y H Q => (rEq x y H Q ∨ rEqD K x y H Q) ∨ rEqT K x y H Q) := by
  intro G L m h H x y v u Q E S lk rx ry A
  unfold bEq at A
  split at A
  · rename_i b e
    exact eqD_ok (Q := fun b => Q (.bl b) H) S rx ry e (AftB.ok S A (.bl b))
  · exact False.elim A
theorem ok_ne : OkB K bNe (fun x y H Q => (rNe x y H Q ∨ rNeD K x y H Q) ∨ rNeT K x y H Q) := by
  intro G L m h H x y v u Q E S lk rx ry A
  unfold bNe at A
  split at A
  · rename_i b e
    exact eqD_ok (Q := fun b => Q (.bl (!b)) H) S rx ry e (AftB.ok S A (.bl _))
  · exact False.elim A
theorem keyD_ok {H : Hp} {m : List Addr} {y : D} {u : V} {k : Key} (r : RD K H m y u) (e : keyD y = some k) : u = kV k := by
  cases r <;> simp [keyD] at e <;> subst e <;> rfl
theorem keysD_ok {H : Hp} {m : List Addr} : ∀ {ys : List D} {us : List V} {ks : List Key}, RDs K H m ys us → keysD ys = some ks → us = ks.map kV ∧ us ≠ []
  | [], _, _, .nil, e => by simp [keysD] at e
  | [d], _, ks, .cons r .nil, e => by
    simp only [keysD, Option.map_eq_some_iff] at e
    obtain ⟨k, h1, rfl⟩ := e
    exact ⟨by rw [keyD_ok r h1]; rfl, by simp⟩
  | d :: e' :: ds, _, ks, .cons r t, e => by
    simp only [keysD] at e
    split at e
    · rename_i k ks' h1 h2
      cases e
      exact ⟨by rw [keyD_ok r h1, (keysD_ok t h2).1]; rfl, by simp⟩
    · cases e
theorem valD_ok {κ : Type} [DecidableEq κ] {H : Hp} {m : List Addr} {k : κ} : ∀ {kvs : List (κ × D)} {kvs' : List (κ × V)}, RK K H m kvs kvs' → (valD kvs k = none ∧ valV kvs' k = none) ∨ ∃ d v, valD kvs k = some d ∧ valV kvs' k = some v ∧ RD K H m d v
  | _, _, .nil => .inl ⟨rfl, rfl⟩
  | (k1, d) :: r, (k2, v) :: r', .cons q t => by
    obtain ⟨rfl, q⟩ : k1 = k2 ∧ RD K H m d v := q
    by_cases e : k1 = k
    · refine .inr ⟨d, v, ?_, ?_, q⟩ <;> simp [valD, valV, e]
    · have h1 : valD ((k1, d) :: r) k = valD r k := by simp [valD, e]
      have h2 : valV ((k1, v) :: r') k = valV r' k := by simp [valV, e]
      rw [h1, h2]
      exact valD_ok t
theorem dGet_ok {G : Gx} {L : List Nat} {m : List Addr} {h : Hh} {H : Hp} {x y : D} {v u : V} {o : Option D} (S : RH K G L m h H) (rx : RD K H m x v) (ry : RD K H m y u) (e : dGet x y h = some o) :
    ∃ a o', v = .ref a ∧ DGet H a u o' ∧ ((o = none ∧ o' = none) ∨ ∃ d w, o = some d ∧ o' = some w ∧ RD K H m d w) := by
  cases rx with
  | ref hn =>
    rename_i n a
    simp only [dGet] at e
    split at e
    · rename_i kvs ek
      obtain ⟨u', q, hr⟩ := S.rd ek hn
      cases u' <;> first | exact False.elim q | skip
      rename_i kvs'
      split at e
      · rename_i k hk
        cases e
        refine ⟨a, _, rfl, .inl ⟨kvs', k, hr, keyD_ok ry hk, rfl⟩, ?_⟩
        rcases valD_ok (k := k) q with z | z
        · exact .inl z
        · exact .inr z
      · cases e
    · rename_i kvs ek
      obtain ⟨u', q, hr⟩ := S.rd ek hn
      cases u' <;> first | exact False.elim q | skip
      rename_i kvs'
      split at e
      · rename_i ds
        split at e
        · rename_i ks hk
          cases e
          cases ry with
          | tup hh t =>
            rename_i b us
            obtain ⟨e1, e2⟩ := keysD_ok t hk
            have hb : H b = some (.tup us) := hh.elim id fun z => absurd z.1 e2
            refine ⟨a, _, rfl, .inr ⟨kvs', ks, b, hr, rfl, by rw [hb, e1], rfl⟩, ?_⟩
            rcases valD_ok (k := ks) q with z | z
            · exact .inl z
            · exact .inr z
        · cases e
      · cases e
    · cases e
  | _ => cases e
theorem eqF_ok {H : Hp} {m : List Addr} {x y : D} {v u : V} (rx : RD K H m x v) (ry : RD K H m y u) (fx : flatD x = true) (fy : flatD y = true) : eqV v u = eqF x y := by
  cases rx <;> cases ry <;> first | (simp [flatD] at fx; done) | (simp [flatD] at fy; done) | rfl
theorem flat_ok {H : Hp} {m : List Addr} {x : D} {v : V} (rx : RD K H m x v) (fx : flatD x = true) : flatV v = true := by
  cases rx <;> first | rfl | (simp [flatD] at fx)
theorem flats_ok {H : Hp} {m : List Addr} : ∀ {xs : List D} {vs : List V}, RDs K H m xs vs → xs.all flatD = true → vs.all flatV = true
  | _, _, .nil, _ => rfl
  | _, _, .cons r t, f => by
    rw [List.all_cons, Bool.and_eq_true] at f ⊢
    exact ⟨flat_ok r f.1, flats_ok t f.2⟩
theorem any_ok {H : Hp} {m : List Addr} {x : D} {v : V} (rx : RD K H m x v) (fx : flatD x = true) : ∀ {xs : List D} {vs : List V}, RDs K H m xs vs → xs.all flatD = true → inV v vs = xs.any fun z => eqF z x
  | _, _, .nil, _ => rfl
  | _, _, .cons r t, f => by
    rw [List.all_cons, Bool.and_eq_true] at f
    have ih := any_ok rx fx t f.2
    unfold inV at ih ⊢
    rw [List.any_cons, List.any_cons, ih, eqF_ok r rx f.1 fx]
def rSign (neg : Bool) : R2 := fun x y H Q => ∃ (c : Nat) (z : Str), x = .str ⟨#[c]⟩ ∧ y = .str z ∧ Q (.bl (if neg then !decide (c ∈ z.cps.toList) else decide (c ∈ z.cps.toList))) H
theorem op_inS {X : Cx} : OpR X (compareOp .In) (rSign false) := op_in_sign
theorem op_notInS {X : Cx} : OpR X (compareOp .NotIn) (rSign true) := op_notIn_sign
/-- what in asks, but for a dict -/
theorem inD_ok {G : Gx} {L : List Nat} {m : List Addr} {h : Hh} {H : Hp} {x y : D} {v u : V} {b neg : Bool} {Q : VK} (S : RH K G L m h H) (rx : RD K H m x v) (ry : RD K H m y u) (e : inD x y h = some b) (nd : dGet y x h = none) (q : Q (.bl (if neg then !b else b)) H) :
    rIn K neg v u H Q ∨ rSign neg v u H Q := by
  unfold inD at e
  rw [nd] at e
  simp only at e
  split at e
  · rename_i i j
    cases rx
    cases ry
    unfold occ at e
    split at e
    · rename_i c hc
      cases e
      have hi : i = ⟨#[c]⟩ := by
        obtain ⟨cps⟩ := i
        simp only at hc
        congr 1
        exact Array.toList_inj.mp hc
      subst hi
      exact .inr ⟨c, j, rfl, rfl, q⟩
    · cases e
  · split at e
    · rename_i ys hy
      split at e
      · rename_i hf
        obtain ⟨f1, f2⟩ := Bool.and_eq_true_iff.mp hf
        cases e
        obtain ⟨a, us, rfl, hs, t⟩ := S.seq ry hy
        refine .inl ⟨a, us, rfl, hs, flat_ok rx f1, flats_ok t f2, ?_⟩
        rw [any_ok rx f1 t f2]
        exact q
      · cases e
    · cases e
end
section
variable {X : Cx} {Z : Zx X.K} {a b c : Expr} {ra rb rc : EX} {pos : Pos}
theorem mc_in (hu : X.A.units + 1 < cLine) (ha : ME X Z a ra) (hb : ME X Z b rb) (hm : behindInMarks .In b = false := by rfl) : MC X Z (.Compare a [.In] [b] pos) (eBin bIn ra rb) := by
  refine mc_of (PE.or (pe_cmpR (op_in_seq.or op_inS) ha hb hm) (pe_cmp (pc_din hu ha hb) hm)) (PT.or (pt_cmpR (op_in_seq.or op_inS) ha hb hm) (pt_cmp (pc_din hu ha hb) hm)) fun σ H Q ⟨m, L, h, ρ, S, A⟩ => ?_
  by_cases hs : ∃ x h1 y h2 o, ra ρ L h = .ok x h1 ∧ rb ρ L h1 = .ok y h2 ∧ dGet y x h2 = some o
  · refine .inr ?_
    obtain ⟨x, h1, y, h2, o, e1, e2, e3⟩ := hs
    refine Rg.bindE (RC := rD X.K) S A fun m1 h1' H1 x' v f1 S1 l1 p1 q1 A1 => ?_
    refine Rg.bindE (RC := rD X.K) S1 A1 fun m2 h2' H2 y' u f2 S2 l2 p2 q2 A2 => ?_
    rw [e1] at f1
    cases f1
    rw [e2] at f2
    cases f2
    obtain ⟨aa, o', rfl, g, ho⟩ := dGet_ok S2.rh q2 (q1.mono p2 l2) e3
    have e : inD x y h2 = some o.isSome := by unfold inD; rw [e3]
    have eo : o'.isSome = o.isSome := by
      rcases ho with ⟨rfl, rfl⟩ | ⟨d, w, rfl, rfl, _⟩ <;> rfl
    simp only [bIn, e] at A2
    exact ⟨aa, o', rfl, g, by rw [eo]; exact AftB.ok S2.rh A2 (.bl _)⟩
  · refine .inl ?_
    refine Rg.bindE (RC := rD X.K) S A fun m1 h1 H1 x v f1 S1 l1 p1 q1 A1 => ?_
    refine Rg.bindE (RC := rD X.K) S1 A1 fun m2 h2 H2 y u f2 S2 l2 p2 q2 A2 => ?_
    have nd : dGet y x h2 = none := by
      cases e : dGet y x h2 with
      | none => rfl
      | some o => exact absurd ⟨x, h1, y, h2, o, f1, f2, e⟩ hs
    unfold bIn at A2
    split at A2
    · rename_i bb e
      exact inD_ok (neg := false) S2.rh (q1.mono p2 l2) q2 e nd (AftB.ok S2.rh A2 (.bl _))
    · exact False.elim A2
theorem mc_notIn (hu : X.A.units + 1 < cLine) (ha : ME X Z a ra) (hb : ME X Z b rb) (hm : behindInMarks .NotIn b = false := by rfl) : MC X Z (.Compare a [.NotIn] [b] pos) (eBin bNotIn ra rb) := by
  refine mc_of (PE.or (pe_cmpR (op_notIn_seq.or op_notInS) ha hb hm) (pe_cmp (pc_dnotin hu ha hb) hm)) (PT.or (pt_cmpR (op_notIn_seq.or op_notInS) ha hb hm) (pt_cmp (pc_dnotin hu ha hb) hm)) fun σ H Q ⟨m, L, h, ρ, S, A⟩ => ?_
  by_cases hs : ∃ x h1 y h2 o, ra ρ L h = .ok x h1 ∧ rb ρ L h1 = .ok y h2 ∧ dGet y x h2 = some o
  · refine .inr ?_
    obtain ⟨x, h1, y, h2, o, e1, e2, e3⟩ := hs
    refine Rg.bindE (RC := rD X.K) S A fun m1 h1' H1 x' v f1 S1 l1 p1 q1 A1 => ?_
    refine Rg.bindE (RC := rD X.K) S1 A1 fun m2 h2' H2 y' u f2 S2 l2 p2 q2 A2 => ?_
    rw [e1] at f1
    cases f1
    rw [e2] at f2
    cases f2
    obtain ⟨aa, o', rfl, g, ho⟩ := dGet_ok S2.rh q2 (q1.mono p2 l2) e3
    have e : inD x y h2 = some o.isSome := by unfold inD; rw [e3]
    have eo : o'.isSome = o.isSome := by
      rcases ho with ⟨rfl, rfl⟩ | ⟨d, w, rfl, rfl, _⟩ <;> rfl
    simp only [bNotIn, e] at A2
    exact ⟨aa, o', rfl, g, by rw [eo]; exact AftB.ok S2.rh A2 (.bl _)⟩
  · refine .inl ?_
    refine Rg.bindE (RC := rD X.K) S A fun m1 h1 H1 x v f1 S1 l1 p1 q1 A1 => ?_
    refine Rg.bindE (RC := rD X.K) S1 A1 fun m2 h2 H2 y u f2 S2 l2 p2 q2 A2 => ?_
    have nd : dGet y x h2 = none := by
      cases e : dGet y x h2 with
      | none => rfl
      | some o => exact absurd ⟨x, h1, y, h2, o, f1, f2, e⟩ hs
    unfold bNotIn at A2
    split at A2
    · rename_i bb e
      exact inD_ok (neg := true) S2.rh (q1.mono p2 l2) q2 e nd (AftB.ok S2.rh A2 (.bl _))
    · exact False.elim A2
theorem mc_isN {j : Nat} {pos' : Pos} (ha : ME X Z a ra) : MC X Z (.Compare a [.Is] [.Constant .none j pos'] pos) (eUn uIsN ra) := by
  refine mc_of (pe_cmpR op_isN ha pe_non (nomark _)) (pt_cmpR op_isN ha pe_non (nomark _)) fun σ H Q ⟨m, L, h, ρ, S, A⟩ => ?_
  refine Rg.bind (RC := rD X.K) S A fun m1 h1 H1 x v S1 l1 p1 q1 A1 => ?_
  exact ⟨rfl, by rw [isNon_ok q1]; exact AftB.ok S1.rh A1 (.bl _)⟩
theorem mc_notN {j : Nat} {pos' : Pos} (ha : ME X Z a ra) : MC X Z (.Compare a [.IsNot] [.Constant .none j pos'] pos) (eUn uNotN ra) := by
  refine mc_of (pe_cmpR op_notN ha pe_non (nomark _)) (pt_cmpR op_notN ha pe_non (nomark _)) fun σ H Q ⟨m, L, h, ρ, S, A⟩ => ?_
  refine Rg.bind (RC := rD X.K) S A fun m1 h1 H1 x v S1 l1 p1 q1 A1 => ?_
  exact ⟨rfl, by rw [isNon_ok q1]; exact AftB.ok S1.rh A1 (.bl _)⟩
/-- the operations in short -/
theorem me_add (ha : ME X Z a ra) (hb : ME X Z b rb) : ME X Z (.BinOp a .Add b pos) (eBin bAdd ra rb) := me_bin op_addX ok_add ha hb
theorem me_sub (ha : ME X Z a ra) (hb : ME X Z b rb) : ME X Z (.BinOp a .Sub b pos) (eBin bSub ra rb) := me_bin op_sub ok_sub ha hb
theorem me_mul (ha : ME X Z a ra) (hb : ME X Z b rb) : ME X Z (.BinOp a .Mult b pos) (eBin bMul ra rb) := me_bin op_mul ok_mul ha hb
theorem me_div (ha : ME X Z a ra) (hb : ME X Z b rb) : ME X Z (.BinOp a .FloorDiv b pos) (eBin bDiv ra rb) := me_bin op_fdivW ok_div ha hb
theorem me_mod (ha : ME X Z a ra) (hb : ME X Z b rb) : ME X Z (.BinOp a .Mod b pos) (eBin bMod ra rb) := me_bin op_mod ok_mod ha hb
theorem me_pow (ha : ME X Z a ra) (hb : ME X Z b rb) : ME X Z (.BinOp a .Pow b pos) (eBin bPow ra rb) := me_bin op_pow ok_pow ha hb
theorem me_neg (ha : ME X Z a ra) : ME X Z (.UnaryOp .USub a pos) (eUn uNeg ra) := me_un un_neg ok_neg ha
theorem mc_lt (ha : ME X Z a ra) (hb : ME X Z b rb) : MC X Z (.Compare a [.Lt] [b] pos) (eBin bLt ra rb) := mc_cmp op_lt ok_cInt ha hb (nomark _)
theorem mc_gt (ha : ME X Z a ra) (hb : ME X Z b rb) : MC X Z (.Compare a [.Gt] [b] pos) (eBin bGt ra rb) := mc_cmp op_gt ok_cInt ha hb (nomark _)
theorem mc_ge (ha : ME X Z a ra) (hb : ME X Z b rb) : MC X Z (.Compare a [.GtE] [b] pos) (eBin bGe ra rb) := mc_cmp op_ge ok_cInt ha hb (nomark _)
theorem mc_eq (hu : X.A.units + 64 < cLine) (ha : ME X Z a ra) (hb : ME X Z b rb) : MC X Z (.Compare a [.Eq] [b] pos) (eBin bEq ra rb) := mc_cmp ((op_eq.or (op_eqD hu)).or (op_eqT hu)) ok_eq ha hb (nomark _)
theorem mc_ne (hu : X.A.units + 64 < cLine) (ha : ME X Z a ra) (hb : ME X Z b rb) : MC X Z (.Compare a [.NotEq] [b] pos) (eBin bNe ra rb) := mc_cmp ((op_ne.or (op_neD hu)).or (op_neT hu)) ok_ne ha hb (nomark _)
theorem me_ix (hu : X.A.units + 1 < cLine) (ha : ME X Z a ra) (hb : ME X Z b rb) (hs : PlainIx b := by intro _ _; rfl) : ME X Z (.Subscript a b pos) (eBin bIx ra rb) := by
  refine PE.imp (PE.or (pe_ix ix_seq ha hb hs) (pe_dget hu ha hb hs)) fun σ H Q ⟨m, L, h, ρ, S, A⟩ => ?_
  by_cases hd : ∃ x h1 y h2 o, ra ρ L h = .ok x h1 ∧ rb ρ L h1 = .ok y h2 ∧ dGet x y h2 = some o
  · refine .inr ?_
    obtain ⟨x, h1, y, h2, o, e1, e2, e3⟩ := hd
    refine Rg.bindE (RC := rD X.K) S A fun m1 h1' H1 x' v f1 S1 l1 p1 q1 A1 => ?_
    refine Rg.bindE (RC := rD X.K) S1 A1 fun m2 h2' H2 y' u f2 S2 l2 p2 q2 A2 => ?_
    rw [e1] at f1
    cases f1
    rw [e2] at f2
    cases f2
    obtain ⟨aa, o', rfl, g, ho⟩ := dGet_ok S2.rh (q1.mono p2 l2) q2 e3
    have hA : bIx x y h2 = (match o with | some v => .ok v h2 | none => .bad) := by
      have hns : seqOf x h2 = none := by
        cases x <;> simp [dGet] at e3
        rename_i n
        simp only [seqOf, lstOf]
        cases hh : h2[n]? with
        | none => rfl
        | some ob => cases ob <;> simp [hh] at e3 ⊢
      unfold bIx
      cases x <;> simp [dGet] at e3
      rename_i n
      have e3' : dGet (.ref n) y h2 = some o := by simpa [dGet] using e3
      cases y <;> simp only [hns, e3'] <;> cases o <;> rfl
    rw [hA] at A2
    rcases ho with ⟨rfl, rfl⟩ | ⟨d, w, rfl, rfl, r⟩
    · exact False.elim A2
    · exact ⟨aa, w, rfl, g, AftB.ok S2.rh A2 r⟩
  · refine .inl ?_
    refine Rg.bindE (RC := rD X.K) S A fun m1 h1 H1 x v f1 S1 l1 p1 q1 A1 => ?_
    refine Rg.bindE (RC := rD X.K) S1 A1 fun m2 h2 H2 y u f2 S2 l2 p2 q2 A2 => ?_
    have q1' := q1.mono p2 l2
    have nd : dGet x y h2 = none := by
      cases e : dGet x y h2 with
      | none => rfl
      | some o => exact absurd ⟨x, h1, y, h2, o, f1, f2, e⟩ hd
    unfold bIx at A2
    cases y <;> simp only [nd] at A2 <;> first | exact False.elim A2 | skip
    rename_i i
    cases q2
    cases x with
    | str z =>
      simp only at A2
      cases q1'
      split at A2
      · rename_i hl
        split at A2
        · rename_i c hc
          exact .inr (.inr ⟨z, i, c, rfl, rfl, hl, hc, AftB.ok S2.rh A2 (.str _)⟩)
        · exact False.elim A2
      · exact False.elim A2
    | _ =>
      simp only at A2
      split at A2
      · rename_i xs hx
        obtain ⟨aa, vs, rfl, hsq, t⟩ := S2.rh.seq q1' hx
        split at A2
        · rename_i d hdd
          have hat : ∃ w, atI vs i = some w ∧ RD X.K H2 m2 d w := by
            unfold atI at hdd ⊢
            rw [← t.length]
            cases hi : ixN xs.length i with
            | none => rw [hi] at hdd; cases hdd
            | some j =>
              rw [hi] at hdd
              exact t.get hdd
          obtain ⟨w, hw, rw'⟩ := hat
          rcases hsq with hsq | hsq
          · exact .inl ⟨aa, vs, i, w, rfl, rfl, hsq, hw, AftB.ok S2.rh A2 rw'⟩
          · exact .inr (.inl ⟨aa, vs, i, w, rfl, rfl, hsq, hw, AftB.ok S2.rh A2 rw'⟩)
        · exact False.elim A2
      · exact False.elim A2
end
end Mi
end
section
set_option maxHeartbeats 1000000
namespace Mi
open PySem PySem.Spec PyProof.Rows L2
section
variable {α β γ δ : Type} {K : PySem.W.Frag} {RA : Rl α β} {RC : Rl γ δ} {Z : Zx K} {L : List Nat} {m : List Addr} {h : Hh} {ρ : Rho} {σ : L2.St} {H : Hp}
theorem Aft.then {r : R α} {f : α → Hh → R γ} {Q : δ → Hp → Prop} {F : β → Hp → Prop} {E : XK} (S : Stt K Z L m h ρ σ H) (A : Aft K RC Z.G L m H (r.bind f) Q E)
    (k : ∀ m1 h1 H1 a x, Stt K Z L m1 h1 ρ σ H1 → Le m m1 → Pers K H H1 → RA m1 H1 a x → Aft K RC Z.G L m1 H1 (f a h1) Q E → F x H1) : Aft K RA Z.G L m H r F E := by
  cases r with
  | ok a h1 => exact fun m1 H1 v l p r q => k m1 h1 H1 a v (S.on l p r) l p q (Aft.mono (A : Aft K RC Z.G L m H (f a h1) Q E) l p)
  | exc c q h1 => exact A
  | bad => exact A
theorem truD_ok {G : Gx} {x : D} {v : V} {b : Bool} (S : RH K G L m h H) (r : RD K H m x v) (e : truD x h = some b) : TruV K v H b := by
  cases r with
  | non => cases e; rfl
  | bl b => cases e; rfl
  | int i => cases e; rfl
  | str x =>
    simp only [truD] at e
    split at e
    · rename_i hl
      cases e
      exact ⟨hl, rfl⟩
    · cases e
  | tup hh t =>
    cases e
    refine .inr (.inl ⟨_, hh.t, ?_⟩)
    cases t <;> rfl
  | frl hh t =>
    cases e
    refine .inl ⟨_, hh.l, ?_⟩
    cases t <;> rfl
  | ref hn =>
    simp only [truD] at e
    split at e
    · rename_i xs ex
      cases e
      obtain ⟨u, q, hr⟩ := S.rd ex hn
      cases u <;> first | exact False.elim q | skip
      refine .inl ⟨_, .inl hr, ?_⟩
      have q' : RDs K H m xs _ := q
      cases q' <;> rfl
    · cases e
theorem cut_ok {xs : List D} {vs : List V} (lo hi : Option Int) (t : RDs K H m xs vs) : RDs K H m (cutD xs lo hi) (cutV vs lo hi) := by
  unfold cutD cutV
  rw [← t.length]
  exact (t.drop _).take _
theorem cut_all {xs : List D} (lo hi : Option Int) (e : HT.sIx xs.length 0 lo = 0 ∧ HT.sIx xs.length xs.length hi = xs.length) : cutD xs lo hi = xs := by
  unfold cutD
  rw [e.1, e.2]
  simp
def OkS (K : PySem.W.Frag) (r : V → Option Int → Option Int → Hp → VK → Prop) : Prop := ∀ (G : Gx) (L : List Nat) (m : List Addr) (h : Hh) (H : Hp) (x : D) (v : V) (lo hi : Option Int) (Q : VK) (E : XK), RH K G L m h H → (∀ k ∈ L, k < h.length) → RD K H m x v → Aft K (rD K) G L m H (slD x lo hi h) Q E → r v lo hi H Q
theorem ok_sl : OkS K (fun x lo hi H Q => rSlA K x lo hi H Q ∨ rSlL K x lo hi H Q ∨ rSlS x lo hi H Q) := by
  intro G L m h H x v lo hi Q E S lk r A
  have lst : ∀ {xs : List D}, lstOf x h = some xs → Aft K (rD K) G L m H (new (.lst (cutD xs lo hi)) h) Q E → rSlL K v lo hi H Q := fun {xs} e A => by
    obtain ⟨a, vs, rfl, hs, t⟩ := S.lst r e
    exact ⟨a, vs, rfl, hs, Aft.new S lk A fun p hp => (cut_ok lo hi t).mono (pers_new hp) (Le.app _ _)⟩
  cases r with
  | tup hh t =>
    rename_i a xs vs
    refine .inl ⟨a, vs, rfl, hh.t, fun e => ?_, fun e => ?_⟩
    · have e' : cutD xs lo hi = xs := cut_all lo hi (by rw [t.length]; exact e)
      have A' : Aft K (rD K) G L m H (.ok (.tup (cutD xs lo hi)) h) Q E := A
      rw [e'] at A'
      exact AftB.ok S A' (.tup hh t)
    · exact Aft.newT S A (cut_ok lo hi t)
  | str z =>
    simp only [slD] at A
    split at A
    · rename_i hl
      exact .inr (.inr ⟨z, rfl, hl, AftB.ok S A (.str _)⟩)
    · exact False.elim A
  | frl hh t => exact .inr (.inl (lst rfl A))
  | ref hn =>
    simp only [slD] at A
    split at A
    · rename_i xs ex
      exact .inr (.inl (lst ex A))
    · exact False.elim A
  | _ => exact False.elim A
end
section
variable {X : Cx} {Z : Zx X.K} {a b c e o : Expr} {es rest : List Expr} {ra rb rc : EX} {pos p2 : Pos} {lo hi : Option Expr} {rl rh : OX} {rs : AX} {tx ty : TX}
theorem mo_no : MO X Z none oNo := PO.imp po_none fun σ H Q ⟨m, L, h, ρ, S, A⟩ => Aft.ok (RA := rE (Option Int)) S A rfl
theorem mo_yes (ha : ME X Z a ra) : MO X Z (some a) (oYes ra) := PO.imp (po_some ha) fun σ H Q ⟨m, L, h, ρ, S, A⟩ => by
  refine Rg.bind (RC := rE (Option Int)) S A fun m1 h1 H1 x v S1 l1 p1 q1 A1 => ?_
  cases q1 <;> first | exact False.elim A1 | exact ⟨_, rfl, Aft.ok (RA := rE (Option Int)) S1 A1 rfl⟩
theorem me_sl (ha : ME X Z a ra) (hl : MO X Z lo rl) (hh : MO X Z hi rh) : ME X Z (.Subscript a (.Slice lo hi none p2) pos) (eSl ra rl rh) := by
  refine PE.imp (pe_slice (sl_tupA.or (sl_list.or sl_str)) ha hl hh) fun σ H Q ⟨m, L, h, ρ, S, A⟩ => ?_
  refine Rg.bind (RC := rD X.K) S A fun m1 h1 H1 x v S1 l1 p1 q1 A1 => ?_
  refine Rg.bind (RC := rD X.K) S1 A1 fun m2 h2 H2 i i' S2 l2 p2 q2 A2 => ?_
  refine Rg.bind (RC := rD X.K) S2 A2 fun m3 h3 H3 j j' S3 l3 p3 q3 A3 => ?_
  obtain rfl : i = i' := q2
  obtain rfl : j = j' := q3
  exact ok_sl _ L m3 h3 H3 x v i j Q _ S3.rh S3.lk ((q1.mono p2 l2).mono p3 l3) A3
theorem me_tup {k1 : Nat} (h : MA X Z es rs) : ME X Z (.Tuple es k1 pos) (eTup rs) := by
  refine PE.imp (pe_tup h) fun σ H Q ⟨m, L, h, ρ, S, A⟩ => ?_
  refine Rg.bind (RC := rD X.K) S A fun m1 h1 H1 x v S1 l1 p1 q1 A1 => ?_
  split at A1
  · rename_i hl
    exact ⟨by rw [← q1.length]; exact hl, Aft.newT S1.rh A1 q1⟩
  · exact False.elim A1
theorem me_lst (h : MA X Z es rs) : ME X Z (.List es pos) (eLst rs) := by
  refine PE.imp (pe_lst h) fun σ H Q ⟨m, L, h, ρ, S, A⟩ => ?_
  refine Rg.bind (RC := rD X.K) S A fun m1 h1 H1 x v S1 l1 p1 q1 A1 => ?_
  split at A1
  · rename_i hl
    exact ⟨by rw [← q1.length]; exact hl, Aft.new S1.rh S1.lk A1 fun p hp => RDs.mono (pers_new hp) (Le.app _ _) q1⟩
  · exact False.elim A1
theorem mt_tru (ha : ME X Z a ra) (he : ∀ whole, isTrue a X.env whole = (do let v ← whole; standAt a.pos; holding [v] (truthy v)) := by intro _; rfl) : MT X Z a (tTru ra) := by
  refine PT.imp (pt_truth ha he) fun σ H Q ⟨m, L, h, ρ, S, A⟩ => ?_
  refine Rg.bind (RC := rE Bool) S A fun m1 h1 H1 x v S1 l1 p1 q1 A1 => ?_
  split at A1
  · rename_i b e
    exact ⟨b, truD_ok S1.rh q1 e, Aft.ok (RA := rE Bool) S1 A1 rfl⟩
  · exact False.elim A1
theorem mt_not (ha : MT X Z a tx) : MT X Z (.UnaryOp .Not a pos) (xNot tx) := by
  refine PT.imp (pt_not ha) fun σ H Q ⟨m, L, h, ρ, S, A⟩ => ?_
  refine Rg.bind (RC := rE Bool) S A fun m1 h1 H1 x v S1 l1 p1 q1 A1 => ?_
  obtain rfl : x = v := q1
  exact Aft.ok (RA := rE Bool) S1 A1 rfl
theorem mw_and1 (ha : MT X Z a tx) : MW X Z (.BoolOp .And [a] pos) tx := pw_and1 ha
theorem mw_or1 (ha : MT X Z a tx) : MW X Z (.BoolOp .Or [a] pos) tx := pw_or1 ha
theorem mw_and (ha : MT X Z a tx) (hb : MW X Z (.BoolOp .And (b :: rest) pos) ty) : MW X Z (.BoolOp .And (a :: b :: rest) pos) (xAnd tx ty) := by
  refine PW.imp (pw_and ha hb) fun σ H Q ⟨m, L, h, ρ, S, A⟩ => ?_
  refine Rg.bind (RC := rE Bool) S A fun m1 h1 H1 x v S1 l1 p1 q1 A1 => ?_
  obtain rfl : x = v := q1
  cases x with
  | true => exact ⟨m1, L, h1, ρ, S1, A1⟩
  | false => exact Aft.ok (RA := rE Bool) S1 A1 rfl
theorem mw_or (ha : MT X Z a tx) (hb : MW X Z (.BoolOp .Or (b :: rest) pos) ty) : MW X Z (.BoolOp .Or (a :: b :: rest) pos) (xOr tx ty) := by
  refine PW.imp (pw_or ha hb) fun σ H Q ⟨m, L, h, ρ, S, A⟩ => ?_
  refine Rg.bind (RC := rE Bool) S A fun m1 h1 H1 x v S1 l1 p1 q1 A1 => ?_
  obtain rfl : x = v := q1
  cases x with
  | true => exact Aft.ok (RA := rE Bool) S1 A1 rfl
  | false => exact ⟨m1, L, h1, ρ, S1, A1⟩
theorem mt_w (h : MW X Z a tx) : MT X Z a tx := h.pt
theorem me_one {op : BoolOp} (h : ME X Z a ra) : ME X Z (.BoolOp op [a] pos) ra := pe_one h
theorem me_and (ha : ME X Z a ra) (hb : ME X Z (.BoolOp .And (b :: rest) pos) rb) : ME X Z (.BoolOp .And (a :: b :: rest) pos) (eAnd ra rb) := by
  refine PE.imp (pe_andT ha hb) fun σ H Q ⟨m, L, h, ρ, S, A⟩ => ?_
  refine Rg.bind (RC := rD X.K) S A fun m1 h1 H1 x v S1 l1 p1 q1 A1 => ?_
  split at A1
  · rename_i e
    exact ⟨true, truD_ok S1.rh q1 e, iteT ⟨m1, L, h1, ρ, S1, A1⟩⟩
  · rename_i e
    exact ⟨false, truD_ok S1.rh q1 e, iteF (Aft.ok (RA := rD X.K) S1 A1 q1)⟩
  · exact False.elim A1
theorem me_not (ha : ME X Z a ra) : ME X Z (.UnaryOp .Not a pos) (eNot ra) := by
  refine PE.imp (pe_notT ha) fun σ H Q ⟨m, L, h, ρ, S, A⟩ => ?_
  refine Rg.bind (RC := rD X.K) S A fun m1 h1 H1 x v S1 l1 p1 q1 A1 => ?_
  split at A1
  · rename_i b e
    exact ⟨b, truD_ok S1.rh q1 e, Aft.ok (RA := rD X.K) S1 A1 (.bl _)⟩
  · exact False.elim A1
theorem mc_ch {op op' : CmpOp} {f g : B2} {r r' : R2} (ho : OpR X (compareOp op) r) (hf : OkB X.K f r) (ho' : OpR X (compareOp op') r') (hf' : OkB X.K g r') (ha : ME X Z a ra) (hb : ME X Z b rb) (hc : ME X Z c rc)
    (hm : lastMarks [op, op'] [b, c] = false := by with_unfolding_all rfl) : MC X Z (.Compare a [op, op'] [b, c] pos) (eCh f g ra rb rc) := by
  refine mc_of (pe_chain ho ho' ha hb hc hm) (pt_chain ho ho' ha hb hc hm) fun σ H Q ⟨m, L, h, ρ, S, A⟩ => ?_
  refine Rg.bind (RC := rD X.K) S A fun m1 h1 H1 x v S1 l1 p1 q1 A1 => ?_
  refine Rg.bind (RC := rD X.K) S1 A1 fun m2 h2 H2 y u S2 l2 p2 q2 A2 => ?_
  refine hf Z.G L m2 h2 H2 x y v u _ _ S2.rh S2.lk (q1.mono p2 l2) q2 (Aft.then (RC := rD X.K) S2 A2 fun m3 h3 H3 z w S3 l3 p3 q3 A3 => ?_)
  split at A3
  · cases q3
    refine ⟨true, rfl, iteT ?_⟩
    refine Rg.bind (RC := rD X.K) S3 A3 fun m4 h4 H4 d d' S4 l4 p4 q4 A4 => ?_
    exact hf' _ L m4 h4 H4 y d u d' Q _ S4.rh S4.lk ((q2.mono p3 l3).mono p4 l4) q4 A4
  · cases q3
    exact ⟨false, rfl, iteF (Aft.ok (RA := rD X.K) S3 A3 (.bl _))⟩
  · exact False.elim A3
theorem me_cb {id : String} {x : Str} {p : Pos} {f : List D → Hh → R D} {r : List V → Hp → VK → Prop} (hc : CallR X (.builtin id) r) (hf : OkL X.K f r) (hg : Gl X x) (hm : X.mg x = none) (hv : bootBuiltins x = some (.builtin id)) (ha : MA X Z (e :: es) rs)
    (hn : x ≠ "__name__" := by decide) (hdb : (x == ("__debug__" : Str)) = false := by decide) (he : starEach (e :: es) X.env = (false, eval e X.env) :: starEach es X.env := by rfl) (hpl : (backTo pos (starEach es X.env)).any (·.1) = false := by rfl) : ME X Z (.Call (.Name x p) (e :: es) [] pos) (eCB f rs) := by
  refine PE.imp (pe_callB hc hg hm hv ha hn hdb he hpl) fun σ H Q ⟨m, L, h, ρ, S, A⟩ => ?_
  refine Rg.bind (RC := rD X.K) S A fun m1 h1 H1 x v S1 l1 p1 q1 A1 => ?_
  exact hf _ L m1 h1 H1 x v Q _ S1.rh S1.lk q1 A1
theorem me_cty {T : String} {x : Str} {p : Pos} {f : List D → Hh → R D} {r : List V → Hp → VK → Prop} (hc : CallR X (.type T) r) (hf : OkL X.K f r) (hg : Gl X x) (hm : X.mg x = none) (hv : bootBuiltins x = some (.type T)) (ha : MA X Z (e :: es) rs)
    (hn : x ≠ "__name__" := by decide) (hdb : (x == ("__debug__" : Str)) = false := by decide) (he : starEach (e :: es) X.env = (false, eval e X.env) :: starEach es X.env := by rfl) (hpl : (backTo pos (starEach es X.env)).any (·.1) = false := by rfl) : ME X Z (.Call (.Name x p) (e :: es) [] pos) (eCB f rs) := by
  refine PE.imp (pe_callTy hc hg hm hv ha hn hdb he hpl) fun σ H Q ⟨m, L, h, ρ, S, A⟩ => ?_
  refine Rg.bind (RC := rD X.K) S A fun m1 h1 H1 x v S1 l1 p1 q1 A1 => ?_
  exact hf _ L m1 h1 H1 x v Q _ S1.rh S1.lk q1 A1
end
/-- the def does what f says -/
def spF (K : PySem.W.Frag) (G : Gx) (np : Nat) (f : FX) : Sp := fun vs H Q E => vs.length = np ∧ ∃ (m : List Addr) (L : List Nat) (h : Hh) (ds : List D), RH K G L m h H ∧ (∀ k ∈ L, k < h.length) ∧ RDs K H m ds vs ∧ Aft K (rD K) G L m H (f ds L h) Q E
section
variable {X : Cx} {Z : Zx X.K} {e : Expr} {es : List Expr} {rs : AX} {pos p : Pos} {k np : Nat} {f : Addr} {fd : FuncData} {ps : List Str} {fx : FX} {x : Str}
/-- f(e, ..) -/
theorem me_call (F : FnOk X.prog X.w X.K X.mg X.base (L2.CX X.prog X.w) k f fd ps (spF X.K Z.G np fx)) (hr : Room k X.A) (hg : Gl X x) (hm : X.mg x = some (.ref f)) (hk : PySem.W.keepIn X.K (.ref f) = true) (hb : Binds X.K fd ps []) (tk : Takes X Z.W)
    (ha : MA X Z (e :: es) rs) (hdb : (x == ("__debug__" : Str)) = false := by decide) (he : starEach (e :: es) X.env = (false, eval e X.env) :: starEach es X.env := by rfl) (hpl : (backTo pos (starEach es X.env)).any (·.1) = false := by rfl) : ME X Z (.Call (.Name x p) (e :: es) [] pos) (eCall np fx rs) := by
  refine PE.imp (pe_callS F hr hg hm hk hb (fun σ => passAt tk σ) ha hdb he hpl) fun σ H Q ⟨m, L, h, ρ, S, A⟩ => ?_
  refine Rg.bind (RC := rD X.K) S A fun m1 h1 H1 ds vs S1 l1 p1 q1 A1 => ?_
  split at A1
  · rename_i hl
    exact ⟨by rw [← q1.length]; exact hl, m1, L, h1, ds, S1.rh, S1.lk, q1, A1⟩
  · exact False.elim A1
end
end Mi
end
section
set_option maxHeartbeats 1000000
namespace Mi
open PySem PySem.Spec PyProof.Rows L2
/-- behind a statement -/
def AftS (K : PySem.W.Frag) (G : Gx) (L : List Nat) (m : List Addr) (H : Hp) (r : SR) (D : Ends) (W : WX) : Prop := match r with
  | .nx ρ h => ∀ m' H' σ', Le m m' → Pers K H H' → RH K G L m' h H' → RS K H' m' ρ σ' → D.nx σ' H'
  | .ret d h => ∀ m' H' v, Le m m' → Pers K H H' → RH K G L m' h H' → RD K H' m' d v → D.rt v H'
  | .brk ρ h => ∀ m' H' σ', Le m m' → Pers K H H' → RH K G L m' h H' → RS K H' m' ρ σ' → D.bk σ' H'
  | .cnt ρ h => ∀ m' H' σ', Le m m' → Pers K H H' → RH K G L m' h H' → RS K H' m' ρ σ' → D.ct σ' H'
  | .exc c p ρ h => ∀ m' H' σ' cls d, Le m m' → Pers K H H' → RH K G L m' h H' → RS K H' m' ρ σ' → RX K G c p m' H' cls d → W cls d σ' H'
  | .bad => False
theorem AftS.mono {K : PySem.W.Frag} {G : Gx} {L : List Nat} {m m1 : List Addr} {H H1 : Hp} {r : SR} {D : Ends} {W : WX} (A : AftS K G L m H r D W) (l : Le m m1) (p : Pers K H H1) : AftS K G L m1 H1 r D W := by
  cases r with
  | nx ρ h => exact fun m' H' σ' l' p' r' q => A m' H' σ' (l.trans l') (p.trans p') r' q
  | ret d h => exact fun m' H' σ' l' p' r' q => A m' H' σ' (l.trans l') (p.trans p') r' q
  | brk ρ h => exact fun m' H' σ' l' p' r' q => A m' H' σ' (l.trans l') (p.trans p') r' q
  | cnt ρ h => exact fun m' H' σ' l' p' r' q => A m' H' σ' (l.trans l') (p.trans p') r' q
  | exc c q ρ h => exact fun m' H' σ' cls d l' p' r' q x => A m' H' σ' cls d (l.trans l') (p.trans p') r' q x
  | bad => exact A
/-- the reading of a statement -/
def Rs (K : PySem.W.Frag) (Z : Zx K) (s : SX) : TS := fun D σ H => ∃ m L h ρ, Stt K Z L m h ρ σ H ∧ AftS K Z.G L m H (s ρ L h) D Z.W
/-- the reading of a target -/
abbrev rR (K : PySem.W.Frag) : Rl Rho L2.St := fun m H ρ σ => RS K H m ρ σ
def Rt (K : PySem.W.Frag) (Z : Zx K) (g : GX) : TG := fun v σ H Q => ∃ m L h ρ d, Stt K Z L m h ρ σ H ∧ RD K H m d v ∧ Aft K (rR K) Z.G L m H (g d ρ L h) Q (wS Z.W σ)
def Rts (K : PySem.W.Frag) (Z : Zx K) (g : GsX) : TGs := fun v σ H Q => ∃ m L h ρ d, Stt K Z L m h ρ σ H ∧ RDs K H m d v ∧ Aft K (rR K) Z.G L m H (g d ρ L h) Q (wS Z.W σ)
abbrev MS (X : Cx) (Z : Zx X.K) (st : Stmt) (s : SX) : Prop := PS X st (Rs X.K Z s)
abbrev MB (X : Cx) (Z : Zx X.K) (st : List Stmt) (s : SX) : Prop := PSs X st (Rs X.K Z s)
abbrev MG (X : Cx) (Z : Zx X.K) (t : Expr) (g : GX) : Prop := PG X t (Rt X.K Z g)
abbrev MGs (X : Cx) (Z : Zx X.K) (t : List Expr) (g : GsX) : Prop := PGs X t (Rts X.K Z g)
section
variable {α β : Type} {K : PySem.W.Frag} {RA : Rl α β} {Z : Zx K} {L : List Nat} {m : List Addr} {h : Hh} {ρ : Rho} {σ : L2.St} {H : Hp} {D : Ends}
theorem Stt.set [NoJ Z] {ρ' : Rho} {σ' : L2.St} (S : Stt K Z L m h ρ σ H) (r : RS K H m ρ' σ') : Stt K Z L m h ρ' σ' H := ⟨S.rh, r, S.iv, S.lk, fun p e => by rw [NoJ.h] at e; cases e⟩
theorem AftS.nx (S : Stt K Z L m h ρ σ H) {W : WX} (A : AftS K Z.G L m H (.nx ρ h) D W) : D.nx σ H := A m H σ (Le.refl m) (Pers.refl H) S.rh S.rs
/-- an expression, then the rest of the statement -/
theorem Rg.toS {ra : Rho → List Nat → Hh → R α} {f : α → Hh → SR} {F : β → Hp → Prop} (S : Stt K Z L m h ρ σ H) (A : AftS K Z.G L m H ((ra ρ L h).toS ρ f) D Z.W)
    (k : ∀ m1 h1 H1 a x, Stt K Z L m1 h1 ρ σ H1 → Le m m1 → Pers K H H1 → RA m1 H1 a x → AftS K Z.G L m1 H1 (f a h1) D Z.W → F x H1) : Rg K RA Z ra σ H F := by
  refine ⟨m, L, h, ρ, S, ?_⟩
  cases e : ra ρ L h with
  | ok a h1 =>
    rw [e] at A
    exact fun m1 H1 v l p r q => k m1 h1 H1 a v (S.on l p r) l p q (AftS.mono (A : AftS K Z.G L m H (f a h1) D Z.W) l p)
  | exc c q h1 =>
    rw [e] at A
    exact fun m1 H1 cls d l p r x => (A : AftS K Z.G L m H (.exc c q ρ h1) D Z.W) m1 H1 σ cls d l p r (S.rs.mono p l) x
  | bad =>
    rw [e] at A
    exact False.elim A
theorem Rg.toSE {ra : Rho → List Nat → Hh → R α} {f : α → Hh → SR} {F : β → Hp → Prop} (S : Stt K Z L m h ρ σ H) (A : AftS K Z.G L m H ((ra ρ L h).toS ρ f) D Z.W)
    (k : ∀ m1 h1 H1 a x, ra ρ L h = .ok a h1 → Stt K Z L m1 h1 ρ σ H1 → Le m m1 → Pers K H H1 → RA m1 H1 a x → AftS K Z.G L m1 H1 (f a h1) D Z.W → F x H1) : Rg K RA Z ra σ H F := by
  refine ⟨m, L, h, ρ, S, ?_⟩
  cases e : ra ρ L h with
  | ok a h1 =>
    rw [e] at A
    exact fun m1 H1 v l p r q => k m1 h1 H1 a v e (S.on l p r) l p q (AftS.mono (A : AftS K Z.G L m H (f a h1) D Z.W) l p)
  | exc c q h1 =>
    rw [e] at A
    exact fun m1 H1 cls d l p r x => (A : AftS K Z.G L m H (.exc c q ρ h1) D Z.W) m1 H1 σ cls d l p r (S.rs.mono p l) x
  | bad =>
    rw [e] at A
    exact False.elim A
/-- a result by values, then the rest of the statement -/
theorem Aft.toS {r : R α} {f : α → Hh → SR} {F : β → Hp → Prop} (S : Stt K Z L m h ρ σ H) (A : AftS K Z.G L m H (r.toS ρ f) D Z.W)
    (k : ∀ m1 h1 H1 a x, Stt K Z L m1 h1 ρ σ H1 → Le m m1 → Pers K H H1 → RA m1 H1 a x → AftS K Z.G L m1 H1 (f a h1) D Z.W → F x H1) : Aft K RA Z.G L m H r F (wS Z.W σ) := by
  cases r with
  | ok a h1 => exact fun m1 H1 v l p r q => k m1 h1 H1 a v (S.on l p r) l p q (AftS.mono (A : AftS K Z.G L m H (f a h1) D Z.W) l p)
  | exc c q h1 => exact fun m1 H1 cls d l p r x => (A : AftS K Z.G L m H (.exc c q ρ h1) D Z.W) m1 H1 σ cls d l p r (S.rs.mono p l) x
  | bad => exact A
end
section
variable {X : Cx} {Z : Zx X.K} {a b c e o i tg : Expr} {st : Stmt} {sts body orelse : List Stmt} {ra rb rc : EX} {pos pos' : Pos} {tx : TX} {s t : SX} {g : GX} {gs : GsX}
theorem mb_nil : MB X Z [] sNil := PSs.imp pss_nil fun D σ H ⟨m, L, h, ρ, S, A⟩ => A.nx S
theorem ms_pass : MS X Z (.Pass pos) sNil := PS.imp ps_pass fun D σ H ⟨m, L, h, ρ, S, A⟩ => A.nx S
theorem mb_one (h : MS X Z st s) : MB X Z [st] s := pss_one h
/-- the reading of what follows -/
theorem aft_seq {K : PySem.W.Frag} {Z : Zx K} [NoJ Z] {L : List Nat} {m : List Addr} {h : Hh} {ρ : Rho} {σ : L2.St} {H : Hp} {D : Ends} {r : SR} (S : Stt K Z L m h ρ σ H) (A : AftS K Z.G L m H (r.seq fun ρ' h' => t ρ' L h') D Z.W) :
    AftS K Z.G L m H r { D with nx := Rs K Z t D } Z.W := by
  cases r with
  | nx ρ1 h1 => exact fun m' H' σ' l p r q => ⟨m', L, h1, ρ1, (S.on l p r).set q, AftS.mono (A : AftS K Z.G L m H (t ρ1 L h1) D Z.W) l p⟩
  | _ => exact A
theorem mb_cons [NoJ Z] (h1 : MS X Z st s) (h2 : MB X Z sts t) : MB X Z (st :: sts) (sSeq s t) :=
  PSs.imp (pss_cons h1 h2) fun D σ H ⟨m, L, h, ρ, S, A⟩ => ⟨m, L, h, ρ, S, aft_seq S A⟩
theorem ms_expr (he : ME X Z e ra) (hs : swapsWith e none pos.line X.env = pure false := by rfl) : MS X Z (.Expr e pos) (sDrop ra) := by
  refine PS.imp (ps_expr he hs) fun D σ H ⟨m, L, h, ρ, S, A⟩ => ?_
  exact Rg.toS S A fun m1 h1 H1 x v S1 l1 p1 q1 A1 => A1.nx S1
theorem ms_ret (he : ME X Z e ra) : MS X Z (.Return (some e) pos) (sRet ra) := by
  refine PS.imp (ps_ret he) fun D σ H ⟨m, L, h, ρ, S, A⟩ => ?_
  exact Rg.toS S A fun m1 h1 H1 x v S1 l1 p1 q1 A1 => (A1 : ∀ _, _) m1 H1 v (Le.refl _) (Pers.refl _) S1.rh q1
theorem ms_if (hc : MT X Z c tx) (ha : MB X Z body s) (hb : MB X Z orelse t) : MS X Z (.If c body orelse pos) (sIf tx s t) := by
  refine PS.imp (ps_if hc ha hb) fun D σ H ⟨m, L, h, ρ, S, A⟩ => ?_
  refine Rg.toS S A fun m1 h1 H1 x v S1 l1 p1 q1 A1 => ?_
  obtain rfl : x = v := q1
  cases x with
  | true => exact ⟨m1, L, h1, ρ, S1, A1⟩
  | false => exact ⟨m1, L, h1, ρ, S1, A1⟩
theorem mg_name {i : Nat} {x : Str} (hN : X.N.Nodup) (hi : X.N[i]? = some x) (hx : Loc X.env.scope x) (hf : X.fn x = true ∨ X.env.scope.names.lookup x = some .local := by first | exact .inl rfl | exact .inr rfl | assumption) : MG X Z (.Name x pos) (gVar i) :=
  PG.imp (pg_name hN hi hx hf) fun v σ H Q ⟨m, L, h, ρ, d, S, r, A⟩ => (A : ∀ _, _) m H _ (Le.refl _) (Pers.refl _) S.rh (S.rs.set i r)
theorem PGs.imp {X : Cx} {e : List Expr} {t t' : TGs} (h : PGs X e t) (i : ∀ v σ H Q, t' v σ H Q → t v σ H Q) : PGs X e t' := ⟨fun pins s σ H v u Q I r q => h.run pins s σ H v u Q I r (i v σ H Q q)⟩
theorem mgs_nil : MGs X Z [] gsNil := PGs.imp pgs_nil fun v σ H Q ⟨m, L, h, ρ, d, S, r, A⟩ => by
  cases r with
  | nil => exact ⟨rfl, (A : ∀ _, _) m H _ (Le.refl _) (Pers.refl _) S.rh S.rs⟩
  | cons _ _ => exact False.elim A
theorem mgs_cons [NoJ Z] {es : List Expr} (h1 : MG X Z e g) (h2 : MGs X Z es gs) (hs : (assignEach (e :: es) X.env).map (·.2) = assign e X.env :: (assignEach es X.env).map (·.2) := by rfl) : MGs X Z (e :: es) (gsCons g gs) :=
  PGs.imp (pgs_cons h1 h2 hs) fun v σ H Q ⟨m, L, h, ρ, d, S, r, A⟩ => by
    cases r with
    | nil => exact False.elim A
    | cons q t =>
      refine ⟨_, _, rfl, m, L, h, ρ, _, S, q, Aft.then (RC := rR X.K) S A fun m1 h1 H1 ρ1 σ1 S1 l1 p1 q1 A1 => ?_⟩
      have A1' : Aft X.K (rR X.K) Z.G L m1 H1 (gs _ ρ1 L h1).noExc Q (wS Z.W σ) := A1
      refine ⟨m1, L, h1, ρ1, _, S1.set q1, t.mono p1 l1, ?_⟩
      cases e2 : gs _ ρ1 L h1 with
      | ok a h2 => rw [e2] at A1'; exact A1'
      | exc c q h2 => rw [e2] at A1'; exact False.elim A1'
      | bad => rw [e2] at A1'; exact A1'
theorem mg_tup {es : List Expr} {k n : Nat} (hc : X.calm = true) (h : MGs X Z es gs) (hn : (assignEach es X.env).length = n := by rfl) (hst : (assignEach es X.env).findIdx? (·.1) = none := by rfl) : MG X Z (.Tuple es k pos) (gTupX n gs) :=
  PG.imp (pg_tup hc h hn hst) fun v σ H Q ⟨m, L, h, ρ, d, S, r, A⟩ => by
    cases r with
    | tup hh t =>
      simp only [gTupX] at A
      split at A
      · rename_i hl
        exact ⟨_, _, rfl, hh.t, by rw [← t.length]; exact hl, m, L, h, ρ, _, S, t, A⟩
      · exact False.elim A
    | _ => exact False.elim A
theorem aft_rho {K : PySem.W.Frag} {Z : Zx K} {L : List Nat} {m : List Addr} {h : Hh} {ρ : Rho} {σ : L2.St} {H : Hp} {D : Ends} {r : R Rho} (S : Stt K Z L m h ρ σ H) (A : AftS K Z.G L m H (r.toS ρ fun ρ' h' => .nx ρ' h') D Z.W) : Aft K (rR K) Z.G L m H r D.nx (wS Z.W σ) :=
  Aft.toS S A fun m1 h1 H1 ρ1 σ1 S1 l1 p1 q1 A1 => (A1 : ∀ _, _) m1 H1 σ1 (Le.refl _) (Pers.refl _) S1.rh q1
theorem ms_asg (he : ME X Z e ra) (hg : MG X Z tg g) (hs : swapsWithSole [tg] e pos.line X.env = pure false := by rfl) (hw : swappedStores [tg] e X.env = pure none := by rfl)
    (h1 : (assignEach [tg] X.env).map (·.2) = [assign tg X.env] := by rfl) : MS X Z (.Assign [tg] e pos) (sAsg ra g) := by
  refine PS.imp (ps_asg he hg hs hw h1) fun D σ H ⟨m, L, h, ρ, S, A⟩ => ?_
  refine Rg.toS S A fun m1 h1 H1 x v S1 l1 p1 q1 A1 => ?_
  exact ⟨m1, L, h1, ρ, x, S1, q1, aft_rho S1 A1⟩
theorem ms_set {i : Nat} {x : Str} (hN : X.N.Nodup) (hi : X.N[i]? = some x) (hx : Loc X.env.scope x) (he : ME X Z e ra) (hs : swapsWith e (some (.Name x pos')) pos.line X.env = pure false := by rfl) (hf : X.fn x = true ∨ X.env.scope.names.lookup x = some .local := by first | exact .inl rfl | exact .inr rfl | assumption) :
    MS X Z (.Assign [.Name x pos'] e pos) (sAsg ra (gVar i)) := by
  refine PS.imp (ps_set hN hi hx he hs hf) fun D σ H ⟨m, L, h, ρ, S, A⟩ => ?_
  refine Rg.toS S A fun m1 h1 H1 x v S1 l1 p1 q1 A1 => ?_
  exact (A1 : ∀ _, _) m1 H1 _ (Le.refl _) (Pers.refl _) S1.rh (S1.rs.set i q1)
theorem RK.put {κ : Type} [DecidableEq κ] {K : PySem.W.Frag} {H : Hp} {m : List Addr} {ds : List (κ × D)} {vs : List (κ × V)} {k : κ} {d : D} {v : V} (r : RK K H m ds vs) (q : RD K H m d v) : RK K H m (putD ds k d) (putK vs k v) := by
  have ha : ∀ {ds : List (κ × D)} {vs : List (κ × V)}, RK K H m ds vs → (ds.any fun kv => decide (kv.1 = k)) = vs.any fun kv => decide (kv.1 = k) := by
    intro ds vs r
    induction r with
    | nil => rfl
    | cons q t ih => rw [List.any_cons, List.any_cons, ih, q.1]
  have hm : ∀ {ds : List (κ × D)} {vs : List (κ × V)}, RK K H m ds vs → RK K H m (ds.map fun kv => if kv.1 = k then (kv.1, d) else kv) (vs.map fun kv => if kv.1 = k then (kv.1, v) else kv) := by
    intro ds vs r
    induction r with
    | nil => exact .nil
    | cons q' t ih =>
      rename_i p p' _ _
      refine .cons ?_ ih
      obtain ⟨k1, d1⟩ := p
      obtain ⟨k2, v2⟩ := p'
      obtain ⟨rfl, q2⟩ : k1 = k2 ∧ RD K H m d1 v2 := q'
      by_cases e : k1 = k
      · simp only [e, if_true]; exact ⟨trivial, q⟩
      · simp only [e, if_false]; exact ⟨trivial, q2⟩
  have hs : ∀ {ds : List (κ × D)} {vs : List (κ × V)}, RK K H m ds vs → RK K H m (ds ++ [(k, d)]) (vs ++ [(k, v)]) := by
    intro ds vs r
    induction r with
    | nil => exact .cons ⟨rfl, q⟩ .nil
    | cons q' t ih => exact .cons q' ih
  unfold putD putK
  rw [ha r]
  split
  · exact hm r
  · exact hs r
/-- is the thing a list -/
def isLst (x : D) (h : Hh) : Bool := match x with
  | .ref n => (match h[n]? with
    | some (.lst _) => true
    | _ => false)
  | _ => false
theorem setIx_lst {K : PySem.W.Frag} {Z : Zx K} {L : List Nat} {m : List Addr} {h h' : Hh} {ρ : Rho} {σ : L2.St} {H : Hp} {x y d : D} {v u w : V} {D' : Ends} (S : Stt K Z L m h ρ σ H) (rx : RD K H m x v) (ry : RD K H m y u) (rd : RD K H m d w)
    (e : setIx x y d L h = some h') (A : AftS K Z.G L m H (.nx ρ h') D' Z.W) : (isLst x h = true → rSetL v u w H (fun H' => D'.nx σ H')) ∧ (isLst x h = false → ∃ a H4, v = .ref a ∧ DPut H a u w H4 ∧ D'.nx σ H4) := by
  cases rx with
  | ref hn =>
    rename_i n a
    simp only [setIx] at e
    split at e
    · cases e
    · rename_i nl
      split at e
      · rename_i xs ex
        obtain ⟨vs, hv, t⟩ := S.rh.lstH hn ex
        cases ry with
        | int k =>
          simp only at e
          split at e
          · rename_i j hj
            cases e
            obtain ⟨r', p'⟩ := S.rh.put ex hn nl (o' := .lst (xs.set j d)) (u' := .lst (vs.set j w)) (RDs.set rd j t)
            exact ⟨fun _ => ⟨a, vs, k, j, rfl, rfl, hv, by rw [← t.length]; exact hj, (A : ∀ _, _) m _ σ (Le.refl _) p' r' (S.rs.mono p' (Le.refl _))⟩, fun z => by simp [isLst, ex] at z⟩
          · cases e
        | _ => cases e
      · rename_i kvs ex
        obtain ⟨u0, q0, i1, i2⟩ := S.rh.at_ n _ a ex hn
        cases u0 <;> first | exact False.elim q0 | skip
        rename_i kvs'
        split at e
        · rename_i k hk
          split at e
          · rename_i hl
            cases e
            obtain ⟨r', p'⟩ := S.rh.put ex hn nl (o' := .dic (putD kvs k d)) (u' := .dK (putK kvs' k w)) (RK.put q0 rd)
            exact ⟨fun z => by simp [isLst, ex] at z, fun _ => ⟨a, _, rfl, .inl ⟨kvs', k, i2 nl, keyD_ok ry hk, by rw [← RK.length q0]; exact hl, rfl⟩, (A : ∀ _, _) m _ σ (Le.refl _) p' r' (S.rs.mono p' (Le.refl _))⟩⟩
          · cases e
        · cases e
      · rename_i kvs ex
        obtain ⟨u0, q0, i1, i2⟩ := S.rh.at_ n _ a ex hn
        cases u0 <;> first | exact False.elim q0 | skip
        rename_i kvs'
        split at e
        · rename_i ds
          split at e
          · rename_i ks hk
            split at e
            · rename_i hl
              cases e
              cases ry with
              | tup hh t =>
                rename_i b us
                obtain ⟨e1, e2⟩ := keysD_ok t hk
                have hb : H b = some (.tup us) := hh.elim id fun z => absurd z.1 e2
                obtain ⟨r', p'⟩ := S.rh.put ex hn nl (o' := .dct (putD kvs ks d)) (u' := .dT (putK kvs' ks w)) (RK.put q0 rd)
                exact ⟨fun z => by simp [isLst, ex] at z, fun _ => ⟨a, _, rfl, .inr ⟨kvs', ks, b, i2 nl, rfl, by rw [hb, e1], by rw [← RK.length q0]; exact hl, rfl⟩, (A : ∀ _, _) m _ σ (Le.refl _) p' r' (S.rs.mono p' (Le.refl _))⟩⟩
            · cases e
          · cases e
        · cases e
      · cases e
  | _ => cases e
theorem ms_put (hu : X.A.units + 1 < cLine) (ho : ME X Z o rb) (hi : ME X Z i rc) (he : ME X Z e ra) (hs : swapsWithSole [.Subscript o i pos'] e pos.line X.env = pure false := by rfl) (hs' : swapsWith e (some (.Subscript o i pos')) pos.line X.env = pure false := by rfl) (hw : swappedStores [.Subscript o i pos'] e X.env = pure none := by rfl)
    (h1 : (assignEach [.Subscript o i pos'] X.env).map (·.2) = [assign (.Subscript o i pos') X.env] := by rfl)
    (hq : ∀ v, assign (.Subscript o i pos') X.env v = (do
      let ov ← holding [v] (eval o X.env)
      let iv ← holding [v, ov] (eval i X.env)
      standAt pos'
      holding [v, ov, iv] (setItem ov iv v)
      release [v, ov, iv] []) := by intro _; rfl) : MS X Z (.Assign [.Subscript o i pos'] e pos) (sPut rb rc ra) := by
  refine PS.imp (PS.or (ps_asg he (pg_sub ho hi set_list hq) hs hw h1) (ps_dput hu ho hi he hs')) fun D σ H ⟨m, L, h, ρ, S, A⟩ => ?_
  by_cases hd : ∃ d h1 x h2 y h3, ra ρ L h = .ok d h1 ∧ rb ρ L h1 = .ok x h2 ∧ rc ρ L h2 = .ok y h3 ∧ isLst x h3 = false
  · refine .inr ?_
    obtain ⟨d, h1, x, h2, y, h3, e1, e2, e3, e4⟩ := hd
    refine Rg.toSE S A fun m1 h1' H1 d' w f1 S1 l1 p1 q1 A1 => ?_
    rw [e1] at f1
    cases f1
    refine Rg.toSE S1 A1 fun m2 h2' H2 x' v f2 S2 l2 p2 q2 A2 => ?_
    rw [e2] at f2
    cases f2
    refine Rg.toSE S2 A2 fun m3 h3' H3 y' u f3 S3 l3 p3 q3 A3 => ?_
    rw [e3] at f3
    cases f3
    split at A3
    · rename_i h4 es
      exact (setIx_lst S3 (q2.mono p3 l3) q3 ((q1.mono p2 l2).mono p3 l3) es A3).2 e4
    · exact False.elim A3
  · refine .inl ?_
    refine Rg.toSE S A fun m1 h1 H1 d w f1 S1 l1 p1 q1 A1 => ?_
    show Rg X.K (rD X.K) Z rb σ H1 _
    refine Rg.toSE S1 A1 fun m2 h2 H2 x v f2 S2 l2 p2 q2 A2 => ?_
    refine Rg.toSE S2 A2 fun m3 h3 H3 y u f3 S3 l3 p3 q3 A3 => ?_
    split at A3
    · rename_i h4 es
      refine (setIx_lst S3 (q2.mono p3 l3) q3 ((q1.mono p2 l2).mono p3 l3) es A3).1 ?_
      cases z : isLst x h3 with
      | true => rfl
      | false => exact absurd ⟨d, h1, x, h2, y, h3, f1, f2, f3, z⟩ hd
    · exact False.elim A3
/-- what is walked: at turn i the item i of xs comes, while P stands -/
structure Src (K : PySem.W.Frag) (G : Gx) (J : It) (xs : List D) (P : List Addr → Hp → Prop) : Prop where
  mono : ∀ {m m' : List Addr} {H H' : Hp}, P m H → Le m m' → Pers K H H' → P m' H'
  go : ∀ {i : Nat} {m : List Addr} {H : Hp}, P m H → i < xs.length → J.go i H
  yld : ∀ {i : Nat} {m : List Addr} {H H' : Hp} {d : D} {v : V}, P m H → xs[i]? = some d → J.yld i H v H' → Pers K H H' ∧ (∀ L h, RH K G L m h H → RH K G L m h H') ∧ RD K H' m d v
  stop : ∀ {i : Nat} {m : List Addr} {H : Hp}, P m H → xs.length ≤ i → J.stop i H
/-- behind a turn -/
theorem aft_turn {K : PySem.W.Frag} {Z : Zx K} [NoJ Z] {L : List Nat} {m : List Addr} {h : Hh} {ρ : Rho} {σ : L2.St} {H : Hp} {D : Ends} {r : SR} {go : Rho → Hh → SR} {N : L2.St → Hp → Prop} (S : Stt K Z L m h ρ σ H)
    (A : AftS K Z.G L m H (match r with
      | .nx ρ2 h2 => go ρ2 h2
      | .cnt ρ2 h2 => go ρ2 h2
      | .brk ρ2 h2 => .nx ρ2 h2
      | r => r) D Z.W) (hN : ∀ m1 h1 ρ1 H1 σ1, Stt K Z L m1 h1 ρ1 σ1 H1 → Le m m1 → Pers K H H1 → AftS K Z.G L m1 H1 (go ρ1 h1) D Z.W → N σ1 H1) :
    AftS K Z.G L m H r { D with nx := N, ct := N, bk := D.nx } Z.W := by
  cases r with
  | nx ρ1 h1 => exact fun m' H' σ' l p r q => hN m' h1 ρ1 H' σ' ((S.on l p r).set q) l p (AftS.mono (A : AftS K Z.G L m H (go ρ1 h1) D Z.W) l p)
  | cnt ρ1 h1 => exact fun m' H' σ' l p r q => hN m' h1 ρ1 H' σ' ((S.on l p r).set q) l p (AftS.mono (A : AftS K Z.G L m H (go ρ1 h1) D Z.W) l p)
  | brk ρ1 h1 => exact A
  | ret d h1 => exact A
  | exc c q ρ1 h1 => exact A
  | bad => exact A
/-- one turn: the target takes the item, the body runs -/
theorem turn_ok {K : PySem.W.Frag} {Z : Zx K} [NoJ Z] {L : List Nat} {m : List Addr} {h : Hh} {ρ : Rho} {σ : L2.St} {H : Hp} {D : Ends} {g : GX} {b : SX} {d : Mi.D} {v : V} {go : Rho → Hh → SR} {N : L2.St → Hp → Prop} (S : Stt K Z L m h ρ σ H) (q : RD K H m d v)
    (A : AftS K Z.G L m H (match (g d ρ L h).toS ρ fun ρ1 h1 => b ρ1 L h1 with
      | .nx ρ2 h2 => go ρ2 h2
      | .cnt ρ2 h2 => go ρ2 h2
      | .brk ρ2 h2 => .nx ρ2 h2
      | r => r) D Z.W) (hN : ∀ m1 h1 ρ1 H1 σ1, Stt K Z L m1 h1 ρ1 σ1 H1 → Le m m1 → Pers K H H1 → AftS K Z.G L m1 H1 (go ρ1 h1) D Z.W → N σ1 H1) :
    Rt K Z g v σ H fun σ2 H2 => Rs K Z b { D with nx := N, ct := N, bk := D.nx } σ2 H2 := by
  refine ⟨m, L, h, ρ, d, S, q, ?_⟩
  cases e : g d ρ L h with
  | ok ρ1 h1 =>
    rw [e] at A
    intro m1 H1 σ1 l p r q1
    exact ⟨m1, L, h1, ρ1, (S.on l p r).set q1, aft_turn ((S.on l p r).set q1) (AftS.mono A l p) fun m2 h2 ρ2 H2 σ2 S2 l2 p2 A2 => hN m2 h2 ρ2 H2 σ2 S2 (l.trans l2) (p.trans p2) A2⟩
  | exc c p h1 =>
    rw [e] at A
    exact fun m1 H1 cls d l p r x => (A : AftS K Z.G L m H (.exc c _ ρ h1) D Z.W) m1 H1 σ cls d l p r (S.rs.mono p l) x
  | bad =>
    rw [e] at A
    exact False.elim A
/-- the loop over items that stand still -/
theorem for_still {K : PySem.W.Frag} {Z : Zx K} [NoJ Z] {J : It} {xs : List Mi.D} {P : List Addr → Hp → Prop} (B : Src K Z.G J xs P) {L : List Nat} {m : List Addr} {h : Hh} {ρ : Rho} {σ : L2.St} {H : Hp} {D : Ends} {g : GX} {b : SX} (S : Stt K Z L m h ρ σ H) (hP : P m H)
    (A : AftS K Z.G L m H (loopV g b xs ρ L h) D Z.W) :
    ∃ W : Nat → Nat → L2.St → Hp → Prop, (∃ k, W 0 k σ H) ∧ ∀ i k σ H, W i k σ H →
      (J.stop i H ∧ D.nx σ H) ∨ (J.go i H ∧ ∃ N : L2.St → Hp → Prop, (∀ σ' H', N σ' H' → ∃ k', k' < k ∧ W (i + 1) k' σ' H') ∧ ∀ x H', J.yld i H x H' → Rt K Z g x σ H' fun σ2 H2 => Rs K Z b { D with nx := N, ct := N, bk := D.nx } σ2 H2) := by
  refine ⟨fun i k σ H => k = xs.length - i ∧ i ≤ xs.length ∧ ∃ m L h ρ, Stt K Z L m h ρ σ H ∧ P m H ∧ AftS K Z.G L m H (loopV g b (xs.drop i) ρ L h) D Z.W, ⟨_, rfl, Nat.zero_le _, m, L, h, ρ, S, hP, A⟩, ?_⟩
  rintro i k σ H ⟨rfl, hi, m, L, h, ρ, S, hP, A⟩
  by_cases e : i = xs.length
  · subst e
    rw [List.drop_length] at A
    exact .inl ⟨B.stop hP (Nat.le_refl _), A.nx S⟩
  · have hlt : i < xs.length := by omega
    rw [List.drop_eq_getElem_cons hlt] at A
    refine .inr ⟨B.go hP hlt, fun σ' H' => xs.length - (i + 1) = xs.length - (i + 1) ∧ i + 1 ≤ xs.length ∧ ∃ m L h ρ, Stt K Z L m h ρ σ' H' ∧ P m H' ∧ AftS K Z.G L m H' (loopV g b (xs.drop (i + 1)) ρ L h) D Z.W, fun σ' H' z => ⟨_, by omega, z⟩, fun x H' y => ?_⟩
    obtain ⟨p1, r1, q1⟩ := B.yld hP (List.getElem?_eq_getElem hlt) y
    have S1 : Stt K Z L m h ρ σ H' := S.on (Le.refl _) p1 (r1 _ _ S.rh)
    exact turn_ok S1 q1 (AftS.mono A (Le.refl _) p1) fun m1 h1 ρ1 H1 σ1 S2 l2 p2 A2 => ⟨rfl, hlt, m1, L, h1, ρ1, S2, B.mono hP l2 (p1.trans p2), A2⟩
/-- the loop over a list that stands at a number -/
theorem for_live {K : PySem.W.Frag} {Z : Zx K} [NoJ Z] {n : Nat} {a : Addr} {L : List Nat} {m : List Addr} {h : Hh} {ρ : Rho} {σ : L2.St} {H : Hp} {D : Ends} {g : GX} {b : SX} {f : Nat} (S : Stt K Z L m h ρ σ H) (hn : m[n]? = some a)
    (A : AftS K Z.G L m H (loopL g b n f 0 ρ L h) D Z.W) :
    ∃ W : Nat → Nat → L2.St → Hp → Prop, (∃ k, W 0 k σ H) ∧ ∀ i k σ H, W i k σ H →
      ((Itl K a).stop i H ∧ D.nx σ H) ∨ ((Itl K a).go i H ∧ ∃ N : L2.St → Hp → Prop, (∀ σ' H', N σ' H' → ∃ k', k' < k ∧ W (i + 1) k' σ' H') ∧ ∀ x H', (Itl K a).yld i H x H' → Rt K Z g x σ H' fun σ2 H2 => Rs K Z b { D with nx := N, ct := N, bk := D.nx } σ2 H2) := by
  refine ⟨fun i k σ H => ∃ m L h ρ, Stt K Z L m h ρ σ H ∧ m[n]? = some a ∧ AftS K Z.G L m H (loopL g b n k i ρ L h) D Z.W, ⟨f, m, L, h, ρ, S, hn, A⟩, ?_⟩
  rintro i k σ H ⟨m, L, h, ρ, S, hn, A⟩
  cases k with
  | zero => exact False.elim A
  | succ k =>
    simp only [loopL] at A
    split at A
    · rename_i xs ex
      obtain ⟨vs, hv, t⟩ := S.rh.lstH hn ex
      split at A
      · rename_i e
        exact .inl ⟨⟨vs, .of hv, List.getElem?_eq_none_iff.mp (t.none_of e)⟩, A.nx S⟩
      · rename_i x e
        obtain ⟨v, hv1, q⟩ := t.get e
        refine .inr ⟨⟨vs, v, .of hv, hv1⟩, fun σ' H' => ∃ m L h ρ, Stt K Z L m h ρ σ' H' ∧ m[n]? = some a ∧ AftS K Z.G L m H' (loopL g b n k (i + 1) ρ L h) D Z.W, fun σ' H' z => ⟨k, Nat.lt_succ_self _, z⟩, fun x' H' y => ?_⟩
        obtain ⟨rfl, y⟩ := y
        have ex' : x' = v := by
          have := y vs (.of hv)
          rw [hv1] at this
          exact (Option.some.inj this).symm
        subst ex'
        exact turn_ok S q A fun m1 h1 ρ1 H1 σ1 S2 l2 p2 A2 => ⟨m1, L, h1, ρ1, S2, l2 _ _ hn, A2⟩
    · exact False.elim A
theorem src_tup {K : PySem.W.Frag} {G : Gx} {a : Addr} {xs : List Mi.D} {vs : List V} : Src K G (Itt K a) xs fun m H => SqD K H a vs ∧ RDs K H m xs vs where
  mono := fun h l p => ⟨p.tup _ _ h.1, h.2.mono p l⟩
  go := fun {i m H} h hi => ⟨vs, vs[i]'(by rw [← h.2.length]; exact hi), h.1.t, List.getElem?_eq_getElem _⟩
  yld := fun h e y => by
    obtain ⟨rfl, y⟩ := y
    obtain ⟨w, hw, q⟩ := h.2.get e
    have := y vs h.1.t
    rw [hw] at this
    cases this
    exact ⟨Pers.refl _, fun _ _ r => r, q⟩
  stop := fun h hi => ⟨vs, h.1.t, by rw [← h.2.length]; exact hi⟩
theorem src_frl {K : PySem.W.Frag} {G : Gx} {a : Addr} {xs : List Mi.D} {vs : List V} : Src K G (Itl K a) xs fun m H => SqF K H a vs ∧ RDs K H m xs vs where
  mono := fun h l p => ⟨p.frl _ _ h.1, h.2.mono p l⟩
  go := fun {i m H} h hi => ⟨vs, vs[i]'(by rw [← h.2.length]; exact hi), h.1.l, List.getElem?_eq_getElem _⟩
  yld := fun h e y => by
    obtain ⟨rfl, y⟩ := y
    obtain ⟨w, hw, q⟩ := h.2.get e
    have := y vs h.1.l
    rw [hw] at this
    cases this
    exact ⟨Pers.refl _, fun _ _ r => r, q⟩
  stop := fun h hi => ⟨vs, h.1.l, by rw [← h.2.length]; exact hi⟩
theorem src_str {K : PySem.W.Frag} {G : Gx} {z : Str} : Src K G (Its z) (strsOf z) fun _ _ => True where
  mono := fun h _ _ => h
  go := fun h hi => by simpa [strsOf, Its] using hi
  yld := fun {i m H H' d v} h e y => by
    obtain ⟨rfl, c, hc, rfl⟩ := y
    refine ⟨Pers.refl _, fun _ _ r => r, ?_⟩
    have e' : d = .str ⟨#[c]⟩ := by
      simp only [strsOf, List.getElem?_map, Array.getElem?_toList, hc] at e
      exact (Option.some.inj e).symm
    subst e'
    exact .str _
  stop := fun h hi => by simpa [strsOf, Its] using hi
theorem src_rng {K : PySem.W.Frag} {G : Gx} {lo hi : Int} : Src K G (Itr lo (hi - lo).toNat) (rngD lo hi) fun _ _ => True where
  mono := fun h _ _ => h
  go := fun h hi => by simpa [rngD, Itr] using hi
  yld := fun {i m H H' d v} h e y => by
    obtain ⟨rfl, rfl⟩ := y
    refine ⟨Pers.refl _, fun _ _ r => r, ?_⟩
    have hl : i < (rngD lo hi).length := (List.getElem?_eq_some_iff.mp e).1
    have e' : d = .int (lo + i) := by
      simp only [rngD, List.length_map, List.length_range] at hl
      simp only [rngD, List.getElem?_map, List.getElem?_range hl] at e
      exact (Option.some.inj e).symm
    subst e'
    exact .int _
  stop := fun h hi => by simpa [rngD, Itr] using hi
end
end Mi
end
section
set_option maxHeartbeats 1000000
namespace Mi
open PySem PySem.Spec PyProof.Rows L2
/-- no error is wished for -/
abbrev Zx.quiet {K : PySem.W.Frag} (Z : Zx K) : Zx K := { Z with W := fun _ _ _ _ => False }
instance {K : PySem.W.Frag} (Z : Zx K) [i : NoJ Z] : NoJ Z.quiet := ⟨i.h⟩
/-- an expression that changes nothing and does not lean on the locks -/
def Pure (r : EX) : Prop := ∀ ρ L h, (∃ x, ∀ L', r ρ L' h = .ok x h) ∨ r ρ L h = .bad
theorem pure_var {i : Nat} : Pure (eVar i) := fun ρ L h => by
  unfold eVar
  split
  · rename_i d e
    exact .inl ⟨d, fun _ => rfl⟩
  · exact .inr rfl
theorem pure_fld {cs : List Nat} {f : Str} {o : EX} (ho : Pure o) : Pure (eFld cs f o) := fun ρ L h => by
  rcases ho ρ L h with ⟨x, e⟩ | e
  · unfold eFld
    by_cases z : ∃ n c fs v, x = .ref n ∧ h[n]? = some (.ins c fs) ∧ c ∈ cs ∧ fs.lookup f = some v
    · obtain ⟨n, c, fs, v, rfl, h1, h2, h3⟩ := z
      exact .inl ⟨v, fun L' => by simp [e L', h1, h2, h3]⟩
    · refine .inr ?_
      rw [e L, R.bind_ok]
      split
      · rename_i n
        split
        · rename_i c fs h1
          split
          · rename_i h2
            split
            · rename_i v h3
              exact absurd ⟨n, c, fs, v, rfl, h1, h2, h3⟩ z
            · rfl
          · rfl
        · rfl
      · rfl
  · refine .inr ?_
    unfold eFld
    rw [e]
    rfl
section
variable {X : Cx} {Z : Zx X.K} [NoJ Z] {e tg : Expr} {body : List Stmt} {ra rb : EX} {pos p : Pos} {g : GX} {b : SX}
theorem ms_for (hp : PassesOwn (model X.prog X.w) X.A X.env X.xe) (hc : X.calm = true) (he : ME X Z e ra) (hg : MG X Z tg g) (hb : MB X Z body b) (hs : ∀ x, foldedSetIterable e X.env x = pure x := by intro _; rfl) : MS X Z (.For tg e body [] pos) (sFor ra g b) := by
  refine PS.imp (PS.or (ps_for hp hc (pi_list he) hg hb hs) (PS.or (ps_for hp hc (pi_tup he) hg hb hs) (ps_for hp hc (pi_str he) hg hb hs))) fun D σ H ⟨m, L, h, ρ, S, A⟩ => ?_
  by_cases hd : ∃ xs h1, ra ρ L h = .ok (.tup xs) h1
  · refine .inr (.inl ?_)
    obtain ⟨xs, h1, e1⟩ := hd
    refine Rg.toSE S A fun m1 h1' H1 x v f1 S1 l1 p1 q1 A1 => ?_
    rw [e1] at f1
    cases f1
    cases q1 with
    | tup hh t => exact ⟨_, rfl, ⟨_, hh.t⟩, for_still src_tup S1 ⟨hh, t⟩ A1⟩
  · by_cases hd2 : ∃ z h1, ra ρ L h = .ok (.str z) h1
    · refine .inr (.inr ?_)
      obtain ⟨z, h1, e1⟩ := hd2
      refine Rg.toSE S A fun m1 h1' H1 x v f1 S1 l1 p1 q1 A1 => ?_
      rw [e1] at f1
      cases f1
      cases q1
      exact ⟨_, rfl, for_still src_str S1 trivial A1⟩
    · refine .inl ?_
      refine Rg.toSE S A fun m1 h1 H1 x v f1 S1 l1 p1 q1 A1 => ?_
      cases q1 with
      | tup hh t => exact absurd ⟨_, _, f1⟩ hd
      | str z => exact absurd ⟨_, _, f1⟩ hd2
      | frl hh t => exact ⟨_, rfl, ⟨_, hh.l⟩, for_still src_frl S1 ⟨hh, t⟩ A1⟩
      | ref hn =>
        rename_i n a
        refine ⟨a, rfl, ?_, for_live S1 hn A1⟩
        have A1' : AftS X.K Z.G L m1 H1 (loopL g b n fuel 0 ρ L h1) D Z.W := A1
        have ef : fuel = 99999 + 1 := rfl
        rw [ef, loopL] at A1'
        dsimp only at A1'
        split at A1'
        · rename_i xs ex
          obtain ⟨vs, hv, t⟩ := S1.rh.lstH hn ex
          exact ⟨vs, .of hv⟩
        · exact False.elim A1'
      | _ => exact False.elim A1
end
section
variable {X : Cx} {Z : Zx X.K} [NoJ Z] {a1 a2 a3 tg : Expr} {body : List Stmt} {rs : AX} {pos p pc : Pos} {g : GX} {b : SX}
/-- a range's turns -/
theorem src_rng0 {K : PySem.W.Frag} {G : Gx} {hi : Int} : Src K G (Itr 0 hi.toNat) (rngD 0 hi) fun _ _ => True := by
  have B := src_rng (K := K) (G := G) (lo := 0) (hi := hi)
  rw [Int.sub_zero] at B
  exact B
theorem sm62_ok {i : Int} (h : sm62 i = true) : -(2 ^ 62) ≤ i ∧ i < 2 ^ 62 := of_decide_eq_true h
theorem rng1_ok {K : PySem.W.Frag} {G : Gx} {H : Hp} {m : List Addr} {xs ys : List Mi.D} {vs : List V} (q : RDs K H m xs vs) (e : rng1 xs = some ys) : ∃ j : Int, vs = [.int j] ∧ -(2 ^ 62) ≤ j ∧ j < 2 ^ 62 ∧ Src K G (Itr 0 j.toNat) ys fun _ _ => True := by
  unfold rng1 at e
  split at e
  · rename_i j
    split at e
    · rename_i hj
      cases e
      cases q with
      | cons q t =>
        cases t
        cases q
        exact ⟨j, rfl, (sm62_ok hj).1, (sm62_ok hj).2, src_rng0⟩
    · cases e
  · cases e
theorem ms_forR1 (hp : PassesOwn (model X.prog X.w) X.A X.env X.xe) (hc : X.calm = true) (hgl : Gl X "range") (hm : X.mg "range" = none) (ha : MA X Z [a1] rs) (hg : MG X Z tg g) (hb : MB X Z body b) (hq : starEach [a1] X.env = [(false, eval a1 X.env)] := by rfl)
    (hs : ∀ x, foldedSetIterable (.Call (.Name "range" p) [a1] [] pc) X.env x = pure x := by intro _; rfl) : MS X Z (.For tg (.Call (.Name "range" p) [a1] [] pc) body [] pos) (sForR rng1 rs g b) := by
  refine PS.imp (ps_for hp hc (pi_range1 hgl hm ha hq) hg hb hs) fun D σ H ⟨m, L, h, ρ, S, A⟩ => ?_
  refine Rg.toS S A fun m1 h1 H1 x v S1 l1 p1 q1 A1 => ?_
  split at A1
  · rename_i ys e
    obtain ⟨j, rfl, b1, b2, B⟩ := rng1_ok (G := Z.G) q1 e
    exact ⟨j, rfl, b1, b2, for_still B S1 trivial A1⟩
  · exact False.elim A1
end
theorem kk_ok {κ : Type} {K : PySem.W.Frag} {H : Hp} {m : List Addr} : ∀ {ds : List (κ × Mi.D)} {vs : List (κ × V)}, RK K H m ds vs → ds.map (·.1) = vs.map (·.1)
  | _, _, .nil => rfl
  | _, _, .cons q t => by rw [List.map_cons, List.map_cons, kk_ok t, q.1]
theorem keysOf_get {κ : Type} {f : κ → Mi.D} {kvs : List (κ × Mi.D)} {vs : List (κ × V)} (e : kvs.map (·.1) = vs.map (·.1)) {i : Nat} {d : Mi.D} (h : (keysOf f kvs)[i]? = some d) : ∀ {k : κ} {v : V}, vs[i]? = some (k, v) → d = f k := by
  intro k v hv
  unfold keysOf at h
  have e1 : (kvs.map (·.1))[i]? = (vs.map (·.1))[i]? := by rw [e]
  rw [List.getElem?_map, List.getElem?_map, hv] at e1
  rw [List.getElem?_map] at h
  cases hk : kvs[i]? with
  | none => rw [hk] at e1; cases e1
  | some kv =>
    rw [hk] at e1 h
    have e2 : kv.1 = k := Option.some.inj e1
    rw [← e2]
    exact (Option.some.inj h).symm
theorem src_key {K : PySem.W.Frag} {G : Gx} {d : Addr} {o : Obj} {kvs : List (Key × Mi.D)} {vs : List (Key × V)} (e : kvs.map (·.1) = vs.map (·.1)) : Src K G (Itk d o vs) (keysOf keyV kvs) fun _ H => H d = some (.frz o (.dK vs)) where
  mono := fun h _ p => p.frz _ _ _ h
  go := fun h hi => ⟨h, by have := congrArg List.length e; simp [keysOf] at hi this; omega⟩
  yld := fun {i m H H' d v} h ed y => by
    obtain ⟨rfl, k, w, hk, rfl⟩ := y
    refine ⟨Pers.refl _, fun _ _ r => r, ?_⟩
    rw [keysOf_get e ed hk]
    cases k with
    | inl k => exact .int k
    | inr x => exact .str x
  stop := fun h hi => ⟨h, by have := congrArg List.length e; simp [keysOf] at hi this; omega⟩
theorem keyVs_rd {K : PySem.W.Frag} {H : Hp} {m : List Addr} : ∀ ks : List Key, RDs K H m (ks.map keyV) (ks.map kV)
  | [] => .nil
  | .inl i :: r => .cons (.int i) (keyVs_rd r)
  | .inr x :: r => .cons (.str x) (keyVs_rd r)
theorem src_keyT {K : PySem.W.Frag} {G : Gx} {d : Addr} {o : Obj} {kvs : List (List Key × Mi.D)} {vs : List (List Key × V)} (e : kvs.map (·.1) = vs.map (·.1)) : Src K G (Itkt d o vs) (keysOf (fun ks => .tup (ks.map keyV)) kvs) fun _ H => H d = some (.frz o (.dT vs)) where
  mono := fun h _ p => p.frz _ _ _ h
  go := fun h hi => ⟨h, by have := congrArg List.length e; simp [keysOf] at hi this; omega⟩
  yld := fun {i m H H' d v} h ed y => by
    obtain ⟨rfl, k, w, q, hk, rfl, hq⟩ := y
    refine ⟨Pers.refl _, fun _ _ r => r, ?_⟩
    rw [keysOf_get e ed hk]
    exact .tup (.inl hq) (keyVs_rd k)
  stop := fun h hi => ⟨h, by have := congrArg List.length e; simp [keysOf] at hi this; omega⟩
section
variable {K : PySem.W.Frag} {G : Gx} {L : List Nat} {m : List Addr} {h : Hh} {H : Hp} {n : Nat} {d : Addr} {u : HO} {od : Obj}
theorem RH.same {L' : List Nat} (r : RH K G L m h H) (e : ∀ k, k ∈ L ↔ k ∈ L') : RH K G L' m h H := ⟨r.len, r.nd, fun n o a e1 e2 => by
  obtain ⟨u, q, h1, h2⟩ := r.at_ n o a e1 e2
  exact ⟨u, q, fun z => h1 ((e n).mpr z), fun z => h2 fun y => z ((e n).mp y)⟩⟩
/-- a dict is locked -/
theorem RH.lock (r : RH K G L m h H) {o : Ob} (e : h[n]? = some o) (ed : m[n]? = some d) (hd : o.isDic = true) (hu : H d = some u) (nl : n ∉ L) : RH K G (n :: L) m h (upd H d (.frz od u)) ∧ Pers K H (upd H d (.frz od u)) ∧ RO K G H m o u := by
  obtain ⟨u0, q0, i1, i2⟩ := r.at_ n o d e ed
  have e0 : u0 = u := by
    have := i2 nl
    rw [hu] at this
    exact (Option.some.inj this).symm
  subst e0
  have P : Pers K H (upd H d (.frz od u0)) := pers_upd fun u1 e1 => by
    rw [hu] at e1
    cases e1
    exact q0.chg
  refine ⟨⟨r.len, r.nd, fun k o' a e1 e2 => ?_⟩, P, q0⟩
  by_cases hk : k = n
  · subst hk
    have ea : a = d := by rw [ed] at e2; exact (Option.some.inj e2).symm
    subst ea
    have eo : o' = o := by rw [e] at e1; exact (Option.some.inj e1).symm
    subst eo
    exact ⟨u0, q0.mono P (Le.refl _), fun _ => ⟨hd, od, upd_same⟩, fun z => absurd List.mem_cons_self z⟩
  · have na : a ≠ d := fun z => hk (by subst z; exact r.inj e2 ed)
    obtain ⟨u1, q1, j1, j2⟩ := r.at_ k o' a e1 e2
    refine ⟨u1, q1.mono P (Le.refl _), fun z => ?_, fun z => ?_⟩
    · rcases List.mem_cons.mp z with z | z
      · exact absurd z hk
      · obtain ⟨g1, od', g2⟩ := j1 z
        exact ⟨g1, od', by rw [upd_ne na]; exact g2⟩
    · rw [upd_ne na]
      exact j2 fun y => z (List.mem_cons_of_mem _ y)
/-- a dict's object -/
def DicO : HO → Prop
  | .dK _ => True
  | .dT _ => True
  | _ => False
theorem RO.dicO {o : Ob} (q : RO K G H m o u) (hd : o.isDic = true) : DicO u := by
  cases o <;> cases u <;> first | exact q.elim | exact True.intro | cases hd
/-- .. and let go -/
theorem PersD.unlock (hu : H d = some (.frz od u)) (hc : DicO u) : PersD K H (upd H d u) := by
  refine ⟨fun a vs t => ?_, fun a vs t => ?_⟩
  · rcases t with t | ⟨rfl, (t | ⟨o, t⟩) | t⟩
    · exact .inl (by rw [upd_ne (fun z => by subst z; rw [hu] at t; cases t)]; exact t)
    · exact .inl (by rw [upd_ne (fun z => by subst z; rw [hu] at t; cases t)]; exact t)
    · exact .inr ⟨rfl, .inl (.inr ⟨o, by rw [upd_ne (fun z => by subst z; rw [hu] at t; cases t; exact hc)]; exact t⟩)⟩
    · exact .inr ⟨rfl, .inr t⟩
  · rcases t with ⟨o, t⟩ | t
    · exact .inl ⟨o, by rw [upd_ne (fun z => by subst z; rw [hu] at t; cases t; exact hc)]; exact t⟩
    · exact .inr t
theorem Pers.unlock {H0 H' : Hp} (hH : H d = some u) (hc : DicO u) (e0 : H0 = upd H d (.frz od u)) (p0 : Pers K H H0) (p : Pers K H0 H') : Pers K H (upd H' d u) := by
  have hd : H' d = some (.frz od u) := p.frz _ _ _ (by rw [e0]; exact upd_same)
  have q := (p0.trans p).toPersD
  have ul := PersD.unlock (K := K) hd hc
  refine ⟨⟨fun a vs t => ul.tup _ _ (q.tup _ _ t), fun a vs t => ul.frl _ _ (q.frl _ _ t)⟩, fun a fs t => ?_, fun a o w t => ?_⟩
  · have na : a ≠ d := fun z => by
      subst z
      rw [hH] at t
      cases t
      exact hc
    rw [upd_ne na]
    exact p.xd _ _ (p0.xd _ _ t)
  · have na : a ≠ d := fun z => by
      subst z
      rw [hH] at t
      cases t
      exact hc
    rw [upd_ne na]
    exact p.frz _ _ _ (p0.frz _ _ _ t)
theorem RH.unlock (r : RH K G (n :: L) m h H) (ed : m[n]? = some d) (hu : H d = some (.frz od u)) (hc : DicO u) (nl : n ∉ L) : RH K G L m h (upd H d u) := by
  have ul := PersD.unlock (K := K) hu hc
  refine ⟨r.len, r.nd, fun k o a e1 e2 => ?_⟩
  obtain ⟨u1, q1, j1, j2⟩ := r.at_ k o a e1 e2
  by_cases hk : k = n
  · subst hk
    have ea : a = d := by rw [ed] at e2; exact (Option.some.inj e2).symm
    subst ea
    obtain ⟨g1, od', g2⟩ := j1 List.mem_cons_self
    have e0 : u1 = u := by
      rw [hu] at g2
      cases g2
      rfl
    subst e0
    exact ⟨u1, q1.monoD ul (Le.refl _), fun z => absurd z nl, fun _ => upd_same⟩
  · have na : a ≠ d := fun z => hk (by subst z; exact r.inj e2 ed)
    refine ⟨u1, q1.monoD ul (Le.refl _), fun z => ?_, fun z => ?_⟩
    · obtain ⟨g1, od', g2⟩ := j1 (List.mem_cons_of_mem _ z)
      exact ⟨g1, od', by rw [upd_ne na]; exact g2⟩
    · rw [upd_ne na]
      exact j2 fun y => by
        rcases List.mem_cons.mp y with y | y
        · exact hk y
        · exact z y
/-- the walk over the locked dict -/
theorem src_at {a : Addr} {k : Nat} {xs : List Mi.D} {ob : Ob} {H' : Hp} (q : RO K G H m ob u) (ek : h[k]? = some ob) (e : keysAt (.ref k) h = some (k, xs)) (hu : H' a = some (.frz od u)) :
    (∃ kvs, u = .dK kvs ∧ Src K G (Itk a od kvs) xs fun _ H => H a = some (.frz od (.dK kvs))) ∨ ∃ kvs, u = .dT kvs ∧ Src K G (Itkt a od kvs) xs fun _ H => H a = some (.frz od (.dT kvs)) := by
  simp only [keysAt, ek] at e
  cases ob <;> simp at e
  · cases u <;> first | exact False.elim q | skip
    subst e
    exact .inl ⟨_, rfl, src_key (kk_ok q)⟩
  · cases u <;> first | exact False.elim q | skip
    subst e
    exact .inr ⟨_, rfl, src_keyT (kk_ok q)⟩
end
section
variable {X : Cx} {Z : Zx X.K} [NoJ Z] {e tg : Expr} {body : List Stmt} {ra rb : EX} {pos p : Pos} {g : GX} {b : SX}
theorem noExc_ne {r : SR} {c : Nat} {p : Option Mi.D} {ρ : Rho} {h : Hh} : r.noExc ≠ .exc c p ρ h := by
  cases r <;> intro z <;> cases z
theorem aft_noExc {K : PySem.W.Frag} {G : Gx} {L : List Nat} {m : List Addr} {H : Hp} {r : SR} {D : Ends} {W W' : WX} (A : AftS K G L m H r.noExc D W) : AftS K G L m H r D W' := by
  cases r <;> first | exact A | exact False.elim A
theorem ms_forK (pu : Pure ra) (hp : PassesOwn (model X.prog X.w) X.A X.env X.xe) (hc : X.calm = true) (he : ME X Z.quiet e ra) (hg : MG X Z.quiet tg g) (hb : MB X Z.quiet body b) (hs : ∀ x, foldedSetIterable e X.env x = pure x := by intro _; rfl) : MS X Z (.For tg e body [] pos) (sForK ra g b) := by
  have F : PS X (.For tg e body [] pos) (tFor (iKeys (Rg X.K (rD X.K) Z.quiet ra)) (Rt X.K Z.quiet g) (Rs X.K Z.quiet b)) := ps_for hp hc (pi_keys he) hg hb hs
  refine PS.imp (PS.or (ps_lock F) F) fun D σ H ⟨m, L, h, ρ, S, A⟩ => ?_
  unfold sForK at A
  rcases pu ρ L h with ⟨x, ex⟩ | ex
  rotate_left 1
  · rw [ex] at A
    exact False.elim A
  rw [ex L, R.toS_ok] at A
  split at A
  rotate_left 1
  · exact False.elim A
  rename_i k xs ek
  -- the dict
  have hx : ∃ ob, x = .ref k ∧ h[k]? = some ob ∧ ob.isDic = true := by
    cases x <;> simp [keysAt] at ek
    rename_i n
    split at ek
    · rename_i kvs e1
      cases ek
      exact ⟨_, rfl, e1, rfl⟩
    · rename_i kvs e1
      cases ek
      exact ⟨_, rfl, e1, rfl⟩
    · cases ek
  obtain ⟨ob, rfl, hob, hdic⟩ := hx
  obtain ⟨a, ha⟩ := S.rh.adr hob
  by_cases nl : k ∈ L
  · -- locked already
    refine .inr ?_
    obtain ⟨u, q, i1, i2⟩ := S.rh.at_ k ob a hob ha
    obtain ⟨_, od, hu⟩ := i1 nl
    refine ⟨m, L, h, ρ, ⟨S.rh, S.rs, S.iv, S.lk, S.jv⟩, ?_⟩
    rw [ex L]
    intro m1 H1 v l p r qv
    have hu1 : H1 a = some (.frz od u) := p.frz _ _ _ hu
    have ev : v = .ref a := by
      cases qv with
      | ref hn =>
        have := l _ _ ha
        rw [hn] at this
        cases this
        rfl
    subst ev
    have e1 : ∀ j, j ∈ L ↔ j ∈ k :: L := fun j => ⟨List.mem_cons_of_mem _, fun y => (List.mem_cons.mp y).elim (fun z => by subst z; exact nl) id⟩
    have S1 : Stt X.K Z.quiet (k :: L) m1 h ρ σ H1 := by
      have S' := S.on l p r
      exact ⟨r.same e1, S'.rs, S'.iv, fun j hj => S'.lk j ((e1 j).mpr hj), S'.jv⟩
    have A2 : AftS X.K Z.quiet.G (k :: L) m1 H1 (loopV g b xs ρ (k :: L) h) D Z.quiet.W := by
      refine aft_noExc (W := Z.W) ?_
      have A' := AftS.mono A l p
      revert A'
      generalize (loopV g b xs ρ (k :: L) h).noExc = rr
      intro A'
      cases rr with
      | nx ρ1 h1 => exact fun m' H' σ' l p r q => A' m' H' σ' l p (r.same fun j => (e1 j).symm) q
      | ret d h1 => exact fun m' H' σ' l p r q => A' m' H' σ' l p (r.same fun j => (e1 j).symm) q
      | brk ρ1 h1 => exact fun m' H' σ' l p r q => A' m' H' σ' l p (r.same fun j => (e1 j).symm) q
      | cnt ρ1 h1 => exact fun m' H' σ' l p r q => A' m' H' σ' l p (r.same fun j => (e1 j).symm) q
      | exc c q ρ1 h1 => exact fun m' H' σ' cls d l p r q x => A' m' H' σ' cls d l p (r.same fun j => (e1 j).symm) q x
      | bad => exact A'
    rcases src_at (G := Z.G) q hob ek hu1 with ⟨kvs, rfl, B⟩ | ⟨kvs, rfl, B⟩
    · exact ⟨a, od, rfl, .inl ⟨kvs, hu1, for_still (Z := Z.quiet) B S1 hu1 A2⟩⟩
    · exact ⟨a, od, rfl, .inr ⟨kvs, hu1, for_still (Z := Z.quiet) B S1 hu1 A2⟩⟩
  · refine .inl ?_
    obtain ⟨u, q, i1, i2⟩ := S.rh.at_ k ob a hob ha
    have hu := i2 nl
    have hdo := q.dicO hdic
    refine ⟨a, u, hu, ?_, fun od => ?_⟩
    · cases u <;> first | exact True.intro | exact hdo
    obtain ⟨rL, pL, _⟩ := S.rh.lock (od := od) hob ha hdic hu nl
    have SL : Stt X.K Z.quiet (k :: L) m h ρ σ (upd H a (.frz od u)) := ⟨rL, S.rs.mono pL (Le.refl _), Z.keep S.iv (Le.refl _) pL, fun j hj => by
      rcases List.mem_cons.mp hj with z | z
      · subst z
        exact (List.getElem?_eq_some_iff.mp hob).1
      · exact S.lk j z, S.jv⟩
    refine ⟨m, k :: L, h, ρ, SL, ?_⟩
    rw [ex (k :: L)]
    intro m1 H1 v l p r qv
    have hu1 : H1 a = some (.frz od u) := p.frz _ _ _ upd_same
    have ev : v = .ref a := by
      cases qv with
      | ref hn =>
        have := l _ _ ha
        rw [hn] at this
        cases this
        rfl
    subst ev
    have S1 : Stt X.K Z.quiet (k :: L) m1 h ρ σ H1 := SL.on l p r
    have A2 : AftS X.K Z.quiet.G (k :: L) m1 H1 (loopV g b xs ρ (k :: L) h) ⟨fun σ' H' => H' a = some (.frz od u) ∧ D.nx σ' (upd H' a u), fun v H' => H' a = some (.frz od u) ∧ D.rt v (upd H' a u), fun σ' H' => H' a = some (.frz od u) ∧ D.bk σ' (upd H' a u), fun σ' H' => H' a = some (.frz od u) ∧ D.ct σ' (upd H' a u)⟩ Z.quiet.W := by
      refine aft_noExc (W := Z.W) ?_
      revert A
      generalize hrr : (loopV g b xs ρ (k :: L) h).noExc = rr
      intro A
      have fin : ∀ {m' h' H'}, Le m1 m' → Pers X.K H1 H' → RH X.K Z.G (k :: L) m' h' H' → H' a = some (.frz od u) ∧ Le m m' ∧ Pers X.K H (upd H' a u) ∧ RH X.K Z.G L m' h' (upd H' a u) ∧ PersD X.K H' (upd H' a u) := by
        intro m' h' H' l' p' r'
        have hH := p'.frz _ _ _ hu1
        exact ⟨hH, l.trans l', Pers.unlock hu hdo rfl pL (p.trans p'), r'.unlock (l' _ _ (l _ _ ha)) hH hdo nl, PersD.unlock hH hdo⟩
      cases rr with
      | nx ρ1 h1 =>
        intro m' H' σ' l' p' r' q'
        obtain ⟨f1, f2, f3, f4, f5⟩ := fin l' p' r'
        exact ⟨f1, A m' _ σ' f2 f3 f4 (q'.monoD f5 (Le.refl _))⟩
      | ret d h1 =>
        intro m' H' v' l' p' r' q'
        obtain ⟨f1, f2, f3, f4, f5⟩ := fin l' p' r'
        exact ⟨f1, A m' _ v' f2 f3 f4 (q'.monoD f5 (Le.refl _))⟩
      | brk ρ1 h1 =>
        intro m' H' σ' l' p' r' q'
        obtain ⟨f1, f2, f3, f4, f5⟩ := fin l' p' r'
        exact ⟨f1, A m' _ σ' f2 f3 f4 (q'.monoD f5 (Le.refl _))⟩
      | cnt ρ1 h1 =>
        intro m' H' σ' l' p' r' q'
        obtain ⟨f1, f2, f3, f4, f5⟩ := fin l' p' r'
        exact ⟨f1, A m' _ σ' f2 f3 f4 (q'.monoD f5 (Le.refl _))⟩
      | exc c q ρ1 h1 => exact absurd hrr noExc_ne
      | bad => exact A
    rcases src_at (G := Z.G) q hob ek hu1 with ⟨kvs, rfl, B⟩ | ⟨kvs, rfl, B⟩
    · exact ⟨a, od, rfl, .inl ⟨kvs, hu1, for_still (Z := Z.quiet) B S1 hu1 A2⟩⟩
    · exact ⟨a, od, rfl, .inr ⟨kvs, hu1, for_still (Z := Z.quiet) B S1 hu1 A2⟩⟩
end
end Mi
end
section
set_option maxHeartbeats 1000000
namespace Mi
open PySem PySem.Spec PyProof.Rows L2
theorem wipe_getN {σ : L2.St} : ∀ {vs : List Nat} {i : Nat}, i ∈ vs → (wipe σ vs)[i]? = none ∨ (wipe σ vs)[i]? = some none
  | v :: vs, i, h => by
    show ((wipe σ vs).set v none)[i]? = none ∨ ((wipe σ vs).set v none)[i]? = some none
    by_cases e : v = i
    · subst e
      by_cases hl : v < (wipe σ vs).length
      · exact .inr (List.getElem?_set_self hl)
      · exact .inl (List.getElem?_eq_none_iff.mpr (by rw [List.length_set]; omega))
    · rw [List.getElem?_set_ne e]
      exact wipe_getN ((List.mem_cons.mp h).resolve_left (fun z => e z.symm))
theorem wipe_ext {σ σ' : L2.St} {vs : List Nat} (hl : σ.length = σ'.length) (h : ∀ i, i ∉ vs → σ[i]? = σ'[i]?) : wipe σ vs = wipe σ' vs := by
  refine List.ext_getElem? fun i => ?_
  by_cases hi : i ∈ vs
  · have l1 : (wipe σ vs).length = (wipe σ' vs).length := by rw [wipe_length, wipe_length, hl]
    by_cases hb : i < (wipe σ vs).length
    · have a1 := wipe_getN (σ := σ) hi
      have a2 := wipe_getN (σ := σ') hi
      have n1 : (wipe σ vs)[i]? ≠ none := fun z => by rw [List.getElem?_eq_none_iff] at z; omega
      have n2 : (wipe σ' vs)[i]? ≠ none := fun z => by rw [List.getElem?_eq_none_iff] at z; omega
      rw [a1.resolve_left n1, a2.resolve_left n2]
    · rw [List.getElem?_eq_none_iff.mpr (by omega), List.getElem?_eq_none_iff.mpr (by omega)]
  · rw [wipe_out hi, wipe_out hi, h i hi]
theorem wipe_set {σ : L2.St} {vs : List Nat} {i : Nat} {x : Option V} (h : i ∈ vs) : wipe (σ.set i x) vs = wipe σ vs :=
  wipe_ext (List.length_set ..) fun j hj => List.getElem?_set_ne fun e => hj (by subst e; exact h)
theorem wipe_wipe {σ : L2.St} {vs : List Nat} : wipe (wipe σ vs) vs = wipe σ vs :=
  wipe_ext (wipe_length ..) fun j hj => wipe_out hj
theorem RS.wipe {K : PySem.W.Frag} {H : Hp} {m : List Addr} {ρ : Rho} {σ : L2.St} (r : RS K H m ρ σ) : ∀ own : List Nat, RS K H m (wipeR ρ own) (L2.wipe σ own)
  | [] => r
  | v :: vs => (RS.wipe r vs).del v none
/-- a comprehension's target: it stores its own names alone -/
def GtOk (K : PySem.W.Frag) (own : List Nat) (g : GX) (t : TG) : Prop := ∀ (G : Gx) (L : List Nat) (m : List Addr) (h h1 : Hh) (ρ ρ1 : Rho) (σ : L2.St) (H : Hp) (d : D) (v : V), RS K H m ρ σ → RD K H m d v → g d ρ L h = .ok ρ1 h1 →
  h1 = h ∧ ∃ σ1, RS K H m ρ1 σ1 ∧ wipe σ1 own = wipe σ own ∧ ∀ Q : L2.St → Hp → Prop, Q σ1 H → t v σ H Q
theorem gt_name {K : PySem.W.Frag} {own : List Nat} {i : Nat} (h : i ∈ own) : GtOk K own (gVar i) (gName i) := by
  intro G L m h0 h1 ρ ρ1 σ H d v r q e
  cases e
  exact ⟨rfl, _, r.set i q, wipe_set h, fun Q z => z⟩
section
variable {K : PySem.W.Frag} {Z : Zx K} [NoJ Z] {own : List Nat} {g : GX} {gt : TG} {tx : TX} {te : EX} {L : List Nat} {n : Nat} {E : Addr}
theorem aft_noExcR {α β : Type} {Rel : Rl α β} {G : Gx} {m : List Addr} {H : Hp} {r : R α} {Q : β → Hp → Prop} {E E' : XK} (A : Aft K Rel G L m H r.noExc Q E) : Aft K Rel G L m H r Q E' := by
  cases r <;> first | exact A | exact False.elim A
/-- one turn of a comprehension -/
theorem comp_turn {m : List Addr} {h : Hh} {ρ : Rho} {σ : L2.St} {H : Hp} {d : D} {v : V} {go : Hh → R D} {Q : VK} {Nx : Hp → Prop} (GO : GtOk K own g gt) (S : Stt K Z.quiet L m h ρ (wipe σ own) H) (nl : n ∉ L) (hn : m[n]? = some E) (q : RD K H m d v)
    (A : Aft K (rD K) Z.G L m H ((g d ρ L h).noExc.bind fun ρ1 h1 => (tx ρ1 L h1).bind fun b h2 => if b then (te ρ1 L h2).bind fun y h3 => (match h3[n]? with
      | some (.lst acc) => if acc.length < sizeLine then go (h3.set n (.lst (acc ++ [y]))) else .bad
      | _ => .bad)
    else go h2) Q (fun _ _ _ => False))
    (hN : ∀ m1 h1 H1, Stt K Z.quiet L m1 h1 ρ (wipe σ own) H1 → Le m m1 → Pers K H H1 → Aft K (rD K) Z.G L m1 H1 (go h1) Q (fun _ _ _ => False) → Nx H1) :
    gt v (wipe σ own) H fun σ2 H2 => wipe σ2 own = wipe σ own ∧ Rg K (rE Bool) Z.quiet tx σ2 H2 fun b H3 => if b = true then Rg K (rD K) Z.quiet te σ2 H3 fun y H4 => ∃ acc, H4 E = some (.lst acc) ∧ acc.length < sizeLine ∧ Nx (upd H4 E (.lst (acc ++ [y]))) else Nx H3 := by
  cases eg : g d ρ L h with
  | exc c p h1 => rw [eg] at A; exact False.elim A
  | bad => rw [eg] at A; exact False.elim A
  | ok ρ1 h1 =>
    rw [eg, R.noExc_ok, R.bind_ok] at A
    obtain ⟨rfl, σ1, r1, w1, k1⟩ := GO Z.G L m h h1 ρ ρ1 _ H d v S.rs q eg
    refine k1 _ ⟨w1.trans wipe_wipe, ?_⟩
    have S1 : Stt K Z.quiet L m h1 ρ1 σ1 H := S.set r1
    refine Rg.bind (RC := rD K) (Z := Z.quiet) S1 A fun m2 h2 H2 b b' S2 l2 p2 q2 A2 => ?_
    obtain rfl : b = b' := q2
    have back : ∀ {m' h' H'}, Stt K Z.quiet L m' h' ρ1 σ1 H' → Le m m' → Pers K H H' → Stt K Z.quiet L m' h' ρ (wipe σ own) H' := fun S' l p => S'.set (S.rs.mono p l)
    cases b with
    | false => exact iteF (hN m2 h2 H2 (back S2 l2 p2) l2 p2 A2)
    | true =>
      refine iteT ?_
      refine Rg.bind (RC := rD K) (Z := Z.quiet) S2 A2 fun m3 h3 H3 y u S3 l3 p3 q3 A3 => ?_
      split at A3
      · rename_i acc ea
        split at A3
        · rename_i hl
          have hn3 : m3[n]? = some E := l3 _ _ (l2 _ _ hn)
          obtain ⟨vs, hv, t⟩ := S3.rh.lstH hn3 ea
          obtain ⟨r4, p4⟩ := S3.rh.put ea hn3 nl (o' := .lst (acc ++ [y])) (u' := .lst (vs ++ [u])) (RDs.snoc t q3)
          refine ⟨vs, hv, by rw [← t.length]; exact hl, ?_⟩
          have l03 := l2.trans l3
          have p03 := p2.trans p3
          exact hN m3 _ _ ((back S3 l03 p03).on (Le.refl _) p4 r4) l03 (p03.trans p4) (Aft.mono A3 (Le.refl _) p4)
        · exact False.elim A3
      · exact False.elim A3
/-- what a comprehension asks behind its first store -/
def LcAll (J : It) (E : Addr) (H1 : Hp) (g : TG) (tt : TT) (te : TE) (vs : List Nat) (σ : L2.St) (Q : VK) : Prop := ∃ W : Nat → Nat → Hp → Prop, (∃ m, W 0 m (upd H1 E (.lst []))) ∧ ∀ i m H, W i m H →
  (J.stop i H ∧ Q (.ref E) H) ∨ (J.go i H ∧ ∃ Nx : Hp → Prop, (∀ H', Nx H' → ∃ m', m' < m ∧ W (i + 1) m' H') ∧ ∀ x H', J.yld i H x H' → g x (wipe σ vs) H' fun σ2 H2 => wipe σ2 vs = wipe σ vs ∧ tt σ2 H2 fun b H3 =>
    if b = true then te σ2 H3 fun y H4 => ∃ acc, H4 E = some (.lst acc) ∧ acc.length < sizeLine ∧ Nx (upd H4 E (.lst (acc ++ [y]))) else Nx H3)
theorem comp_start {m : List Addr} {h : Hh} {ρ : Rho} {σ : L2.St} {H : Hp} (S : Stt K Z L m h ρ σ H) (hE : H E = none) : Stt K Z.quiet L (m ++ [E]) (h ++ [.lst []]) (wipeR ρ own) (wipe σ own) (upd H E (.lst [])) ∧ h.length ∉ L ∧ (m ++ [E])[h.length]? = some E ∧ Pers K H (upd H E (.lst [])) := by
  have r := S.rh.new hE (o := .lst []) (u := .lst []) (show RDs _ _ _ [] [] from .nil) S.lk
  have p : Pers K H (upd H E (.lst [])) := pers_new hE
  have S1 := S.on (Le.app m [E]) p r
  exact ⟨⟨r, S1.rs.wipe own, S1.iv, S1.lk, fun p e => by rw [NoJ.h] at e; cases e⟩, fun z => Nat.lt_irrefl _ (S.lk _ z), by rw [← S.rh.len]; simp, p⟩
theorem comp_still {J : It} {xs : List D} {P : List Addr → Hp → Prop} (B : Src K Z.G J xs P) (GO : GtOk K own g gt) {m : List Addr} {h : Hh} {ρ : Rho} {σ : L2.St} {H : Hp} {Q : VK} {W0 : XK} (S : Stt K Z L m h ρ σ H) (hP : P m H)
    (A : Aft K (rD K) Z.G L m H (compV g tx te h.length xs (wipeR ρ own) L (h ++ [.lst []])).noExc Q W0) (hE : H E = none) :
    LcAll J E H gt (Rg K (rE Bool) Z.quiet tx) (Rg K (rD K) Z.quiet te) own σ Q := by
  obtain ⟨S0, nl, hn, p0⟩ := comp_start (own := own) S hE
  have A0 : Aft K (rD K) Z.G L (m ++ [E]) (upd H E (.lst [])) (compV g tx te h.length xs (wipeR ρ own) L (h ++ [.lst []])) Q (fun _ _ _ => False) := aft_noExcR (Aft.mono A (Le.app _ _) p0)
  have hP0 := B.mono hP (Le.app m [E]) p0
  refine ⟨fun i k H => k = xs.length - i ∧ i ≤ xs.length ∧ ∃ m1 h1, Stt K Z.quiet L m1 h1 (wipeR ρ own) (wipe σ own) H ∧ m1[h.length]? = some E ∧ P m1 H ∧ Aft K (rD K) Z.G L m1 H (compV g tx te h.length (xs.drop i) (wipeR ρ own) L h1) Q (fun _ _ _ => False),
    ⟨_, rfl, Nat.zero_le _, _, _, S0, hn, hP0, A0⟩, ?_⟩
  rintro i k H1 ⟨rfl, hi, m1, h1, S1, hn1, hP1, A1⟩
  by_cases e : i = xs.length
  · subst e
    rw [List.drop_length] at A1
    exact .inl ⟨B.stop hP1 (Nat.le_refl _), AftB.ok S1.rh A1 (.ref hn1)⟩
  · have hlt : i < xs.length := by omega
    rw [List.drop_eq_getElem_cons hlt] at A1
    refine .inr ⟨B.go hP1 hlt, fun H' => xs.length - (i + 1) = xs.length - (i + 1) ∧ i + 1 ≤ xs.length ∧ ∃ m1 h1, Stt K Z.quiet L m1 h1 (wipeR ρ own) (wipe σ own) H' ∧ m1[h.length]? = some E ∧ P m1 H' ∧ Aft K (rD K) Z.G L m1 H' (compV g tx te h.length (xs.drop (i + 1)) (wipeR ρ own) L h1) Q (fun _ _ _ => False), fun H' z => ⟨_, by omega, z⟩, fun x H' y => ?_⟩
    obtain ⟨p1, r1, q1⟩ := B.yld hP1 (List.getElem?_eq_getElem hlt) y
    have S2 : Stt K Z.quiet L m1 h1 (wipeR ρ own) (wipe σ own) H' := S1.on (Le.refl _) p1 (r1 _ _ S1.rh)
    exact comp_turn (go := fun h => compV g tx te _ (xs.drop (i + 1)) (wipeR ρ own) L h) GO S2 nl hn1 q1 (Aft.mono A1 (Le.refl _) p1) fun m3 h3 H3 S3 l3 p3 A3 => ⟨rfl, hlt, m3, h3, S3, l3 _ _ hn1, B.mono hP1 l3 (p1.trans p3), A3⟩
theorem comp_live {kk : Nat} {a : Addr} {f : Nat} (GO : GtOk K own g gt) {m : List Addr} {h : Hh} {ρ : Rho} {σ : L2.St} {H : Hp} {Q : VK} {W0 : XK} (S : Stt K Z L m h ρ σ H) (ha : m[kk]? = some a)
    (A : Aft K (rD K) Z.G L m H (compL g tx te h.length kk f 0 (wipeR ρ own) L (h ++ [.lst []])).noExc Q W0) (hE : H E = none) :
    LcAll (Itl K a) E H gt (Rg K (rE Bool) Z.quiet tx) (Rg K (rD K) Z.quiet te) own σ Q := by
  obtain ⟨S0, nl, hn, p0⟩ := comp_start (own := own) S hE
  have A0 : Aft K (rD K) Z.G L (m ++ [E]) (upd H E (.lst [])) (compL g tx te h.length kk f 0 (wipeR ρ own) L (h ++ [.lst []])) Q (fun _ _ _ => False) := aft_noExcR (Aft.mono A (Le.app _ _) p0)
  refine ⟨fun i k H => ∃ m1 h1, Stt K Z.quiet L m1 h1 (wipeR ρ own) (wipe σ own) H ∧ m1[h.length]? = some E ∧ m1[kk]? = some a ∧ Aft K (rD K) Z.G L m1 H (compL g tx te h.length kk k i (wipeR ρ own) L h1) Q (fun _ _ _ => False),
    ⟨f, _, _, S0, hn, Le.app _ _ _ _ ha, A0⟩, ?_⟩
  rintro i k H1 ⟨m1, h1, S1, hn1, ha1, A1⟩
  cases k with
  | zero => exact False.elim A1
  | succ k =>
    simp only [compL] at A1
    split at A1
    · rename_i xs ex
      obtain ⟨vs, hv, t⟩ := S1.rh.lstH ha1 ex
      split at A1
      · rename_i e
        exact .inl ⟨⟨vs, .of hv, List.getElem?_eq_none_iff.mp (t.none_of e)⟩, AftB.ok S1.rh A1 (.ref hn1)⟩
      · rename_i x e
        obtain ⟨v, hv1, q⟩ := t.get e
        refine .inr ⟨⟨vs, v, .of hv, hv1⟩, fun H' => ∃ m1 h1, Stt K Z.quiet L m1 h1 (wipeR ρ own) (wipe σ own) H' ∧ m1[h.length]? = some E ∧ m1[kk]? = some a ∧ Aft K (rD K) Z.G L m1 H' (compL g tx te h.length kk k (i + 1) (wipeR ρ own) L h1) Q (fun _ _ _ => False), fun H' z => ⟨k, Nat.lt_succ_self _, z⟩, fun x' H' y => ?_⟩
        obtain ⟨rfl, y⟩ := y
        have ex' : x' = v := by
          have := y vs (.of hv)
          rw [hv1] at this
          exact (Option.some.inj this).symm
        subst ex'
        exact comp_turn (go := fun h => compL g tx te _ kk k (i + 1) (wipeR ρ own) L h) GO S1 nl hn1 q A1 fun m3 h3 H3 S3 l3 p3 A3 => ⟨m3, h3, S3, l3 _ _ hn1, l3 _ _ ha1, A3⟩
    · exact False.elim A1
end
end Mi
end
section
set_option maxHeartbeats 1000000
namespace Mi
open PySem PySem.Spec PyProof.Rows L2
theorem PI.or {X : Cx} {tg it : Expr} {w1 w2 : TI} (h1 : PI X tg it w1) (h2 : PI X tg it w2) : PI X tg it (fun σ H R => w1 σ H R ∨ w2 σ H R) :=
  ⟨fun pins s σ H R I q => q.elim (h1.run pins s σ H R I) (h2.run pins s σ H R I)⟩
def iSeq (K : PySem.W.Frag) (t : TE) : TI := fun σ H R => iList K t σ H R ∨ (iTup K t σ H R ∨ iStr t σ H R)
theorem pi_seq {X : Cx} {tg e : Expr} {t : TE} (h : PE X e t) : PI X tg e (iSeq X.K t) := PI.or (pi_list h) (PI.or (pi_tup h) (pi_str h))
section
variable {K : PySem.W.Frag} {Z : Zx K} [NoJ Z] {own : List Nat} {g : GX} {gt : TG} {tx : TX} {te ra : EX} {rs : AX}
theorem comp_rd (GO : GtOk K own g gt) {σ : L2.St} {H : Hp} {Q : VK} (h : Rg K (rD K) Z (eComp own ra g tx te) σ H Q) : tLc (iSeq K (Rg K (rD K) Z ra)) gt (Rg K (rE Bool) Z.quiet tx) (Rg K (rD K) Z.quiet te) own σ H Q := by
  obtain ⟨m, L, h, ρ, S, A⟩ := h
  by_cases hd : ∃ xs h1, ra ρ L h = .ok (.tup xs) h1
  · refine .inr (.inl ?_)
    obtain ⟨xs, h1, e1⟩ := hd
    refine Rg.bindE (RC := rD K) S A fun m1 h1' H1 x v f1 S1 l1 p1 q1 A1 => ?_
    rw [e1] at f1
    cases f1
    cases q1 with
    | tup hh t => exact ⟨_, rfl, ⟨_, hh.t⟩, fun E hE => comp_still src_tup GO S1 ⟨hh, t⟩ A1 hE⟩
  · by_cases hd2 : ∃ z h1, ra ρ L h = .ok (.str z) h1
    · refine .inr (.inr ?_)
      obtain ⟨z, h1, e1⟩ := hd2
      refine Rg.bindE (RC := rD K) S A fun m1 h1' H1 x v f1 S1 l1 p1 q1 A1 => ?_
      rw [e1] at f1
      cases f1
      cases q1
      exact ⟨_, rfl, fun E hE => comp_still src_str GO S1 trivial A1 hE⟩
    · refine .inl ?_
      refine Rg.bindE (RC := rD K) S A fun m1 h1 H1 x v f1 S1 l1 p1 q1 A1 => ?_
      cases q1 with
      | tup hh t => exact absurd ⟨_, _, f1⟩ hd
      | str z => exact absurd ⟨_, _, f1⟩ hd2
      | frl hh t => exact ⟨_, rfl, ⟨_, hh.l⟩, fun E hE => comp_still src_frl GO S1 ⟨hh, t⟩ A1 hE⟩
      | ref hn =>
        rename_i n a
        refine ⟨a, rfl, ?_, fun E hE => comp_live GO S1 hn A1 hE⟩
        have A2 : Aft K (rD K) Z.G L m1 H1 (compL g tx te h1.length n fuel 0 (wipeR ρ own) L (h1 ++ [.lst []])).noExc Q (wS Z.W σ) := A1
        have ef : fuel = 99999 + 1 := rfl
        rw [ef, compL] at A2
        dsimp only at A2
        split at A2
        · rename_i xs ex
          have hl : n < h1.length := by
            rw [← S1.rh.len]
            exact (List.getElem?_eq_some_iff.mp hn).1
          rw [List.getElem?_append_left hl] at ex
          obtain ⟨vs, hv, t⟩ := S1.rh.lstH hn ex
          exact ⟨vs, .of hv⟩
        · exact False.elim A2
      | _ => exact False.elim A1
theorem comp_rdR1 (GO : GtOk K own g gt) {σ : L2.St} {H : Hp} {Q : VK} (h : Rg K (rD K) Z (eCompR rng1 own rs g tx te) σ H Q) : tLc (iRng1 (Rg K (rDs K) Z rs)) gt (Rg K (rE Bool) Z.quiet tx) (Rg K (rD K) Z.quiet te) own σ H Q := by
  obtain ⟨m, L, h, ρ, S, A⟩ := h
  refine Rg.bind (RC := rD K) S A fun m1 h1 H1 x v S1 l1 p1 q1 A1 => ?_
  split at A1
  · rename_i ys e
    obtain ⟨j, rfl, b1, b2, B⟩ := rng1_ok (G := Z.G) q1 e
    exact ⟨j, rfl, b1, b2, fun E hE => comp_still B GO S1 trivial A1 hE⟩
  · exact False.elim A1
end
section
variable {X : Cx} {Z : Zx X.K} [NoJ Z] {elt tg iter a1 a2 : Expr} {ifs : List Expr} {scope : Scope} {own : List (Str × Nat)} {pos spos p pc py : Pos} {g : GX} {gt : TG} {tx : TX} {te ra : EX} {rs : AX} {i : Nat} {y : Str}
theorem mts_nil {X : Cx} {K : PySem.W.Frag} {Z : Zx K} : PTs X [] (Rg K (rE Bool) Z tYesX) := by
  refine ⟨fun pins s σ H Q I ⟨m, L, h, ρ, S, A⟩ => pts_nil.run pins s σ H Q I ?_⟩
  exact Aft.ok (RA := rE Bool) S A rfl
/-- the block's parts: the target, the tests, the element -/
structure BlkP (X : Cx) (K : PySem.W.Frag) (Z : Zx K) (scope : Scope) (tg : Expr) (gt : TG) (ifs : List Expr) (tx : TX) (elt : Expr) (te : EX) : Prop where
  g : ∀ (s : Shared) (H : Hp) (C : Addr) (cl : List (Str × Addr)) (fp : List Addr), PG (X.blk s H scope (compEnvC scope cl C X.env) fp) tg gt
  t : ∀ (s : Shared) (H : Hp) (C : Addr) (cl : List (Str × Addr)) (fp : List Addr), PTs (X.blk s H scope (compEnvC scope cl C X.env) fp) ifs (Rg K (rE Bool) Z tx)
  e : ∀ (s : Shared) (H : Hp) (C : Addr) (cl : List (Str × Addr)) (fp : List Addr), PE (X.blk s H scope (compEnvC scope cl C X.env) fp) elt (Rg K (rD K) Z te)
theorem me_comp (hc : X.calm = true) (hN : X.N.Nodup) (he : ME X Z iter ra) (ok : BlkOk X.N X.env.scope scope own) (GO : GtOk X.K (own.map (·.2)) g gt) (B : BlkP X X.K Z.quiet scope tg gt ifs tx elt te) (hs : ∀ x, foldedSetIterable iter X.env x = pure x := by intro _; rfl) :
    ME X Z (.ListComp elt [⟨tg, iter, ifs, 0⟩] scope pos) (eComp (own.map (·.2)) ra g tx te) :=
  PE.imp (pe_lc hc hN (pi_seq he) ok B.g B.t B.e hs) fun σ H Q h => comp_rd GO h
theorem me_compR1 (hc : X.calm = true) (hN : X.N.Nodup) (hgl : Gl X "range") (hm : X.mg "range" = none) (ha : MA X Z [a1] rs) (ok : BlkOk X.N X.env.scope scope own) (GO : GtOk X.K (own.map (·.2)) g gt) (B : BlkP X X.K Z.quiet scope tg gt ifs tx elt te)
    (hq : starEach [a1] X.env = [(false, eval a1 X.env)] := by rfl) (hs : ∀ x, foldedSetIterable (.Call (.Name "range" p) [a1] [] pc) X.env x = pure x := by intro _; rfl) :
    ME X Z (.ListComp elt [⟨tg, .Call (.Name "range" p) [a1] [] pc, ifs, 0⟩] scope pos) (eCompR rng1 (own.map (·.2)) rs g tx te) :=
  PE.imp (pe_lc hc hN (pi_range1 hgl hm ha hq) ok B.g B.t B.e hs) fun σ H Q h => comp_rdR1 GO h
end
end Mi
end
section
set_option maxHeartbeats 1000000
namespace Mi
open PySem PySem.Spec PyProof.Rows L2
section
variable {K : PySem.W.Frag}
theorem rds1 {H : Hp} {m : List Addr} {x : D} {vs : List V} (r : RDs K H m [x] vs) : ∃ v, vs = [v] ∧ RD K H m x v := by
  cases r with
  | cons q t => cases t; exact ⟨_, rfl, q⟩
def rLenX (K : PySem.W.Frag) : List V → Hp → VK → Prop := fun xs H Q => (∃ x n, xs = [x] ∧ LenV K x H n ∧ Q (.int n) H) ∨ ∃ a kvs, xs = [V.ref a] ∧ Rd H a (.dK kvs) ∧ Q (.int kvs.length) H
theorem call_lenX {X : Cx} : CallR X (.builtin "len") (rLenX X.K) := by
  refine CallR.or call_len ?_
  intro pins s σ H xs us Q I r ⟨a, kvs, e, ha, q⟩
  subst e
  obtain ⟨u, rfl, ru⟩ := vals1 r
  cases ru
  exact d_len I ha fun t s' I' => ⟨.int kvs.length, _, I', show RelV (.int kvs.length) (Value.int kvs.length t) from ⟨t, rfl⟩, q⟩
theorem ok_len : OkL K fLen (rLenX K) := by
  intro G L m h H x v Q E S lk r A
  unfold fLen at A
  split at A
  · rename_i x
    obtain ⟨v, rfl, q⟩ := rds1 r
    cases q with
    | str y =>
      simp only at A
      split at A
      · rename_i hl
        exact .inl ⟨_, _, rfl, ⟨hl, rfl⟩, AftB.ok S A (.int _)⟩
      · exact False.elim A
    | tup hh t => exact .inl ⟨_, _, rfl, .inr ⟨_, hh.t, rfl⟩, by rw [← t.length]; exact AftB.ok S A (.int _)⟩
    | frl hh t => exact .inl ⟨_, _, rfl, .inl ⟨_, hh.l, rfl⟩, by rw [← t.length]; exact AftB.ok S A (.int _)⟩
    | ref hn =>
      simp only at A
      split at A
      · rename_i ys ey
        obtain ⟨vs, hv, t⟩ := S.lstH hn ey
        exact .inl ⟨_, _, rfl, .inl ⟨_, .of hv, rfl⟩, by rw [← t.length]; exact AftB.ok S A (.int _)⟩
      · rename_i kvs ek
        obtain ⟨u, q, hr⟩ := S.rd ek hn
        cases u <;> first | exact False.elim q | skip
        exact .inr ⟨_, _, rfl, hr, by rw [← RK.length q]; exact AftB.ok S A (.int _)⟩
      · exact False.elim A
    | _ => exact False.elim A
  · exact False.elim A
theorem ok_int : OkL K fInt (fun xs H Q => (∃ i, xs = [.int i] ∧ Q (.int i) H) ∨ ∃ k, xs = [.bl k] ∧ Q (.int (if k then 1 else 0)) H) := by
  intro G L m h H x v Q E S lk r A
  unfold fInt at A
  split at A
  · obtain ⟨v, rfl, q⟩ := rds1 r
    cases q
    exact .inl ⟨_, rfl, AftB.ok S A (.int _)⟩
  · obtain ⟨v, rfl, q⟩ := rds1 r
    cases q
    exact .inr ⟨_, rfl, AftB.ok S A (.int _)⟩
  · exact False.elim A
theorem keys_rds {H : Hp} {m : List Addr} : ∀ {kvs : List (Key × D)} {vs : List (Key × V)}, RK K H m kvs vs → RDs K H m (keysOf keyV kvs) (vs.map fun kv => kV kv.1)
  | _, _, .nil => .nil
  | (k, d) :: r, (k', v) :: r', .cons q t => by
    obtain ⟨rfl, _⟩ : k = k' ∧ _ := q
    refine .cons ?_ (keys_rds t)
    cases k with
    | inl i => exact .int i
    | inr x => exact .str x
theorem ok_list : OkL K fList (fun xs H Q => ∃ p ys, xs = [.ref p] ∧ (SqL K H p ys ∨ SqT K H p ys) ∧ ∀ l, H l = none → Q (.ref l) (upd H l (.lst ys))) := by
  intro G L m h H x v Q E S lk r A
  unfold fList at A
  split at A
  · rename_i x
    obtain ⟨v, rfl, q⟩ := rds1 r
    split at A
    · rename_i ys ey
      obtain ⟨a, vs, rfl, hs, t⟩ := S.seq q ey
      exact ⟨a, vs, rfl, hs, Aft.new S lk A fun p hp => RDs.mono (pers_new hp) (Le.app _ _) t⟩
    · exact False.elim A
  · exact False.elim A
theorem ok_tuple : OkL K fTuple (fun xs H Q => ∃ p ys, xs = [.ref p] ∧ ((SqL K H p ys ∧ ∀ l, H l = none → Q (.ref l) (upd H l (.tup ys))) ∨ (SqT K H p ys ∧ Q (.ref p) H))) := by
  intro G L m h H x v Q E S lk r A
  unfold fTuple at A
  split at A
  · obtain ⟨v, rfl, q⟩ := rds1 r
    cases q with
    | tup hh t => exact ⟨_, _, rfl, .inr ⟨hh.t, AftB.ok S A (.tup hh t)⟩⟩
  · rename_i x _
    obtain ⟨v, rfl, q⟩ := rds1 r
    split at A
    · rename_i ys ey
      obtain ⟨a, vs, rfl, hs, t⟩ := S.lst q ey
      exact ⟨a, vs, rfl, .inl ⟨hs, Aft.newT S A t⟩⟩
    · exact False.elim A
  · exact False.elim A
theorem ok_min2 : OkL K fMin2 (fun xs H Q => ∃ i j, xs = [.int i, .int j] ∧ Q (.int (if j < i then j else i)) H) := by
  intro G L m h H x v Q E S lk r A
  unfold fMin2 at A
  split at A
  · cases r with
    | cons q1 t => cases t with
      | cons q2 t => cases t; cases q1; cases q2; exact ⟨_, _, rfl, AftB.ok S A (.int _)⟩
  · exact False.elim A
theorem intsD_ok {H : Hp} {m : List Addr} : ∀ {xs : List D} {vs : List V} {ns : List Int}, RDs K H m xs vs → intsD xs = some ns → vs = ns.map V.int
  | _, _, _, .nil, e => by cases e; rfl
  | d :: ds, _, ns, .cons q t, e => by
    cases q <;> simp [intsD] at e
    obtain ⟨r, e1, rfl⟩ := e
    rw [intsD_ok t e1]; rfl
theorem blsD_ok {H : Hp} {m : List Addr} : ∀ {xs : List D} {vs : List V} {ns : List Bool}, RDs K H m xs vs → blsD xs = some ns → vs = ns.map V.bl
  | _, _, _, .nil, e => by cases e; rfl
  | d :: ds, _, ns, .cons q t, e => by
    cases q <;> simp [blsD] at e
    obtain ⟨r, e1, rfl⟩ := e
    rw [blsD_ok t e1]; rfl
theorem strsD_ok {H : Hp} {m : List Addr} : ∀ {xs : List D} {vs : List V} {ns : List Str}, RDs K H m xs vs → strsD xs = some ns → vs = ns.map V.str
  | _, _, _, .nil, e => by cases e; rfl
  | d :: ds, _, ns, .cons q t, e => by
    cases q <;> simp [strsD] at e
    obtain ⟨r, e1, rfl⟩ := e
    rw [strsD_ok t e1]; rfl
theorem strs_rds {H : Hp} {m : List Addr} : ∀ ss : List Str, RDs K H m (ss.map D.str) (ss.map V.str)
  | [] => .nil
  | s :: r => .cons (.str s) (strs_rds r)
theorem ok_sum : OkL K fSum (rSum K) := by
  intro G L m h H x v Q E S lk r A
  unfold fSum at A
  split at A
  · obtain ⟨v, rfl, q⟩ := rds1 r
    split at A
    · rename_i ns e
      rw [Option.bind_eq_some_iff] at e
      obtain ⟨ys, e1, e2⟩ := e
      obtain ⟨a, vs, rfl, hs, t⟩ := S.lst q e1
      exact ⟨a, ns, rfl, by rw [← intsD_ok t e2]; exact hs, AftB.ok S A (.int _)⟩
    · exact False.elim A
  · exact False.elim A
theorem ok_all : OkL K fAll (rAll K) := by
  intro G L m h H x v Q E S lk r A
  unfold fAll at A
  split at A
  · obtain ⟨v, rfl, q⟩ := rds1 r
    split at A
    · rename_i ns e
      rw [Option.bind_eq_some_iff] at e
      obtain ⟨ys, e1, e2⟩ := e
      obtain ⟨a, vs, rfl, hs, t⟩ := S.lst q e1
      exact ⟨a, ns, rfl, by rw [← blsD_ok t e2]; exact hs, AftB.ok S A (.bl _)⟩
    · exact False.elim A
  · exact False.elim A
theorem ltCps_irrefl : ∀ l : List Nat, ltCps l l = false
  | [] => rfl
  | a :: r => by simp [ltCps, ltCps_irrefl r]
theorem ltCps_trans : ∀ {a b c : List Nat}, ltCps a b = true → ltCps b c = true → ltCps a c = true
  | [], [], _, h, _ => by simp [ltCps] at h
  | [], _ :: _, [], _, h => by simp [ltCps] at h
  | [], _ :: _, _ :: _, _, _ => rfl
  | _ :: _, [], _, h, _ => by simp [ltCps] at h
  | _ :: _, _ :: _, [], _, h => by simp [ltCps] at h
  | a :: r, b :: s, c :: t, h1, h2 => by
    simp only [ltCps, Bool.or_eq_true, decide_eq_true_eq, Bool.and_eq_true, beq_iff_eq] at h1 h2 ⊢
    rcases h1 with h1 | ⟨rfl, h1⟩
    · rcases h2 with h2 | ⟨rfl, h2⟩
      · exact .inl (by omega)
      · exact .inl h1
    · rcases h2 with h2 | ⟨rfl, h2⟩
      · exact .inl h2
      · exact .inr ⟨rfl, ltCps_trans h1 h2⟩
theorem ltCps_total : ∀ {a b : List Nat}, ltCps a b = false → ltCps b a = false → a = b
  | [], [], _, _ => rfl
  | [], _ :: _, h, _ => by simp [ltCps] at h
  | _ :: _, [], _, h => by simp [ltCps] at h
  | a :: r, b :: s, h1, h2 => by
    simp only [ltCps, Bool.or_eq_false_iff, decide_eq_false_iff_not, Bool.and_eq_false_iff, beq_eq_false_iff_ne] at h1 h2
    have e : a = b := by omega
    subst e
    have e2 : r = s := ltCps_total (h1.2.resolve_left (fun z => z rfl)) (h2.2.resolve_left (fun z => z rfl))
    rw [e2]
theorem leS_trans {a b c : Str} (h1 : leS a b = true) (h2 : leS b c = true) : leS a c = true := by
  unfold leS at *
  rw [Bool.not_eq_true'] at *
  cases e : ltCps c.cps.toList a.cps.toList with
  | false => rfl
  | true =>
    cases e2 : ltCps a.cps.toList b.cps.toList with
    | true =>
      have := ltCps_trans e e2
      rw [h2] at this
      cases this
    | false =>
      have e3 := ltCps_total h1 e2
      rw [← e3, h2] at e
      cases e
theorem leS_total (a b : Str) : (leS a b || leS b a) = true := by
  unfold leS
  cases e : ltCps b.cps.toList a.cps.toList with
  | false => rfl
  | true =>
    cases e2 : ltCps a.cps.toList b.cps.toList with
    | false => rfl
    | true =>
      have := ltCps_trans e e2
      rw [ltCps_irrefl] at this
      cases this
theorem leS_anti {a b : Str} (h1 : leS a b = true) (h2 : leS b a = true) : a = b := by
  unfold leS at h1 h2
  rw [Bool.not_eq_true'] at h1 h2
  have e := ltCps_total h2 h1
  obtain ⟨x⟩ := a
  obtain ⟨y⟩ := b
  congr 1
  exact Array.toList_inj.mp e
theorem risingS_pw : ∀ (ys : List Str) (p : Str), risingS p ys = true → (∀ y ∈ ys, leS p y = true) ∧ ys.Pairwise fun x y => leS x y = true
  | [], _, _ => ⟨fun y hy => by simp at hy, List.Pairwise.nil⟩
  | x :: r, p, h => by
    simp only [risingS, Bool.and_eq_true] at h
    obtain ⟨h1, h2⟩ := risingS_pw r x h.2
    have hp : leS p x = true := h.1
    refine ⟨fun y hy => ?_, List.pairwise_cons.mpr ⟨h1, h2⟩⟩
    rcases List.mem_cons.mp hy with rfl | hy
    · exact hp
    · exact leS_trans hp (h1 y hy)
theorem sortedS_pw {ys : List Str} (h : sortedS ys = true) : ys.Pairwise fun x y => leS x y = true := by
  cases ys with
  | nil => exact List.Pairwise.nil
  | cons x r =>
    obtain ⟨h1, h2⟩ := risingS_pw r x h
    exact List.pairwise_cons.mpr ⟨h1, h2⟩
theorem sortS_eq {xs ys : List Str} (hp : ys.Perm xs) (hs : sortedS ys = true) : ys = sortS xs := by
  have h2 : (sortS xs).Pairwise fun x y => leS x y = true := List.pairwise_mergeSort (le := leS) (fun a b c => leS_trans) leS_total xs
  have h3 : ys.Perm (sortS xs) := hp.trans (List.mergeSort_perm xs leS).symm
  exact List.Perm.eq_of_pairwise (le := fun x y => leS x y = true) (fun a b _ _ h1 h2 => leS_anti h1 h2) (sortedS_pw hs) h2 h3
theorem ok_sortS : OkL K fSortS (rSortedS K) := by
  intro G L m h H x v Q E S lk r A
  unfold fSortS at A
  split at A
  · obtain ⟨v, rfl, q⟩ := rds1 r
    split at A
    · rename_i ss e
      rw [Option.bind_eq_some_iff] at e
      obtain ⟨ys, e1, e2⟩ := e
      obtain ⟨a, vs, rfl, hs, t⟩ := S.lst q e1
      split at A
      · rename_i hl
        refine ⟨a, ss, rfl, by rw [← strsD_ok t e2]; exact hs, hl, fun zs p hperm hsort hp => ?_⟩
        rw [sortS_eq hperm hsort]
        exact Aft.new (u := .lst ((sortS ss).map V.str)) S lk A (fun p hp => (strs_rds (sortS ss) : RDs K _ _ _ _)) p hp
      · exact False.elim A
    · exact False.elim A
  · exact False.elim A
theorem strs_keys {H : Hp} {m : List Addr} : ∀ {kvs : List (Key × D)} {vs : List (Key × V)} {ss : List Str}, RK K H m kvs vs → strsD (keysOf keyV kvs) = some ss → vs.map (·.1) = ss.map Sum.inr
  | _, _, _, .nil, e => by cases e; rfl
  | (k, d) :: r, (k', v) :: r', ss, .cons q t, e => by
    obtain ⟨rfl, _⟩ : k = k' ∧ _ := q
    cases k with
    | inl i => simp [keysOf, keyV, strsD] at e
    | inr x =>
      simp only [keysOf, List.map_cons, keyV, strsD, Option.map_eq_some_iff] at e
      obtain ⟨r2, e1, rfl⟩ := e
      rw [List.map_cons, strs_keys t e1]; rfl
def rSortK : List V → Hp → VK → Prop := fun xs H Q => ∃ (a : Addr) (kvs : List (Key × V)) (ks : List Str), xs = [.ref a] ∧ Rd H a (.dK kvs) ∧ kvs.map (·.1) = ks.map Sum.inr ∧ ks.length < 64 ∧
    ∀ ys p, ys.Perm ks → sortedS ys = true → H p = none → Q (.ref p) (upd H p (.lst (ys.map V.str)))
theorem ok_sortK : OkL K fSortK rSortK := by
  intro G L m h H x v Q E S lk r A
  unfold fSortK at A
  split at A
  · obtain ⟨v, rfl, q⟩ := rds1 r
    split at A
    · rename_i kvs ek
      cases q with
      | ref hn =>
        obtain ⟨u, q, hr⟩ := S.rd ek hn
        cases u <;> first | exact False.elim q | skip
        split at A
        · rename_i ss e
          split at A
          · rename_i hl
            refine ⟨_, _, ss, rfl, hr, strs_keys q e, hl, fun zs p hperm hsort hp => ?_⟩
            rw [sortS_eq hperm hsort]
            exact Aft.new (u := .lst ((sortS ss).map V.str)) S lk A (fun p hp => (strs_rds (sortS ss) : RDs K _ _ _ _)) p hp
          · exact False.elim A
        · exact False.elim A
    · exact False.elim A
  · exact False.elim A
end
section
variable {X : Cx} {Z : Zx X.K} {a e o : Expr} {es : List Expr} {ra rb : EX} {rs : AX} {pos p p2 apos : Pos}
theorem tyD_ok {K : PySem.W.Frag} {G : Gx} {L : List Nat} {m : List Addr} {h : Hh} {H : Hp} {x : D} {v : V} {t : String} (S : RH K G L m h H) (r : RD K H m x v) (e : tyD x h = some t) : TyX K H v (.type t) := by
  cases r with
  | non => cases e; exact .base .non
  | bl b => cases e; exact .base (.bl b)
  | int i => cases e; exact .base (.int i)
  | str x => cases e; exact .base (.str x)
  | tup hh t =>
    cases e
    rcases hh with hh | ⟨_, (hh | ⟨o, hh⟩) | ⟨o, its, n, h1, h2, _⟩⟩
    · exact .base (.tup hh)
    · exact .base (.tup hh)
    · exact .fTuple hh
    · exact .kTuple h1 h2
  | frl hh t =>
    cases e
    rcases hh with ⟨o, hh⟩ | ⟨o, its, n, h1, h2, _⟩
    · exact .base (.frz hh)
    · exact .kList h1 h2
  | ref hn =>
    simp only [tyD] at e
    split at e
    · rename_i xs ex
      cases e
      obtain ⟨vs, hv, _⟩ := S.lstH hn ex
      exact .base (.lst hv)
    · rename_i kvs ex
      cases e
      obtain ⟨u, q, hr⟩ := S.rd ex hn
      cases u <;> first | exact False.elim q | skip
      rcases hr with hr | ⟨o, hr⟩
      · exact .base (.dK hr)
      · exact .fDict hr
    · cases e
/-- the types that are asked for -/
def tyNames : List String := ["NoneType", "bool", "int", "str", "tuple", "list", "dict"]
theorem tyD_mem {x : D} {h : Hh} {t : String} (e : tyD x h = some t) : t ∈ tyNames := by
  cases x <;> simp [tyD] at e <;> first | (subst e; decide) | skip
  split at e <;> simp at e <;> subst e <;> decide
theorem isB_kit {K : PySem.W.Frag} {a b : String} (ha : a ∈ tyNames) (hb : b ∈ tyNames) : PySem.W.kitOne K (.type a) (.type b) = some (a == b || (a == "bool" && b == "int")) := by
  refine kit_ty ?_
  have all : ∀ a ∈ tyNames, ∀ b ∈ tyNames, kitB a b = some (a == b || (a == "bool" && b == "int")) := by decide +kernel
  exact all a ha b hb
/-- isinstance(x, T) -/
theorem me_isi1 {T : String} {tp : Pos} {x : Str} (hT : T ∈ tyNames) (hg : Gl X "isinstance") (hm : X.mg "isinstance" = none) (hgT : Gl X x) (hmT : X.mg x = none) (hvT : bootBuiltins x = some (.type T)) (ha : ME X Z a ra) (hnT : x ≠ "__name__" := by decide) (hdT : (x == ("__debug__" : Str)) = false := by decide)
    (hv : bootBuiltins "isinstance" = some (.builtin "isinstance") := by decide +kernel)
    (he : starEach [a, .Name x tp] X.env = (false, eval a X.env) :: starEach [.Name x tp] X.env := by rfl) (hpl : (backTo pos (starEach [.Name x tp] X.env)).any (·.1) = false := by rfl) : ME X Z (.Call (.Name "isinstance" p) [a, .Name x tp] [] pos) (eUn (uIsi [T]) ra) := by
  refine PE.imp (pe_callB (call_isi (X := X)) hg hm hv (pa_cons ha (pa_cons (pe_bltn (v := .ty T) hgT hmT hvT rfl hnT hdT) pa_nil) he) (by decide) (by decide) he hpl) fun σ H Q ⟨m, L, h, ρ, S, A⟩ => ?_
  refine Rg.bind (RC := rD X.K) S A fun m1 h1 H1 d v S1 l1 p1 q1 A1 => ?_
  unfold uIsi at A1
  split at A1
  · rename_i t e
    refine ⟨v, .ty T, _, _, _, rfl, .ty T, tyD_ok S1.rh q1 e, isB_kit (tyD_mem e) hT, ?_⟩
    have e2 : isB t [T] = (t == T || (t == "bool" && T == "int")) := by simp [isB]
    rw [← e2]
    exact Aft.ok (RA := rD X.K) S1 A1 (.bl _)
  · exact False.elim A1
/-- isinstance(x, (T, U)) -/
theorem me_isi2 {T U : String} {tp up : Pos} {x y : Str} {kk : Nat} {ttp : Pos} (hT : T ∈ tyNames) (hU : U ∈ tyNames) (hg : Gl X "isinstance") (hm : X.mg "isinstance" = none) (hgT : Gl X x) (hmT : X.mg x = none) (hvT : bootBuiltins x = some (.type T)) (hgU : Gl X y) (hmU : X.mg y = none) (hvU : bootBuiltins y = some (.type U)) (ha : ME X Z a ra)
    (hnT : x ≠ "__name__" := by decide) (hdT : (x == ("__debug__" : Str)) = false := by decide) (hnU : y ≠ "__name__" := by decide) (hdU : (y == ("__debug__" : Str)) = false := by decide)
    (hv : bootBuiltins "isinstance" = some (.builtin "isinstance") := by decide +kernel)
    (he : starEach [a, .Tuple [.Name x tp, .Name y up] kk ttp] X.env = (false, eval a X.env) :: starEach [.Tuple [.Name x tp, .Name y up] kk ttp] X.env := by rfl) (hpl : (backTo pos (starEach [.Tuple [.Name x tp, .Name y up] kk ttp] X.env)).any (·.1) = false := by rfl) :
    ME X Z (.Call (.Name "isinstance" p) [a, .Tuple [.Name x tp, .Name y up] kk ttp] [] pos) (eUn (uIsi [T, U]) ra) := by
  refine PE.imp (pe_callB (call_isiT (X := X)) hg hm hv (pa_cons ha (pa_cons (pe_tup (pa_cons (pe_bltn (v := .ty T) hgT hmT hvT rfl hnT hdT) (pa_cons (pe_bltn (v := .ty U) hgU hmU hvU rfl hnU hdU) pa_nil))) pa_nil) he) (by decide) (by decide) he hpl) fun σ H Q ⟨m, L, h, ρ, S, A⟩ => ?_
  refine Rg.bind (RC := rD X.K) S A fun m1 h1 H1 d v S1 l1 p1 q1 A1 => ?_
  refine ⟨by show 2 ≤ sizeLine; decide, fun tp' htp => ?_⟩
  unfold uIsi at A1
  split at A1
  · rename_i t e
    have pn : Pers X.K H1 (upd H1 tp' (.tup [.ty T, .ty U])) := pers_new htp
    have ty : TyX X.K (upd H1 tp' (.tup [.ty T, .ty U])) v (.type t) := tyD_ok (S1.rh.more htp) (q1.mono pn (Le.refl _)) e
    refine ⟨v, tp', [.ty T, .ty U], _, [.type T, .type U], isB t [T, U], rfl, upd_same, .cons (.ty T) (.cons (.ty U) .nil), ty, ?_, ?_⟩
    · have kT := isB_kit (K := X.K) (tyD_mem e) hT
      have kU := isB_kit (K := X.K) (tyD_mem e) hU
      have e2 : isB t [T, U] = ((t == T || (t == "bool" && T == "int")) || (t == U || (t == "bool" && U == "int"))) := by simp [isB]
      rw [e2]
      refine kitAny_cons kT (fun z => ?_) (fun z => by rw [z]; rfl)
      rw [z, Bool.false_or]
      refine kitAny_cons kU (fun z => ?_) (fun z => z)
      rw [z]
      exact kitAny_nil
    · exact (A1 : ∀ _, _) m1 _ (.bl _) (Le.refl _) pn (S1.rh.more htp) (.bl _)
  · exact False.elim A1
theorem me_app {args : Expr} (ho : ME X Z o ra) (ha : ME X Z a rb) (hbase : attributeBase o "append" X.env (eval o X.env) = eval o X.env := by rfl)
    (hfew : ((backTo pos (starEach [a] X.env)).all (fun x => !x.1) && (backToKw pos (keywordEach [] X.env)).all (fun x => x.1.isSome)
      && decide (([a] : List Expr).length + ([] : List Keyword).length + (if ([] : List Keyword).isEmpty then 0 else 1) < 30)) = true := by rfl)
    (hline : (apos.endLine == pos.line) = true := by rfl) (hs : starEach [a] X.env = (false, eval a X.env) :: starEach [] X.env := by rfl) (hplain : (backTo pos (starEach [] X.env)).any (·.1) = false := by rfl) : ME X Z (.Call (.Attribute o "append" apos) [a] [] pos) (eApp ra rb) := by
  refine PE.imp (pe_bm PySem.F.plainAttrs_list PySem.F.slot_list_append PySem.F.type_list_append mt_append ho (pa_cons ha pa_nil hs) hbase hfew hline hs hplain) fun σ H Q ⟨m, L, h, ρ, S, A⟩ => ?_
  refine Rg.bind (RC := rD X.K) S A fun m1 h1 H1 x v S1 l1 p1 q1 A1 => ?_
  cases q1 with
  | ref hn =>
    rename_i n b
    simp only at A1
    split at A1
    · rename_i xs0 ex0
      obtain ⟨vs0, hv0, t0⟩ := S1.rh.lstH hn ex0
      refine ⟨.inl ⟨rfl, vs0, .of hv0⟩, ?_⟩
      refine Rg.bind (RC := rD X.K) S1 A1 fun m2 h2 H2 y u S2 l2 p2 q2 A2 => ?_
      split at A2
      · rename_i xs ex
        split at A2
        · rename_i hl
          have hn2 := l2 _ _ hn
          obtain ⟨vs, hv, t⟩ := S2.rh.lstH hn2 ex
          have nl : n ∉ L := fun z => by
            obtain ⟨u', q', i1, i2⟩ := S2.rh.at_ n _ b ex hn2
            have := (i1 z).1
            cases this
          obtain ⟨r', p'⟩ := S2.rh.put ex hn2 nl (o' := .lst (xs ++ [y])) (u' := .lst (vs ++ [u])) (RDs.snoc t q2)
          exact ⟨b, vs, u, rfl, rfl, hv, by rw [← t.length]; exact hl, (A2 : ∀ _, _) m2 _ .non (Le.refl _) p' r' .non⟩
        · exact False.elim A2
      · exact False.elim A2
    · exact False.elim A1
  | _ => exact False.elim A1
theorem me_join (ho : ME X Z o ra) (he : ME X Z a rb) (hs : starEach [a] X.env = [(false, eval a X.env)] := by rfl) (hbase : attributeBase o "join" X.env (eval o X.env) = eval o X.env := by rfl) (hline : (apos.endLine == pos.line) = true := by rfl) : ME X Z (.Call (.Attribute o "join" apos) [a] [] pos) (eJoin ra rb) := by
  refine PE.imp (pe_join ho he hs hbase hline) fun σ H Q ⟨m, L, h, ρ, S, A⟩ => ?_
  refine Rg.bind (RC := rD X.K) S A fun m1 h1 H1 x v S1 l1 p1 q1 A1 => ?_
  cases q1 with
  | str s =>
    refine ⟨⟨s, rfl⟩, ?_⟩
    refine Rg.bind (RC := rD X.K) S1 A1 fun m2 h2 H2 y u S2 l2 p2 q2 A2 => ?_
    split at A2
    · rename_i ss e
      rw [Option.bind_eq_some_iff] at e
      obtain ⟨ys, e1, e2⟩ := e
      obtain ⟨b, vs, rfl, hsq, t⟩ := S2.rh.seq q2 e1
      split at A2
      · rename_i hl
        have ev := strsD_ok t e2
        subst ev
        exact ⟨s, b, ss, rfl, rfl, hsq, hl, Aft.ok (RA := rD X.K) S2 A2 (.str _)⟩
      · exact False.elim A2
    · exact False.elim A2
  | _ => exact False.elim A1
end
/-- around a def's body -/
def zDef {K : PySem.W.Frag} (G : Gx) (E : XK) : Zx K := ⟨G, fun cls d _ H => E cls d H, fun _ _ => True, fun _ _ _ => trivial, none⟩
instance {K : PySem.W.Frag} {G : Gx} {E : XK} : NoJ (zDef (K := K) G E) := ⟨rfl⟩
theorem start_rs {K : PySem.W.Frag} {H : Hp} {m : List Addr} {ds : List D} {vs : List V} (r : RDs K H m ds vs) (N : List Str) : RS K H m (ds.map some ++ List.replicate (N.length - ds.length) none) (start N vs) := by
  refine ⟨by simp [L2.start, r.length], fun i d e => ?_⟩
  by_cases hi : i < ds.length
  · rw [List.getElem?_append_left (by simpa using hi), List.getElem?_map] at e
    cases e1 : ds[i]? with
    | none => rw [e1] at e; cases e
    | some d' =>
      rw [e1] at e
      cases e
      obtain ⟨v, h1, h2⟩ := r.get e1
      refine ⟨v, ?_, h2⟩
      unfold L2.start
      rw [List.getElem?_append_left (by rw [List.length_map, ← r.length]; exact hi), List.getElem?_map, h1]
      rfl
  · rw [List.getElem?_append_right (by simpa using Nat.le_of_not_lt hi), List.getElem?_replicate] at e
    split at e
    · cases e
    · cases e
theorem fn_ok {P : Program} {w : World} {K : PySem.W.Frag} {mg : Str → Option Value} {base : Heap} {G : Gx} {x qual : Str} {params : Arguments} {body : List Stmt} {scope : Scope} {dvs : List V} {kws : List (Str × V)} {f : Addr} {fd : FuncData} {N ps : List Str} {k : Nat} {b : SX}
    (F : FunD K x qual params body scope dvs kws f fd) (S : FnScope N ps scope)
    (hb : ∀ (cdv : Value) (A : Around) (outer : List Env) (s : Shared) (H : Hp) (E : XK), Room k (A.deeper (envOfC qual scope s.heap.objs.size f cdv)) →
      MB (cxOf (L2.CX P w) P w K mg base N qual scope f cdv A outer s H E) (zDef G E) body b) : FnOk P w K mg base (L2.CX P w) (k + 1) f fd ps (spF K G ps.length (bodyX N.length b)) := by
  refine F.ok S (fun vs H Q E h => h.1) fun cdv A outer s H vs Q E hr h => ?_
  obtain ⟨hl, m, L, h, ds, rh, lk, rds, Af⟩ := h
  refine ⟨_, hb cdv A outer s H E hr, m, L, h, _, ⟨rh, start_rs rds N, trivial, lk, fun p e => nomatch e⟩, ?_⟩
  unfold bodyX SR.fin at Af
  split at Af
  · rename_i ρ h' e
    rw [e]
    exact fun m' H' σ' l p r q => Af m' H' .non l p r .non
  · rename_i d h' e
    rw [e]
    exact fun m' H' v l p r q => Af m' H' v l p r q
  · rename_i c p ρ h' e
    rw [e]
    exact fun m' H' σ' cls d l p r q x => Af m' H' cls d l p r x
  · exact False.elim Af
theorem fn_bad {P : Program} {w : World} {K : PySem.W.Frag} {mg : Str → Option Value} {base : Heap} {G : Gx} {f : Addr} {fd : FuncData} {ps : List Str} : FnOk P w K mg base (L2.CX P w) 0 f fd ps (spF K G ps.length (fun _ _ _ => .bad)) :=
  ⟨fun vs H Q E h => h.1, fun A outer s H args us vs Q E _ _ _ _ h => by
    obtain ⟨_, _, _, _, _, _, _, _, Af⟩ := h
    exact False.elim Af⟩
theorem tk_def {P : Program} {w : World} {K : PySem.W.Frag} {mg : Str → Option Value} {base : Heap} {G : Gx} {N : List Str} {qual : Str} {scope : Scope} {f : Addr} {cdv : Value} {A : Around} {outer : List Env} {s : Shared} {H : Hp} {E : XK} :
    Takes (cxOf (L2.CX P w) P w K mg base N qual scope f cdv A outer s H E) (zDef (K := K) G E).W := takes_of rfl rfl rfl rfl
theorem po_def {P : Program} {w : World} {K : PySem.W.Frag} {mg : Str → Option Value} {base : Heap} {N : List Str} {qual : Str} {scope : Scope} {f : Addr} {cdv : Value} {A : Around} {outer : List Env} {s : Shared} {H : Hp} {E : XK} :
    PassesOwn (model P w) (A.deeper (envOfC qual scope s.heap.objs.size f cdv)) (envOfC qual scope s.heap.objs.size f cdv) (cxOf (L2.CX P w) P w K mg base N qual scope f cdv A outer s H E).xe := passes_of rfl
end Mi
end
section
set_option maxHeartbeats 1000000
namespace Mi
open PySem PySem.Spec PyProof.Rows L2
def slD' (D : Ends) (i : Nat) : Ends := { nx := fun σ' H' => D.nx (σ'.set i none) H', rt := D.rt, bk := fun σ' H' => D.bk (σ'.set i none) H', ct := fun σ' H' => D.ct (σ'.set i none) H' }
/-- what a clause's suite is asked for -/
def wSu (sl : Option Nat) (ts : Addr → Value → Option Addr → TS) (a : Addr) (cls : Value) (d : Option Addr) (D : Ends) (σ : L2.St) (H : Hp) : Prop := match sl with
  | none => ts a cls d D σ H
  | some i => ts a cls d (slD' D i) (σ.set i (some (.ref a))) H
def wHd (K : PySem.W.Frag) (Wout : WX) (D : Ends) : List (Value × Option Nat × (Addr → Value → Option Addr → TS)) → WX
  | [] => Wout
  | (c, sl, ts) :: r => fun cls d σ H => ∃ b, PySem.W.exmOne K cls c = some b ∧ (b = true → ∀ a, H a = none → wSu sl ts a cls d D σ H) ∧ (b = false → wHd K Wout D r cls d σ H)
inductive HdOk (X : Cx) : List ExceptHandler → List (Value × Option Nat × (Addr → Value → Option Addr → TS)) → Prop
  | nil : HdOk X [] []
  | bare {x : Str} {c : Value} {ts : Addr → Value → Option Addr → TS} {b₀ : Stmt} {suite : List Stmt} {np pos' : Pos} {hds : List ExceptHandler} {l : List (Value × Option Nat × (Addr → Value → Option Addr → TS))} (hc : Names X x c)
      (hsu : ∀ (a : Addr) (oe : Obj) (cls : Value) (d : Option Addr) (pn : List (Addr × Obj)), Zc cls d oe → (∃ vs, oe.data = .fields vs) → PSs (X.suite a ((a, oe) :: pn)) (b₀ :: suite) (ts a cls d)) (r : HdOk X hds l) :
      HdOk X (.ExceptHandler (some (.Name x np)) none (b₀ :: suite) pos' :: hds) ((c, none, ts) :: l)
  | as {x n : Str} {c : Value} {i : Nat} {ts : Addr → Value → Option Addr → TS} {b₀ : Stmt} {suite : List Stmt} {np pos' : Pos} {hds : List ExceptHandler} {l : List (Value × Option Nat × (Addr → Value → Option Addr → TS))} (hc : Names X x c) (hi : X.N[i]? = some n) (hln : X.env.kindOf n = some .local)
      (hsu : ∀ (a : Addr) (oe : Obj) (cls : Value) (d : Option Addr) (pn : List (Addr × Obj)), Zc cls d oe → (∃ vs, oe.data = .fields vs) → PSs (X.suite a ((a, oe) :: pn)) (b₀ :: suite) (ts a cls d)) (r : HdOk X hds l) :
      HdOk X (.ExceptHandler (some (.Name x np)) (some n) (b₀ :: suite) pos' :: hds) ((c, some i, ts) :: l)
section
variable {X : Cx} {body : List Stmt} {h₀ : ExceptHandler} {hds : List ExceptHandler} {l : List (Value × Option Nat × (Addr → Value → Option Addr → TS))} {pos : Pos} {tb : WX → TS} {Wout : WX}
theorem ps_try_gen (hN : X.N.Nodup) (hs : X.stack = X.env :: X.outer) (hf : X.env.frame = some X.env.locals) (tk : Takes X Wout)
    (hb : ∀ (W : WX) (pn : List (Addr × Obj)) (xe : Value → Shared → Prop), Takes (X.tr pn xe) W → PassesOwn (model X.prog X.w) X.A X.env xe → PSs (X.tr pn xe) body (tb W))
    (hh : HdOk X (h₀ :: hds) l) : PS X (.Try body (h₀ :: hds) [] [] pos) (fun D σ H => tb (wHd X.K Wout D l) D σ H) := by
  refine ⟨fun pins s σ H D I h => ?_⟩
  have ok := I.ok
  have hfr : X.A.frames = some (X.env :: X.outer) := by rw [ok.frames, hs]
  refine wpAny_Try_except ?_
  refine wpAny_mono ((hb (wHd X.K Wout D l) (X.pn ++ pins) (fun e s₁ => wpAny (model X.prog X.w) X.A (noteFrame e X.env) (fun _ s₂ => wpAny (model X.prog X.w) X.A (setFlight e none) (fun _ s₃ =>
    wpAny (model X.prog X.w) X.A (handleBy e X.env (h₀ :: hds)) (SP X pins D) X.xe s₃) X.xe s₂) X.xe s₁) (fun u s' xx => ?_) PassesOwn.looking).run [] s σ H D (I.toTry _) h) (fun f s1 hsp => ?_) (fun e s1 he => he)
  · -- the catch
    obtain ⟨a, B, sI, pins', σ', H', cls, d, rfl, J', nb, up, sky, na, os, ag, w⟩ := xx
    have J : Inv X pins σ' H' sI := J'.ofTry ok
    have sky' : Sky B (X.env :: X.outer) a (Zc cls d) X.env.locals s'.heap := by rw [← hs]; exact sky
    show wpAny (model X.prog X.w) X.A (noteFrame (.ref a) X.env) _ _ _
    refine Sky.land Zc.steady hfr hf sky' fun h3 fl3 up3 => ?_
    have J3 : Inv X pins σ' H' { s' with heap := h3 } := J.landed nb fl3.1 (up.trans up3) os ag
    obtain ⟨oe3, vs3, he3, hz3, hd3⟩ := fl3.there
    have notFr : ∀ {h : Heap} {o : Obj} {vs : Array Value}, h.FunFrames B (X.env :: X.outer) → h.get? a = some o → o.data = .fields vs → a ∉ frs (X.env :: X.outer) := fun {h o vs} ff e dd hm => by
      obtain ⟨_, o', e', hnf⟩ := ff.mem hm
      rw [e] at e'; cases e'
      exact hnf _ dd
    have nfr := notFr fl3.2.2.1 he3 hd3
    have nL : a ≠ X.env.locals := fun z => nfr (List.mem_filterMap.mpr ⟨X.env, List.mem_cons_self, by rw [hf, z]⟩)
    have nF : a ∉ X.fs := fun hm => by
      obtain ⟨e, he, q⟩ := List.mem_filterMap.mp hm
      exact nfr (List.mem_filterMap.mpr ⟨e, List.mem_cons_of_mem _ he, q⟩)
    have S3 := J3.suite he3 hd3 na nL nF
    have tst : ∀ {x : Str} {c : Value} {np : Pos}, Names X x c → ∀ {Q : Value → Shared → Prop} {E : Value → Shared → Prop}, Q c { s' with heap := h3 } → wpAny (model X.prog X.w) (X.A.mark (some (.ref a))) (eval (.Name x np) X.env) Q E { s' with heap := h3 } := fun {x c np} hc {Q E} q => by
      obtain ⟨hg, hdbg, hm | ⟨hm, hv, hnn⟩⟩ := hc
      · exact ld_glob (X := X.suite a ((a, oe3) :: (X.pn ++ pins))) S3 hg hm q hdbg
      · exact ld_blt (X := X.suite a ((a, oe3) :: (X.pn ++ pins))) S3 hg hm hv q hnn hdbg
    have go : ∀ {hds' : List ExceptHandler} {l' : List (Value × Option Nat × (Addr → Value → Option Addr → TS))}, HdOk X hds' l' → wHd X.K Wout D l' cls d σ' H' →
        wpAny (model X.prog X.w) X.A (handleBy (.ref a) X.env hds') (SP X pins D) X.xe { s' with heap := h3 } := by
      intro hds' l' hk
      induction hk with
      | nil =>
        intro w
        refine wpAny_handleBy_nil ?_
        obtain ⟨k1, k2, k3, oe, vs, T, oT, ts', he, hz, hd, h1, hr⟩ := id fl3
        unfold PySem.passOn
        refine wpAny_bind (wpAny_field he hd h1 ?_)
        rw [if_neg (show ¬ ((Value.ref T == Value.none) = true) from by simp)]
        have fin : wpAny (model X.prog X.w) X.A (setFlight (.ref a) X.env.frame) (fun _ s4 => wpAny (model X.prog X.w) X.A (throw (.ref a) : Sem Flow) (SP X pins D) X.xe s4) X.xe { s' with heap := h3 } := by
          rw [hf]
          refine HandSPX.setFlight_upZ fl3 fun h4 hh4 up4 => wpAny_throw (tk _ _ ?_)
          exact ⟨a, B, sI, pins, σ', H', cls, d, rfl, J, nb, (up.trans up3).trans up4, .inr (.inr (by rw [hs]; exact hh4)), na, os, ag, w⟩
        first
          | exact wpAny_bind (wpAny_pure (wpAny_bind fin))
          | exact wpAny_bind fin
      | @bare x c ts b₀ suite np pos' hds2 l2 hc hsu r ih =>
        intro w
        obtain ⟨b, hb1, hyes, hno⟩ := w
        refine wpAny_handleBy_cons (codeAny_handlers_test ?_) (by intro q; cases q)
        have LT : PySem.W.Looks (model X.prog X.w) h3 (typeOf (.ref a)) cls := fun A Q E s k q => wpAny_typeOf_ref (k _ _ he3) (by rw [hz3.1]; exact q)
        have LM := PySem.W.exm_one (M := model X.prog X.w) (J3.kIn) LT hb1
        refine tst hc (LM.here ?_)
        cases b with
        | true =>
          refine codeAny_handlers_suite ?_
          refine HandSPX.lands_againZ fl3 fun h4 fl4 up4 => ?_
          have J4 : Inv X pins σ' H' { s' with heap := h4 } := J.landed nb fl4.1 ((up.trans up3).trans up4) os ag
          obtain ⟨oe4, vs4, he4, hz4, hd4⟩ := fl4.there
          have S4 := J4.suite he4 hd4 na nL nF
          refine wpAny_mono ((hsu a oe4 cls d (X.pn ++ pins) hz4 ⟨_, hd4⟩).run [] _ _ H' _ S4 (hyes rfl a na)) (fun f s6 hsp => ?_) (fun _ _ z => False.elim z)
          cases f with
          | next =>
            obtain ⟨σ6, H6, S6, q6⟩ := hsp
            exact ⟨_, _, S6.unsuite ok, q6⟩
          | brk =>
            obtain ⟨σ6, H6, S6, q6⟩ := hsp
            exact ⟨_, _, S6.unsuite ok, q6⟩
          | cont =>
            obtain ⟨σ6, H6, S6, q6⟩ := hsp
            exact ⟨_, _, S6.unsuite ok, q6⟩
          | ret u =>
            obtain ⟨v6, σ6, H6, S6, r6, q6⟩ := hsp
            exact ⟨_, _, _, S6.unsuite ok, r6, q6⟩
        | false =>
          show wpAny _ X.A (handleBy (.ref a) X.env hds2) _ _ _
          exact ih (hno rfl)
      | @as x n c i ts b₀ suite np pos' hds2 l2 hc hi hln hsu r ih =>
        intro w
        obtain ⟨b, hb1, hyes, hno⟩ := w
        refine wpAny_handleBy_cons (codeAny_handlers_test ?_) (by intro q; cases q)
        have LT : PySem.W.Looks (model X.prog X.w) h3 (typeOf (.ref a)) cls := fun A Q E s k q => wpAny_typeOf_ref (k _ _ he3) (by rw [hz3.1]; exact q)
        have LM := PySem.W.exm_one (M := model X.prog X.w) (J3.kIn) LT hb1
        refine tst hc (LM.here ?_)
        cases b with
        | true =>
          refine codeAny_handlers_suite_as ?_
          refine HandSPX.lands_againZ fl3 fun h4 fl4 up4 => ?_
          have J4 : Inv X pins σ' H' { s' with heap := h4 } := J.landed nb fl4.1 ((up.trans up3).trans up4) os ag
          obtain ⟨oe4, vs4, he4, hz4, hd4⟩ := fl4.there
          have S4 := J4.suite he4 hd4 na nL nF
          refine store_ok (X := X.suite a ((a, oe4) :: (X.pn ++ pins))) (v := .ref a) S4 hN hi (.inl hln) rfl (fun s5 S5 => ?_) (.inr hln)
          refine wpAny_mono ((hsu a oe4 cls d (X.pn ++ pins) hz4 ⟨_, hd4⟩).run [] s5 _ H' _ S5 (hyes rfl a na)) (fun f s6 hsp => ?_) (fun _ _ z => False.elim z)
          have end_ : ∀ {σ6 : L2.St} {H6 : Hp} {Q : Shared → Prop}, Inv (X.suite a ((a, oe4) :: (X.pn ++ pins))) [] σ6 H6 s6 → (∀ s7, Inv X pins (σ6.set i none) H6 s7 → Q s7) →
              wpAny (model X.prog X.w) X.A (do bindName X.env n .none; unbindBehindTheSuite X.env n pos') (fun _ s7 => Q s7) X.xe s6 := fun {σ6 H6 Q} S6 hq => gone_ok (S6.unsuite ok) hN hi hln hq
          cases f with
          | next =>
            obtain ⟨σ6, H6, S6, q6⟩ := hsp
            exact end_ S6 fun s7 J7 => ⟨_, _, J7, q6⟩
          | brk =>
            obtain ⟨σ6, H6, S6, q6⟩ := hsp
            exact end_ S6 fun s7 J7 => ⟨_, _, J7, q6⟩
          | cont =>
            obtain ⟨σ6, H6, S6, q6⟩ := hsp
            exact end_ S6 fun s7 J7 => ⟨_, _, J7, q6⟩
          | ret u =>
            obtain ⟨v6, σ6, H6, S6, r6, q6⟩ := hsp
            exact end_ S6 fun s7 J7 => ⟨_, _, _, J7, r6, q6⟩
        | false =>
          show wpAny _ X.A (handleBy (.ref a) X.env hds2) _ _ _
          exact ih (hno rfl)
    exact go hh w
  · cases f with
    | next =>
      obtain ⟨σ', H', J', q⟩ := hsp
      exact wpAny_execs_nil ⟨σ', H', J'.ofTry ok, q⟩
    | brk =>
      obtain ⟨σ', H', J', q⟩ := hsp
      exact ⟨σ', H', J'.ofTry ok, q⟩
    | cont =>
      obtain ⟨σ', H', J', q⟩ := hsp
      exact ⟨σ', H', J'.ofTry ok, q⟩
    | ret u =>
      obtain ⟨v, σ', H', J', r, q⟩ := hsp
      exact ⟨v, σ', H', J'.ofTry ok, r, q⟩
end
/-- what the text says of a class whose __init__ stores its one argument -/
structure XcD (K : PySem.W.Frag) (C : Addr) (f : Str) (fI : Addr) : Prop where
  o : OexC K C
  no : PySem.W.findIn K (.ref C) f = some none
  iC : PySem.W.findIn K (.ref C) "__init__" = some (some (.ref fI))
  tI : PySem.W.typeIn K (.ref fI) = some (.type "function")
/-- its __init__'s promise -/
def spXI (C : Addr) (f : Str) : Sp := fun vs H Q _ => ∃ (a : Addr) (v : V), vs = [.ref a, v] ∧ H a = some (exo a C none) ∧ ∀ dx, H dx = none → dx ≠ a → Q .non (upd (upd H dx (exd dx [(f, v)])) a (exo a C (some dx)))
theorem init_ok {P : Program} {w : World} {K : PySem.W.Frag} {mg : Str → Option Value} {base : Heap} {C fI : Addr} {f pn x qual : Str} {params : Arguments} {scope : Scope} {dvs : List V} {kws : List (Str × V)} {fd : FuncData} {p1 p2 p3 p4 : Pos} {k : Nat}
    (T : XcD K C f fI) (F : FunD K x qual params [.Assign [.Attribute (.Name "self" p1) f p2] (.Name pn p3) p4] scope dvs kws fI fd) (S : FnScope ["self", pn] ["self", pn] scope) (hv : Vis scope "self") (hv2 : Vis scope pn)
    (hd : (pn == ("__debug__" : Str)) = false := by decide) (hcd : (pn == ("__classdict__" : Str)) = false := by decide)
    (hs : ∀ env, swapsWith (.Name pn p3) (some (.Attribute (.Name "self" p1) f p2)) p4.line env = pure false := by intro _; rfl) : FnOk P w K mg base CX0 (k + 1) fI fd ["self", pn] (spXI C f) := by
  refine F.ok S (fun vs H Q E h => ?_) fun cdv A outer s H vs Q E hr h => ?_
  · obtain ⟨a, v, rfl, _⟩ := h
    rfl
  · obtain ⟨a, v, rfl, ha, q⟩ := h
    refine ⟨_, pss_one (ps_ost (pe_var (i := 0) rfl hv (by decide) (by decide)) (pe_var (i := 1) rfl hv2 hd hcd) (hs _)), ?_⟩
    exact ⟨v, rfl, _, rfl, a, C, rfl, T.o, T.no, .inl ⟨ha, fun dx hdx hne => q dx hdx hne⟩⟩
section
variable {X : Cx} {Z : Zx X.K} {e : Expr} {ra : EX} {p pos rpos : Pos} {x : Str} {c : Nat} {C fI : Addr} {fd : FuncData} {ps : List Str}
theorem raise_heap {H1 : Hp} {a dx : Addr} {f : Str} {v : V} (ha : H1 a = none) (hd : H1 dx = none) (hne : dx ≠ a) : upd (del (upd (upd (upd H1 a (exo a C none)) dx (exd dx [(f, v)])) a (exo a C (some dx))) a) dx (.xd [(f, v)]) = upd H1 dx (.xd [(f, v)]) := by
  funext b
  by_cases h1 : b = dx
  · subst h1; rw [upd_same, upd_same]
  · rw [upd_ne h1, upd_ne h1]
    by_cases h2 : b = a
    · subst h2; rw [del_same, ha]
    · rw [del_ne h2, upd_ne h2, upd_ne h1, upd_ne h2]
theorem ms_raise (hc : X.calm = true) (hC : Z.G.ca c = C) (T : XcD X.K C (Z.G.xf c) fI) (k : Nat) (F1 : FnOk X.prog X.w X.K X.mg X.base CX0 (k + 1) fI fd ps (spXI C (Z.G.xf c))) (hr : Room (k + 2) X.A) (hb : Binds X.K fd ps []) (tk : Takes X Z.W) (hg : Gl X x) (hm : X.mg x = some (.ref C)) (ha : ME X Z e ra)
    (hdb : (x == ("__debug__" : Str)) = false := by decide) (he : starEach [e] X.env = (false, eval e X.env) :: starEach [] X.env := by rfl) (hpl : (backTo pos (starEach [] X.env)).any (·.1) = false := by rfl) : MS X Z (.Raise (some (.Call (.Name x p) [e] [] pos)) none rpos) (sRaise c ra) := by
  refine PS.imp (ps_raise hc tk (pmk_oex T.o T.iC T.tI F1 hr hb .nil pass0 hg hm (pa_cons ha pa_nil he) hdb he hpl)) fun D σ H ⟨m, L, h, ρ, S, A⟩ => ?_
  refine Rg.toS S A fun m1 h1 H1 d v S1 l1 p1 q1 A1 => ?_
  refine ⟨by show 1 ≤ 1000; decide, fun a hna => ⟨a, v, rfl, upd_same, fun dx hdx hne => ⟨rfl, dx, [(Z.G.xf c, v)], upd_same, ?_, ?_, ?_⟩⟩⟩
  · rw [upd_ne hne]; exact upd_same
  · rw [upd_ne hne] at hdx; exact hdx
  · have hdx1 : H1 dx = none := by rw [upd_ne hne] at hdx; exact hdx
    rw [raise_heap hna hdx1 hne]
    have pn : Pers X.K H1 (upd H1 dx (.xd [(Z.G.xf c, v)])) := pers_new hdx1
    exact (A1 : ∀ _, _) m1 _ σ (.ref C) (some dx) (Le.refl _) pn (S1.rh.more hdx1) (S1.rs.mono pn (Le.refl _)) ⟨by rw [hC], dx, v, rfl, upd_same, q1.mono pn (Le.refl _)⟩
end
end Mi
end
section
set_option maxHeartbeats 1000000
namespace Mi
open PySem PySem.Spec PyProof.Rows L2
/-- around a suite: the error that is held -/
def zSu {K : PySem.W.Frag} (Z : Zx K) (c : Nat) (p : Option D) (cls : Value) (d : Option Addr) (j : Option (Nat × Addr)) : Zx K where
  G := Z.G
  W := fun _ _ _ _ => False
  I := fun m H => Z.I m H ∧ RX K Z.G c p m H cls d
  keep := fun {m m' H H'} h l pr => by
    refine ⟨Z.keep h.1 l pr, h.2.1, ?_⟩
    have h2 := h.2.2
    cases p with
    | none => exact h2
    | some q =>
      obtain ⟨dx, v, h3, h4, h5⟩ := h2
      exact ⟨dx, v, h3, pr.xd _ _ h4, h5.mono pr l⟩
  J := j
/-- what a suite is asked for, in the layer's words -/
def tSu (K : PySem.W.Frag) (Z : Zx K) (x : Hd) : Addr → Value → Option Addr → TS := fun a cls d D σ H => ∃ c p, Rs K (zSu Z c p cls d (x.slot.map fun i => (i, a))) (x.suite c p) D σ H
/-- the clauses -/
inductive HsOk (X : Cx) (Z : Zx X.K) (n : Nat) : List ExceptHandler → List Hd → List (Value × Option Nat × (Addr → Value → Option Addr → TS)) → Prop
  | nil : HsOk X Z n [] [] []
  | cons {h : ExceptHandler} {hs : List ExceptHandler} {x : Hd} {xs : List Hd} {cv : Value} {l : List (Value × Option Nat × (Addr → Value → Option Addr → TS))} (he : ∀ c, c < n → PySem.W.exmOne X.K (.ref (Z.G.ca c)) cv = some (x.is c)) (t : HsOk X Z n hs xs l) : HsOk X Z n (h :: hs) (x :: xs) ((cv, x.slot, tSu X.K Z x) :: l)
theorem aft_wipe {K : PySem.W.Frag} {G : Gx} {L : List Nat} {m : List Addr} {H : Hp} {r : SR} {D : Ends} {W W' : WX} {i : Nat} (A : AftS K G L m H (r.wipe i) D W) : AftS K G L m H r (slD' D i) W' := by
  cases r with
  | nx ρ h => exact fun m' H' σ' l p r q => A m' H' _ l p r (q.del i none)
  | ret d h => exact A
  | brk ρ h => exact fun m' H' σ' l p r q => A m' H' _ l p r (q.del i none)
  | cnt ρ h => exact fun m' H' σ' l p r q => A m' H' _ l p r (q.del i none)
  | exc c p ρ h => exact False.elim A
  | bad => exact False.elim A
theorem catch_ok {X : Cx} {Z : Zx X.K} [NoJ Z] {n : Nat} {hs : List ExceptHandler} {xs : List Hd} {l : List (Value × Option Nat × (Addr → Value → Option Addr → TS))} (hk : HsOk X Z n hs xs l) {L : List Nat} {m : List Addr} {h : Hh} {ρ : Rho} {σ : L2.St} {H : Hp} {D : Ends} {c : Nat} {p : Option Mi.D} {cls : Value} {d : Option Addr}
    (hc : c < n) (S : Stt X.K Z L m h ρ σ H) (x : RX X.K Z.G c p m H cls d) (A : AftS X.K Z.G L m H (catch_ xs c p ρ L h) D Z.W) : wHd X.K Z.W D l cls d σ H := by
  induction hk with
  | nil => exact (A : ∀ _, _) m H σ cls d (Le.refl _) (Pers.refl _) S.rh S.rs x
  | @cons h0 hs x0 xs cv l he t ih =>
    refine ⟨x0.is c, by rw [x.1]; exact he c hc, fun hy a ha => ?_, fun hn => ?_⟩
    · have A' : AftS X.K Z.G L m H (x0.run c p ρ L h) D Z.W := by
        have e : catch_ (x0 :: xs) c p = x0.run c p := by simp [catch_, hy]
        rw [e] at A
        exact A
      unfold Hd.run at A'
      unfold wSu
      obtain ⟨is0, slot0, suite0⟩ := x0
      cases slot0 with
      | none => exact ⟨c, p, m, L, h, ρ, ⟨S.rh, S.rs, ⟨S.iv, x⟩, S.lk, fun q e => nomatch e⟩, aft_noExc A'⟩
      | some i =>
        simp only at A'
        split at A'
        · rename_i hl
          refine ⟨c, p, m, L, h, ρ.set i none, ⟨S.rh, S.rs.del i (some (.ref a)), ⟨S.iv, x⟩, S.lk, fun q e => ?_⟩, aft_wipe A'⟩
          cases e
          exact List.getElem?_set_self (by rw [S.rs.1]; exact hl)
        · exact False.elim A'
    · have e : catch_ (x0 :: xs) c p = catch_ xs c p := by simp [catch_, hn]
      rw [e] at A
      exact ih A
section
variable {X : Cx} {Z : Zx X.K} [NoJ Z] {body : List Stmt} {h₀ : ExceptHandler} {hds : List ExceptHandler} {l : List (Value × Option Nat × (Addr → Value → Option Addr → TS))} {pos : Pos} {b : SX} {xs : List Hd} {n : Nat}
abbrev Zx.wish {K : PySem.W.Frag} (Z : Zx K) (W : WX) : Zx K := { Z with W := W }
instance {K : PySem.W.Frag} (Z : Zx K) (W : WX) [i : NoJ Z] : NoJ (Z.wish W) := ⟨i.h⟩
theorem ms_try (hN : X.N.Nodup) (hs : X.stack = X.env :: X.outer) (hf : X.env.frame = some X.env.locals) (tk : Takes X Z.W)
    (hb : ∀ (W : WX) (pn : List (Addr × Obj)) (xe : Value → Shared → Prop), Takes (X.tr pn xe) W → PassesOwn (model X.prog X.w) X.A X.env xe → MB (X.tr pn xe) (Z.wish W) body b)
    (hk : HsOk X Z n (h₀ :: hds) xs l) (hh : HdOk X (h₀ :: hds) l) : MS X Z (.Try body (h₀ :: hds) [] [] pos) (sTry n b xs) := by
  refine PS.imp (ps_try_gen (tb := fun W => Rs X.K (Z.wish W) b) hN hs hf tk hb hh) fun D σ H ⟨m, L, h, ρ, S, A⟩ => ?_
  refine ⟨m, L, h, ρ, ⟨S.rh, S.rs, S.iv, S.lk, S.jv⟩, ?_⟩
  unfold sTry at A
  cases e : b ρ L h with
  | exc c p ρ1 h1 =>
    rw [e] at A
    simp only at A
    split at A
    · rename_i hc
      exact fun m' H' σ' cls d l' p' r' q' x' => catch_ok hk hc ((S.on l' p' r').set q') x' (AftS.mono A l' p')
    · exact False.elim A
  | _ => rw [e] at A; exact A
end
section
variable {X : Cx} {Z : Zx X.K} {e o : Expr} {sts : List Stmt} {ra : EX} {s : SX} {pos pos' np p p2 : Pos} {i j : Nat} {a : Addr}
theorem msu_nil : PSs X [] (Rs X.K Z sNil) := mb_nil
/-- a store, the error's slot left as it is -/
def sSt (j : Nat) (ra : EX) (s : SX) : SX := fun ρ L h => (ra ρ L h).toS ρ fun d h1 => s (ρ.set j (some d)) L h1
theorem msu_set {x : Str} (hj : ∀ q, Z.J = some q → q.1 ≠ j) (hN : X.N.Nodup) (hi : X.N[j]? = some x) (hx : Loc X.env.scope x) (he : ME X Z e ra) (h2 : PSs X sts (Rs X.K Z s)) (hs : swapsWith e (some (.Name x pos')) pos.line X.env = pure false := by rfl)
    (hf : X.fn x = true ∨ X.env.scope.names.lookup x = some .local := by first | exact .inl rfl | exact .inr rfl | assumption) : PSs X (.Assign [.Name x pos'] e pos :: sts) (Rs X.K Z (sSt j ra s)) := by
  refine PSs.imp (pss_cons (ps_set hN hi hx he hs hf) h2) fun D σ H ⟨m, L, h, ρ, S, A⟩ => ?_
  refine Rg.toS S A fun m1 h1 H1 x v S1 l1 p1 q1 A1 => ?_
  refine ⟨m1, L, h1, _, ⟨S1.rh, S1.rs.set j q1, S1.iv, S1.lk, fun q e => ?_⟩, A1⟩
  rw [List.getElem?_set_ne (Ne.symm (hj q e))]
  exact S1.jv q e
end
section
variable {X : Cx} {Z : Zx X.K} {a : Addr} {oe : Obj} {cls : Value} {d : Option Addr} {pn : List (Addr × Obj)} {c : Nat} {p : Option D} {i : Nat} {n f : Str} {pos np fp cp : Pos} {cs : List Nat}
theorem lookup_one {f : Str} {v : V} : List.lookup f [(f, v)] = some v := by simp [List.lookup]
theorem pe_false {X : Cx} {e : Expr} : PE X e (fun _ _ _ => False) := ⟨fun pins s σ H Q I h => h.elim⟩
/-- wrong.f -/
theorem me_xf (hx : ∀ c ∈ cs, XfC X.K (Z.G.ca c) ∧ PySem.W.findIn X.K (.ref (Z.G.ca c)) f = some none ∧ Z.G.xf c = f) (hz : Zc cls d oe) (hf : ∃ vs, oe.data = .fields vs) (hN : X.N[i]? = some n) (hv : Vis X.env.scope n) (hd : (n == ("__debug__" : Str)) = false := by decide)
    (hcd : (n == ("__classdict__" : Str)) = false := by decide) (hb : attributeBase (.Name n np) f X.env (eval (.Name n np) X.env) = eval (.Name n np) X.env := by rfl) :
    ME (X.suite a ((a, oe) :: pn)) (zSu Z c p cls d (some (i, a))) (.Attribute (.Name n np) f pos) (eXf cs c p) := by
  by_cases hc : c ∈ cs
  · obtain ⟨T, hno, hxf⟩ := hx c hc
    refine PE.imp (pe_xf T hno hz hf (pe_var (X := X.suite a ((a, oe) :: pn)) (i := i) (pos := np) hN hv hd hcd) hb) fun σ H Q ⟨m, L, h, ρ, S, A⟩ => ?_
    simp only [eXf, if_pos hc] at A
    have hs := S.jv (i, a) rfl
    refine ⟨.ref a, hs, rfl, S.iv.2.1, ?_⟩
    have h2 := S.iv.2.2
    cases p with
    | none => exact False.elim A
    | some q =>
      obtain ⟨dx, v, h3, h4, h5⟩ := h2
      refine ⟨dx, _, v, h3, h4, ?_, Aft.ok (RA := rD X.K) S A h5⟩
      rw [hxf]
      exact lookup_one
  · refine PE.imp pe_false fun σ H Q ⟨m, L, h, ρ, S, A⟩ => ?_
    simp only [eXf, if_neg hc] at A
    exact A
end
end Mi
end
section
set_option maxHeartbeats 1000000
namespace Mi
open PySem PySem.Spec PyProof.Rows L2
/-- isinstance(e, c), e the error that the suite holds, whatever it holds -/
def rIsE2 (K : PySem.W.Frag) (a : Addr) (cls : Value) (d : Option Addr) : List V → Hp → VK → Prop := fun xs H Q => ∃ (c : V) (cv : Value) (b : Bool) (C : Addr), xs = [.ref a, c] ∧ cls = .ref C ∧ ExcC K C ∧ (∀ u, RelV c u → u = cv) ∧ PySem.W.kitOne K (.ref C) cv = some b ∧ (∀ dd, d = some dd → ∃ fs, H dd = some (.xd fs)) ∧ Q (.bl b) H
theorem call_isE2 {X : Cx} {a : Addr} {oe : Obj} {cls : Value} {d : Option Addr} {pn : List (Addr × Obj)} (hz : Zc cls d oe) (hf : ∃ vs, oe.data = .fields vs) : CallR (X.suite a ((a, oe) :: pn)) (.builtin "isinstance") (rIsE2 X.K a cls d) := by
  intro pins s σ H xs us Q I r h
  obtain ⟨c, cv, b, D, rfl, ec, C, hcv, e, hd, q⟩ := h
  subst ec
  cases r with
  | cons rx rr =>
    cases rr with
    | cons rt rr =>
      cases rr
      cases rx
      have ec := hcv _ rt
      subst ec
      obtain ⟨hget, _⟩ := I.pin (a, oe) (List.mem_append.mpr (.inl List.mem_cons_self))
      obtain ⟨vs, hv⟩ := hf
      have J : ∃ od, PySem.W.InstAt s.heap a oe D od := by
        cases d with
        | none => exact ⟨none, hget, hz.1, by unfold PySem.W.notCls; rw [hv] <;> rfl, by rw [hz.2]; trivial⟩
        | some dd =>
          obtain ⟨fs, hfs⟩ := hd dd rfl
          have hx : ObjOk X.prog X.w H s.heap dd (.xd fs) := I.hok dd _ hfs
          obtain ⟨mA, hns, hr⟩ := hx
          obtain ⟨od, ho, hl⟩ := lookIn_ns hns
          exact ⟨some od, hget, hz.1, by unfold PySem.W.notCls; rw [hv] <;> rfl, by rw [hz.2]; exact ho⟩
      obtain ⟨od, J⟩ := J
      have hcl : (PySem.W.clsIn X.K D).isSome = true := by
        obtain ⟨cd, hc, _⟩ := PySem.W.any_some C.hd
        rw [hc]; rfl
      exact PySem.W.kia_one (PySem.W.kitx_exc (od := od) hcl C.hg C.hk C.hs C.ha C.hn C.ht C.hm) I.kIn J e (fun z => nomatch z) fun tk => ⟨.bl b, H, I.kept (t' := tk) fun _ _ z => z, rfl, q⟩
section
variable {X : Cx} {Z : Zx X.K} {a : Addr} {oe : Obj} {cls : Value} {d : Option Addr} {pn : List (Addr × Obj)} {c : Nat} {p : Option D} {i : Nat} {n : Str} {pos np tp ip : Pos} {cs : List Nat} {is : Nat → Bool} {cv : Value} {c2 : V} {y : Str}
theorem me_xi0 (hx : ∀ c ∈ cs, ExcC X.K (Z.G.ca c) ∧ PySem.W.kitOne X.K (.ref (Z.G.ca c)) cv = some (is c)) (hcv : ∀ u, RelV c2 u → u = cv) (h2 : PE (X.suite a ((a, oe) :: pn)) (.Name y tp) (tC c2)) (hg : Gl X "isinstance") (hm : X.mg "isinstance" = none) (hz : Zc cls d oe) (hf : ∃ vs, oe.data = .fields vs) (hN : X.N[i]? = some n) (hv : Vis X.env.scope n) (hd : (n == ("__debug__" : Str)) = false := by decide)
    (hcd : (n == ("__classdict__" : Str)) = false := by decide) (hvb : bootBuiltins "isinstance" = some (.builtin "isinstance") := by decide +kernel)
    (he : starEach [.Name n np, .Name y tp] X.env = (false, eval (.Name n np) X.env) :: starEach [.Name y tp] X.env := by rfl) (hpl : (backTo pos (starEach [.Name y tp] X.env)).any (·.1) = false := by rfl) :
    ME (X.suite a ((a, oe) :: pn)) (zSu Z c p cls d (some (i, a))) (.Call (.Name "isinstance" ip) [.Name n np, .Name y tp] [] pos) (eXi cs is c) := by
  by_cases hc : c ∈ cs
  · obtain ⟨C, hk⟩ := hx c hc
    refine PE.imp (pe_callB (call_isE2 (X := X) (pn := pn) hz hf) hg hm hvb (pa_cons (pe_var (X := X.suite a ((a, oe) :: pn)) (i := i) (pos := np) hN hv hd hcd) (pa_cons h2 pa_nil) he) (by decide) (by decide) he hpl) fun σ H Q ⟨m, L, h, ρ, S, A⟩ => ?_
    simp only [eXi, if_pos hc] at A
    have hs := S.jv (i, a) rfl
    refine ⟨.ref a, hs, c2, cv, is c, _, rfl, S.iv.2.1, C, hcv, hk, ?_, Aft.ok (RA := rD X.K) S A (.bl _)⟩
    intro dd e
    subst e
    have h2 := S.iv.2.2
    cases p with
    | none => cases h2
    | some q =>
      obtain ⟨dx, v, h3, h4, h5⟩ := h2
      cases h3
      exact ⟨_, h4⟩
  · refine PE.imp pe_false fun σ H Q ⟨m, L, h, ρ, S, A⟩ => ?_
    simp only [eXi, if_neg hc] at A
    exact A
/-- an own class -/
theorem me_xi {C : Addr} (hx : ∀ c ∈ cs, ExcC X.K (Z.G.ca c) ∧ PySem.W.kitOne X.K (.ref (Z.G.ca c)) (.ref C) = some (is c)) (hgy : Gl X y) (hmy : X.mg y = some (.ref C)) (hg : Gl X "isinstance") (hm : X.mg "isinstance" = none) (hz : Zc cls d oe) (hf : ∃ vs, oe.data = .fields vs) (hN : X.N[i]? = some n) (hv : Vis X.env.scope n) (hd : (n == ("__debug__" : Str)) = false := by decide)
    (hcd : (n == ("__classdict__" : Str)) = false := by decide) (hdy : (y == ("__debug__" : Str)) = false := by decide)
    (he : starEach [.Name n np, .Name y tp] X.env = (false, eval (.Name n np) X.env) :: starEach [.Name y tp] X.env := by rfl) (hpl : (backTo pos (starEach [.Name y tp] X.env)).any (·.1) = false := by rfl) :
    ME (X.suite a ((a, oe) :: pn)) (zSu Z c p cls d (some (i, a))) (.Call (.Name "isinstance" ip) [.Name n np, .Name y tp] [] pos) (eXi cs is c) :=
  me_xi0 (cv := .ref C) (c2 := .ref C) hx (fun u r => r) (pe_glob (X := X.suite a ((a, oe) :: pn)) hgy hmy rfl hdy) hg hm hz hf hN hv hd hcd (he := he) (hpl := hpl)
end
end Mi
end
section
set_option maxHeartbeats 1000000
namespace Mi
open PySem PySem.Spec PyProof.Rows L2
abbrev Fm := PySem.W.Frag → Bool
/-- one def of the text: where it stands, its name, qualified name, parameters, body, scope, defaults -/
structure DefM where
  adr : PySem.W.Frag → Addr
  name : Str
  qual : Str
  params : Arguments
  body : List Stmt
  scope : Scope
  dfl : List He.Dv := []
  kwd : List (Str × He.Dv) := []
def fnM (K : PySem.W.Frag) (a : Addr) : He.FnW := match K.lookup a with
  | some ⟨_, _, .func fd, _⟩ => some (fd.name, fd.qualname, fd.params, fd.body, fd.scope, fd.globals, fd.closure, fd.builtins)
  | _ => none
def DefM.val (d : DefM) : He.FnW := some (d.name, d.qual, d.params, .stmts d.body, d.scope, mainGlobals, [], builtinsNs)
def DefM.dvs (K : PySem.W.Frag) (d : DefM) : List V := d.dfl.map (He.Dv.v K)
def DefM.kws (K : PySem.W.Frag) (d : DefM) : List (Str × V) := d.kwd.map fun q => (q.1, q.2.v K)
def DefM.ok (K : PySem.W.Frag) (d : DefM) : Bool := PySem.W.keepIn K (.ref (d.adr K)) && (match K.lookup (d.adr K) with
  | some ⟨_, _, .func fd, _⟩ => PySem.W.codeIn K fd.code d.qual && (He.dflB K fd.defaults (d.dvs K) && He.kwdB K fd.kwdefaults (d.kws K))
  | _ => false)
theorem DefM.funD {K : PySem.W.Frag} {d : DefM} (e : fnM K (d.adr K) = d.val) (c : d.ok K = true) : ∃ fd, FunD K d.name d.qual d.params d.body d.scope (d.dvs K) (d.kws K) (d.adr K) fd := by
  obtain ⟨kp, c2⟩ := He.ba c
  unfold fnM at e
  cases q : K.lookup (d.adr K) with
  | none =>
    rw [q] at c2
    cases c2
  | some o =>
    obtain ⟨oc, od, dt, osl⟩ := o
    rw [q] at c2 e
    cases dt with
    | func fd =>
      obtain ⟨n1, n2, n3, n4, n5, n6, n7, n8, n9, n10, n11, n12, n13, n14, n15⟩ := fd
      have e2 : (some (n1, n2, n3, n4, n5, n6, n7, n15) : He.FnW) = some (d.name, d.qual, d.params, .stmts d.body, d.scope, mainGlobals, [], builtinsNs) := e
      simp only [Option.some.injEq, Prod.mk.injEq] at e2
      obtain ⟨h1, h2, h3, h4, h5, h6, h7, h8⟩ := e2
      subst h1 h2 h3 h4 h5 h6 h7 h8
      have c3 : (PySem.W.codeIn K n13 d.qual && (He.dflB K n8 (d.dvs K) && He.kwdB K n9 (d.kws K))) = true := c2
      obtain ⟨k1, k2⟩ := He.ba c3
      obtain ⟨k3, k4⟩ := He.ba k2
      exact ⟨_, ⟨oc, od, n8, n9, n10, n11, n12, n13, n14, osl, rfl, q, k1, He.dflB_ok k3, He.kwdB_ok k4⟩, kp⟩
    | _ => cases c2
def obsM (fs : List Fm) (fn : List DefM) (K : PySem.W.Frag) : He.AlD := ((fs.all fun f => f K) && fn.all fun d => d.ok K, fn.map fun d => fnM K (d.adr K))
def valM (fn : List DefM) : He.AlD := (true, fn.map DefM.val)
def SaysM (fs : List Fm) (fn : List DefM) (K : PySem.W.Frag) : Prop := obsM fs fn K = valM fn
/-- the addresses that are reached from the module's names in n steps, each once; which were seen stands in one number's bits -/
def addM : List Addr → List Addr → Nat → (List Addr → Nat → List Addr) → List Addr
  | [], new, seen, k => k new seen
  | a :: r, new, seen, k => match Nat.land (Nat.shiftRight seen a) 1 with
    | 0 => HandSHeadRun.frNat (Nat.lor seen (Nat.shiftLeft 1 a)) fun seen => addM r (a :: new) seen k
    | _ + 1 => addM r new seen k
def refsM (g : Addr → Option Obj) (a : Addr) : List Addr := match g a with
  | some o => He.refsD o
  | none => []
def goM (g : Addr → Option Obj) : Nat → List Addr → List Addr → Nat → List Addr
  | 0, _, acc, _ => acc
  | n + 1, fr, acc, seen => addM (fr.flatMap (refsM g)) [] seen fun new seen => goM g n new (acc ++ new) seen
def asM (g : Addr → Option Obj) (n : Nat) : List Addr := goM g n [mainGlobals] [mainGlobals] (Nat.shiftLeft 1 mainGlobals)
def obsMG (n : Nat) (fs : List Fm) (fn : List DefM) (g : Addr → Option Obj) : He.AlD := obsM fs fn (He.frG g (asM g n))
def hookM (n : Nat) (fs : List Fm) (fn : List DefM) : PySem.W.Hook where
  α := He.AlD
  obs := fun s => obsMG n fs fn s.heap.get?
  val := fun _ => valM fn
  says := fun _ h => ∃ K : PySem.W.Frag, K.In h ∧ SaysM fs fn K
  of := fun _ _ e => ⟨_, He.frG_in, e⟩
  keeps := fun _ _ _ ⟨K, hK, c⟩ k => ⟨K, PySem.W.Frag.In.keeps hK k, c⟩
theorem obsMG_eq {n : Nat} {fs : List Fm} {fn : List DefM} {g : Addr → Option Obj} {s : Shared} (h : ∀ a, g a = s.heap.get? a) : obsMG n fs fn g = (hookM n fs fn).obs s := by
  have e : g = s.heap.get? := funext h
  rw [e] <;> rfl
section
variable {fs : List Fm} {fn : List DefM} {K : PySem.W.Frag}
theorem SaysM.fact (c : SaysM fs fn K) {f : Fm} (h : f ∈ fs) : f K = true := by
  have c1 := (He.ba (show ((fs.all fun f => f K) && fn.all fun d => d.ok K) = true from congrArg (fun z : He.AlD => z.1) c)).1
  exact List.all_eq_true.mp c1 f h
theorem SaysM.def_ (c : SaysM fs fn K) (i : Nat) {d : DefM} (h : fn[i]? = some d := by rfl) : ∃ fd, FunD K d.name d.qual d.params d.body d.scope (d.dvs K) (d.kws K) (d.adr K) fd := by
  have c2 := (He.ba (show ((fs.all fun f => f K) && fn.all fun d => d.ok K) = true from congrArg (fun z : He.AlD => z.1) c)).2
  have e : fn.map (fun d => fnM K (d.adr K)) = fn.map DefM.val := congrArg (fun z : He.AlD => z.2) c
  have e2 : (fn.map fun d => fnM K (d.adr K))[i]? = (fn.map DefM.val)[i]? := by rw [e]
  rw [List.getElem?_map, List.getElem?_map, h] at e2
  exact DefM.funD (Option.some.inj e2) (List.all_eq_true.mp c2 d (List.mem_of_getElem? h))
end
/-- where a def stands: a global | a class's method | the getter of a class's property -/
def aGlo (x : Str) : PySem.W.Frag → Addr := fun K => He.ga K x
def aMeth (c m : Str) : PySem.W.Frag → Addr := fun K => He.ma K (He.ga K c) m
def aGet (c m : Str) : PySem.W.Frag → Addr := fun K => match PySem.W.recIn K (He.ma K (He.ga K c) m) "property" with
  | some (.ref g :: _) => g
  | _ => 0
def fGlo (x : Str) : Fm := fun K => (He.Fa.glo x).ok K
def fFree (x : Str) : Fm := fun K => (He.Fa.free x).ok K
def fInt_ (x : Str) (i : Int) : Fm := fun K => (He.Fa.int x i).ok K
def fStr_ (x z : Str) : Fm := fun K => (He.Fa.str x z).ok K
/-- an own error class whose __init__ stores its argument: what raising it asks -/
def oexB (K : PySem.W.Frag) (C : Addr) : Bool := (match K.lookup C with
  | some ⟨.type "type", _, .cls cd, sl⟩ => (match cd.mro, sl.toList with
    | .ref C' :: bm, [_, _, _, _, some (.builtin n), _] => C' == C && n == "ValueError.__new__" && !cd.hasDel && cd.hasDict && PySem.HandSPX.refsVE bm
    | _, _ => false)
  | _ => false) && (He.eqO (PySem.W.findIn K (.ref C) "__setattr__") (some (some (.builtin "object.__setattr__"))) && (decide (PySem.W.subIn K (.ref C) (.type "BaseException") = some true) && (decide (PySem.W.typeIn K (.ref C) = some (.type "type")) && PySem.W.keepIn K (.ref C))))
theorem oexB_ok {K : PySem.W.Frag} {C : Addr} (h : oexB K C = true) : OexC K C := by
  obtain ⟨q, h⟩ := He.ba h
  obtain ⟨h1, h⟩ := He.ba h
  obtain ⟨h2, h⟩ := He.ba h
  obtain ⟨h3, h4⟩ := He.ba h
  refine ⟨?_, He.eqO_ok h1, of_decide_eq_true h2, of_decide_eq_true h3, h4⟩
  split at q
  · rename_i dd cd sl ho
    split at q
    · rename_i C' bm k0 k1 k2 k3 n k5 hm hs
      simp only [Bool.and_eq_true, beq_iff_eq, Bool.not_eq_true'] at q
      obtain ⟨⟨⟨⟨rfl, rfl⟩, hdel⟩, hdct⟩, ht⟩ := q
      obtain ⟨nm, bs, mro, ns, qn, hd, sn, sub, ab, col, del⟩ := cd
      dsimp only at hm hdel hdct
      subst hm hdel hdct
      have hsl : sl = #[k0, k1, k2, k3, some (.builtin "ValueError.__new__"), k5] := by
        obtain ⟨l⟩ := sl
        simp only at hs
        rw [hs]
      subst hsl
      exact ⟨nm, qn, ns, bs, bm, sn, sub, ab, col, dd, k0, k1, k2, k3, k5, ho, ht⟩
    · cases q
  · cases q
/-- an own error class with a field -/
def fXc (x f : Str) : Fm := fun K => oexB K (He.ga K x) && (He.eqO (PySem.W.findIn K (.ref (He.ga K x)) f) (some none) && (He.eqO (PySem.W.findIn K (.ref (He.ga K x)) "__init__") (some (some (.ref (He.ma K (He.ga K x) "__init__")))) && decide (PySem.W.typeIn K (.ref (He.ma K (He.ga K x) "__init__")) = some (.type "function"))))
theorem fXc_ok {K : PySem.W.Frag} {x f : Str} (h : fXc x f K = true) : XcD K (He.ga K x) f (He.ma K (He.ga K x) "__init__") := by
  obtain ⟨h1, h⟩ := He.ba h
  obtain ⟨h2, h⟩ := He.ba h
  obtain ⟨h3, h4⟩ := He.ba h
  exact ⟨oexB_ok h1, He.eqO_ok h2, He.eqO_ok h3, of_decide_eq_true h4⟩
/-- reading a caught error -/
def excB (K : PySem.W.Frag) (D : Addr) : Bool := He.eqO (PySem.W.findIn K (.ref D) "__getattribute__") (some (some (.builtin "BaseException.__getattribute__"))) && (He.eqO (PySem.W.findIn K (.ref D) "__getattr__") (some none) && (decide (PySem.W.subIn K (.ref D) (.type "BaseException") = some true) && (PySem.W.hasDictIn K D &&
  (He.eqO (PySem.W.findIn K (.ref D) "__class__") (some (some (.builtin "object.__class__"))) && (He.eqO (PySem.W.specialIn K (.builtin "object.__class__") "__get__") (some (some (.builtin "getset_descriptor.__get__"))) && (decide (PySem.W.takesIn K (.builtin "object.__class__") = some true) && decide (PySem.W.mroIn K D (.type "object") = some true)))))))
theorem excB_ok {K : PySem.W.Frag} {C : Addr} (h : excB K C = true) : ExcC K C := by
  obtain ⟨h1, h⟩ := He.ba h
  obtain ⟨h2, h⟩ := He.ba h
  obtain ⟨h3, h⟩ := He.ba h
  obtain ⟨h4, h⟩ := He.ba h
  obtain ⟨h5, h⟩ := He.ba h
  obtain ⟨h6, h⟩ := He.ba h
  obtain ⟨h7, h8⟩ := He.ba h
  exact ⟨He.eqO_ok h1, He.eqO_ok h2, of_decide_eq_true h3, h4, He.eqO_ok h5, He.eqO_ok h6, of_decide_eq_true h7, of_decide_eq_true h8⟩
theorem excX {K : PySem.W.Frag} {C : Addr} (h : ExcC K C) : XfC K C := ⟨h.hg, h.hk, h.hs, h.hd⟩
/-- the classes by number -/
def gxOf (K : PySem.W.Frag) (ns fs : List Str) (w : World) : Gx := ⟨fun c => He.ga K (ns.getD c ""), fun c => fs.getD c "", w⟩
/-- for every class below n -/
def fAll_ (n : Nat) (f : Nat → Fm) : Fm := fun K => (List.range n).all fun c => f c K
theorem fAll_ok {K : PySem.W.Frag} {n : Nat} {f : Nat → Fm} (h : fAll_ n f K = true) {c : Nat} (hc : c < n) : f c K = true := List.all_eq_true.mp h c (List.mem_range.mpr hc)
def fExc (ns : List Str) (c : Nat) : Fm := fun K => excB K (He.ga K (ns.getD c ""))
def fExm (ns : List Str) (y : Str) (is : Nat → Bool) (c : Nat) : Fm := fun K => decide (PySem.W.exmOne K (.ref (He.ga K (ns.getD c ""))) (.ref (He.ga K y)) = some (is c))
def fKit (ns : List Str) (y : Str) (is : Nat → Bool) (c : Nat) : Fm := fun K => decide (PySem.W.kitOne K (.ref (He.ga K (ns.getD c ""))) (.ref (He.ga K y)) = some (is c))
/-- what the text says, and what the module's names stand for -/
structure Tx (fs : List Fm) (fn : List DefM) (K : PySem.W.Frag) (mg : Str → Option Value) : Prop where
  c : SaysM fs fn K
  ex : ∃ h : Heap, K.In h ∧ h.Ns mainGlobals mg
section
variable {fs : List Fm} {fn : List DefM} {K : PySem.W.Frag} {mg : Str → Option Value}
theorem Tx.glo (T : Tx fs fn K mg) (i : Nat) {x : Str} (h : fs[i]? = some (fGlo x) := by rfl) : mg x = some (.ref (He.ga K x)) := by
  obtain ⟨hp, h1, h2⟩ := T.ex
  exact He.glo_ok h1 h2 (T.c.fact (List.mem_of_getElem? h))
theorem Tx.free (T : Tx fs fn K mg) (i : Nat) {x : Str} (h : fs[i]? = some (fFree x) := by rfl) : mg x = none := by
  obtain ⟨hp, h1, h2⟩ := T.ex
  exact He.free_ok h1 h2 (T.c.fact (List.mem_of_getElem? h))
theorem Tx.int (T : Tx fs fn K mg) (i : Nat) {x : Str} {j : Int} (h : fs[i]? = some (fInt_ x j) := by rfl) : ∃ t, mg x = some (.int j t) := by
  obtain ⟨hp, h1, h2⟩ := T.ex
  exact He.int_ok h1 h2 (T.c.fact (List.mem_of_getElem? h))
theorem Tx.str (T : Tx fs fn K mg) (i : Nat) {x z : Str} (h : fs[i]? = some (fStr_ x z) := by rfl) : ∃ t, mg x = some (.str z t) := by
  obtain ⟨hp, h1, h2⟩ := T.ex
  exact He.str_ok h1 h2 (T.c.fact (List.mem_of_getElem? h))
theorem Tx.at_ (T : Tx fs fn K mg) (i : Nat) {f : Fm} (h : fs[i]? = some f := by rfl) : f K = true := T.c.fact (List.mem_of_getElem? h)
end
/-- how a call binds: all positional, or keyword-only parameters left out or written -/
def KwOk (K : PySem.W.Frag) (fd : FuncData) (d : DefM) (p : List Str) : Prop := match d.kwd with
  | [] => Binds K fd p []
  | q :: r => (∃ ds, Vals ((q :: r).map fun z => z.2.v K) ds ∧ Binds K fd p ds) ∧ ∃ g, KBn K fd p (p.length - (r.length + 1)) ((q :: r).map (·.1)) g (fun vs zs => vs ++ zs)
/-- all defs at a depth -/
def AllOk (P : Program) (w : World) (K : PySem.W.Frag) (mg : Str → Option Value) (base : Heap) (G : Gx) (fn : List DefM) (ps : List (Nat × List Str)) (k : Nat) (r : Nat → FX) : Prop :=
  ∀ (i : Nat) (d : DefM) (o : Nat) (p : List Str), fn[i]? = some d → ps[i]? = some (o, p) → ∃ fd, FnOk P w K mg base (L2.CX P w) (k + o) (d.adr K) fd p (spF K G p.length (r i)) ∧ KwOk K fd d p ∧ PySem.W.keepIn K (.ref (d.adr K)) = true ∧ ∀ j, j < d.dfl.length → ∃ ds, Vals ((d.dvs K).drop j) ds ∧ Binds K fd p ds
/-- a def of which nothing is said -/
def badX : FX := fun _ _ _ => .bad
theorem tk_quiet {X : Cx} : Takes X (fun _ _ _ _ => False) := fun u s' ⟨_, _, _, _, _, _, _, _, _, _, _, _, _, _, _, _, w⟩ => w.elim
/-- a block's scope -/
def blkB (N : List Str) (sc scope : Scope) (own : List (Str × Nat)) : Bool := decide (scope.kind = .function) && (decide (∀ y ∈ scope.names, scope.names.lookup y.1 = some y.2) && (decide (∀ p ∈ own, N[p.2]? = some p.1) && (decide (∀ y ∈ scope.names, y.2 = .free → sc.names.lookup y.1 = some .cell ∨ sc.names.lookup y.1 = some .free) && decide (∀ y ∈ scope.names, y.2 = .local ∨ y.2 = .cell → y.1 ∈ own.map (·.1) ∨ y.1 ∉ N))))
theorem blk_mk {N : List Str} {sc scope : Scope} {own : List (Str × Nat)} (h : blkB N sc scope own = true) : BlkOk N sc scope own := by
  obtain ⟨h1, h⟩ := He.ba h
  obtain ⟨h2, h⟩ := He.ba h
  obtain ⟨h3, h⟩ := He.ba h
  obtain ⟨h4, h5⟩ := He.ba h
  exact ⟨of_decide_eq_true h1, of_decide_eq_true h2, of_decide_eq_true h3, of_decide_eq_true h4, of_decide_eq_true h5⟩
/-- a suite, whatever the error is -/
theorem su_of {X : Cx} {Z : Zx X.K} {x : Hd} {a : Addr} {oe : Obj} {cls : Value} {d : Option Addr} {pn : List (Addr × Obj)} {body : List Stmt} (h : ∀ c p, PSs (X.suite a ((a, oe) :: pn)) body (Rs X.K (zSu Z c p cls d (x.slot.map fun i => (i, a))) (x.suite c p))) : PSs (X.suite a ((a, oe) :: pn)) body (tSu X.K Z x a cls d) :=
  ⟨fun pins s σ H D I ⟨c, p, q⟩ => (h c p).run pins s σ H D I q⟩
/-- a law's def: nothing is let out -/
theorem fn_top {P : Program} {w : World} {K : PySem.W.Frag} {mg : Str → Option Value} {base : Heap} {k : Nat} {f : Addr} {fd : FuncData} {ps : List Str} {sp : Sp} (F : FnOk P w K mg base (L2.CX P w) k f fd ps sp) : FnOk P w K mg base L2.CX0 k f fd ps (fun vs H Q _ => sp vs H Q fun _ _ _ => False) :=
  ⟨fun vs H Q E h => F.len vs H Q _ h, fun A outer s H args us vs Q E hr e0 hb hv hs => codeAny_mono (F.run A outer s H args us vs Q _ hr e0 hb hv hs) fun r s' h => by
    cases r with
    | ok o =>
      cases o with
      | ret u => exact h
      | _ => exact h
    | error e =>
      obtain ⟨_, _, _, _, _, _, _, _, _, _, _, _, z⟩ := (h : L2.CX P w outer H s _ e s')
      exact z⟩
/-- the script -/
theorem script_rd {K : PySem.W.Frag} {H : Hp} {a : Addr} {ns : List Int} {m : List Addr} (ho : Only H) (h : SqL K H a (ns.map V.int)) : RD K H m (.frl (ns.map .int)) (.ref a) := by
  have t : RDs K H m (ns.map Mi.D.int) (ns.map V.int) := by
    induction ns with
    | nil => exact .nil
    | cons i r ih => exact .cons (.int i) (by
        clear h ih
        induction r with
        | nil => exact .nil
        | cons j r ih => exact .cons (.int j) ih)
  refine .frl ?_ t
  rcases h with (h | h) | h
  · rcases ho a with e | ⟨o, xs, e⟩
    · rw [e] at h; cases h
    · rw [e] at h; cases h
  · exact .inl h
  · exact .inr h
theorem top_sp {K : PySem.W.Frag} {G : Gx} {np : Nat} {f : FX} {H : Hp} {a : Addr} {ns : List Int} (hn : np = 1) (ho : Only H) (h : SqL K H a (ns.map V.int)) (hf : ∃ h', f [.frl (ns.map .int)] [] [] = .ok (.bl true) h') : spF K G np f [.ref a] H (fun v _ => v = .bl true) fun _ _ _ => False := by
  obtain ⟨h', e⟩ := hf
  subst hn
  refine ⟨rfl, [], [], [], [.frl (ns.map .int)], ⟨rfl, List.nodup_nil, fun n o a e => by simp at e⟩, fun k hk => by simp at hk, .cons (script_rd ho h) .nil, ?_⟩
  rw [e]
  intro m' H' v l p r q
  cases q
  rfl
section
variable {X : Cx} {Z : Zx X.K} {a b e o : Expr} {es : List Expr} {ra rb : EX} {rs : AX} {pos p p2 apos : Pos}
theorem me_fLen (hg : Gl X "len") (hm : X.mg "len" = none) (ha : MA X Z [e] rs) (he : starEach [e] X.env = (false, eval e X.env) :: starEach [] X.env := by rfl) (hpl : (backTo pos (starEach [] X.env)).any (·.1) = false := by rfl) : ME X Z (.Call (.Name "len" p) [e] [] pos) (eCB fLen rs) := me_cb call_lenX ok_len hg hm (by decide +kernel) ha (he := he) (hpl := hpl)
theorem me_fInt (hg : Gl X "int") (hm : X.mg "int" = none) (ha : MA X Z [e] rs) (he : starEach [e] X.env = (false, eval e X.env) :: starEach [] X.env := by rfl) (hpl : (backTo pos (starEach [] X.env)).any (·.1) = false := by rfl) : ME X Z (.Call (.Name "int" p) [e] [] pos) (eCB fInt rs) := me_cty call_int1 ok_int hg hm (by decide +kernel) ha (he := he) (hpl := hpl)
theorem me_fTuple (hg : Gl X "tuple") (hm : X.mg "tuple" = none) (ha : MA X Z [e] rs) (he : starEach [e] X.env = (false, eval e X.env) :: starEach [] X.env := by rfl) (hpl : (backTo pos (starEach [] X.env)).any (·.1) = false := by rfl) : ME X Z (.Call (.Name "tuple" p) [e] [] pos) (eCB fTuple rs) := me_cty call_tuple_of ok_tuple hg hm (by decide +kernel) ha (he := he) (hpl := hpl)
theorem me_fMin2 (hc : X.calm = true) (hg : Gl X "min") (hm : X.mg "min" = none) (ha : MA X Z [e, a] rs) (he : starEach [e, a] X.env = (false, eval e X.env) :: starEach [a] X.env := by rfl) (hpl : (backTo pos (starEach [a] X.env)).any (·.1) = false := by rfl) : ME X Z (.Call (.Name "min" p) [e, a] [] pos) (eCB fMin2 rs) := me_cb (call_min2 hc) ok_min2 hg hm (by decide +kernel) ha (he := he) (hpl := hpl)
theorem me_fSum (hc : X.calm = true) (hg : Gl X "sum") (hm : X.mg "sum" = none) (ha : MA X Z [e] rs) (he : starEach [e] X.env = (false, eval e X.env) :: starEach [] X.env := by rfl) (hpl : (backTo pos (starEach [] X.env)).any (·.1) = false := by rfl) : ME X Z (.Call (.Name "sum" p) [e] [] pos) (eCB fSum rs) := me_cb (cr_sum hc) ok_sum hg hm (by decide +kernel) ha (he := he) (hpl := hpl)
theorem me_fAll (hc : X.calm = true) (hg : Gl X "all") (hm : X.mg "all" = none) (ha : MA X Z [e] rs) (he : starEach [e] X.env = (false, eval e X.env) :: starEach [] X.env := by rfl) (hpl : (backTo pos (starEach [] X.env)).any (·.1) = false := by rfl) : ME X Z (.Call (.Name "all" p) [e] [] pos) (eCB fAll rs) := me_cb (cr_all hc) ok_all hg hm (by decide +kernel) ha (he := he) (hpl := hpl)
end
end Mi
end
section
set_option maxHeartbeats 1000000
namespace Mi
open PySem PySem.Spec PyProof.Rows L2
theorem lookup_cons {α : Type} {f g : Str} {v : α} {r : List (Str × α)} : List.lookup f ((g, v) :: r) = if f = g then some v else List.lookup f r := by
  by_cases h : f = g
  · subst h; simp [List.lookup]
  · have : (f == g) = false := by simpa using h
    simp [List.lookup, this, h]
theorem rk_lookup {K : PySem.W.Frag} {H : Hp} {m : List Addr} {f : Str} : ∀ {fs : List (Str × D)} {gs : List (Str × V)} {d : D}, RK K H m fs gs → fs.lookup f = some d → ∃ v, gs.lookup f = some v ∧ RD K H m d v
  | _, _, _, .nil, e => by cases e
  | (k, x) :: r, (k', v) :: r', d, .cons q t, e => by
    obtain ⟨hk, q⟩ : k = k' ∧ RD K H m x v := q
    subst hk
    rw [lookup_cons] at e ⊢
    split at e
    · rename_i hf
      cases e
      exact ⟨v, by rw [if_pos hf], q⟩
    · rename_i hf
      rw [if_neg hf]
      exact rk_lookup t e
theorem rk_put {K : PySem.W.Frag} {H : Hp} {m : List Addr} {f : Str} {d : D} {v : V} (q : RD K H m d v) : ∀ {fs : List (Str × D)} {gs : List (Str × V)}, RK K H m fs gs → RK K H m (putFD f d fs) (putF f v gs)
  | _, _, .nil => .cons ⟨rfl, q⟩ .nil
  | (k, x) :: r, (k', w) :: r', .cons q' t => by
    obtain ⟨hk, q2⟩ : k = k' ∧ RD K H m x w := q'
    subst hk
    unfold putFD putF
    by_cases hf : k = f
    · rw [if_pos hf, if_pos hf]
      exact .cons ⟨rfl, q⟩ t
    · rw [if_neg hf, if_neg hf]
      exact .cons ⟨rfl, q2⟩ (rk_put q t)
/-- an instance stands where the heap says -/
theorem RH.ins {K : PySem.W.Frag} {G : Gx} {L : List Nat} {m : List Addr} {h : Hh} {H : Hp} {n c : Nat} {a : Addr} {fs : List (Str × D)} (S : RH K G L m h H) (e : h[n]? = some (.ins c fs)) (ea : m[n]? = some a) : ∃ dx gs, H a = some (.ins (G.ca c) dx gs) ∧ RK K H m fs gs ∧ n ∉ L := by
  obtain ⟨u, q, i1, i2⟩ := S.at_ n _ a e ea
  have nl : n ∉ L := fun z => by
    have := (i1 z).1
    cases this
  cases u <;> first | exact False.elim q | skip
  obtain ⟨rfl, q2⟩ := q
  exact ⟨_, _, i2 nl, q2, nl⟩
section
variable {X : Cx} {Z : Zx X.K} {e o a : Expr} {es : List Expr} {ra rb : EX} {rs : AX} {pos pos' apos p : Pos} {cs : List Nat} {f x m : Str} {c k np : Nat} {fa : Addr} {fd : FuncData} {ps : List Str} {fx : FX}
/-- e.f -/
theorem me_fld (hc : ∀ c ∈ cs, Cls X.K (Z.G.ca c) ∧ NoAttr X.K (Z.G.ca c) f) (he : ME X Z e ra) (hb : attributeBase e f X.env (eval e X.env) = eval e X.env := by rfl) : ME X Z (.Attribute e f pos) (eFld cs f ra) := by
  refine PE.imp (pe_fld he hb) fun σ H Q ⟨m, L, h, ρ, S, A⟩ => ?_
  refine Rg.bind (RC := rD X.K) S A fun m1 h1 H1 x v S1 l1 p1 q1 A1 => ?_
  cases q1 with
  | ref hn =>
    simp only at A1
    split at A1
    · rename_i c fs ek
      split at A1
      · rename_i hcs
        split at A1
        · rename_i d ed
          obtain ⟨dx, gs, ha, q, nl⟩ := S1.rh.ins ek hn
          obtain ⟨w, hw, qw⟩ := rk_lookup q ed
          exact ⟨_, _, _, _, w, rfl, ha, (hc c hcs).1, (hc c hcs).2, hw, Aft.ok (RA := rD X.K) S1 A1 qw⟩
        · exact False.elim A1
      · exact False.elim A1
    · exact False.elim A1
  | _ => exact False.elim A1
/-- o.f = e -/
theorem ms_fld (hc : ∀ c ∈ cs, Cls X.K (Z.G.ca c) ∧ NoAttr X.K (Z.G.ca c) f) (ho : ME X Z o rb) (he : ME X Z e ra) (hs : swapsWith e (some (.Attribute o f pos')) pos.line X.env = pure false := by rfl) : MS X Z (.Assign [.Attribute o f pos'] e pos) (sFldX cs f rb ra) := by
  refine PS.imp (ps_fld ho he hs) fun D σ H ⟨m, L, h, ρ, S, A⟩ => ?_
  refine Rg.toS S A fun m1 h1 H1 d w S1 l1 p1 q1 A1 => ?_
  refine Rg.toS S1 A1 fun m2 h2 H2 x v S2 l2 p2 q2 A2 => ?_
  cases q2 with
  | ref hn =>
    simp only at A2
    split at A2
    · rename_i c fs ek
      split at A2
      · rename_i hcs
        obtain ⟨dx, gs, ha, q, nl⟩ := S2.rh.ins ek hn
        obtain ⟨r', p'⟩ := S2.rh.put ek hn nl (o' := .ins c (putFD f d fs)) (u' := .ins (Z.G.ca c) dx (putF f w gs)) ⟨rfl, rk_put (q1.mono p2 l2) q⟩
        exact ⟨_, _, _, _, rfl, ha, (hc c hcs.1).1, (hc c hcs.1).2, by rw [← q.length]; exact hcs.2, (A2 : ∀ _, _) m2 _ σ (Le.refl _) p' r' (S2.rs.mono p' (Le.refl _))⟩
      · exact False.elim A2
    · exact False.elim A2
  | _ => exact False.elim A2
end
end Mi
end
section
set_option maxHeartbeats 1000000
namespace Mi
open PySem PySem.Spec PyProof.Rows L2
section
variable {X : Cx} {CX : CXT} {k : Nat} {f C : Addr} {fd : FuncData} {ps : List Str} {sp : Sp} {E : L2.St → XK} {x : Str} {p pos : Pos} {e : Expr} {es : List Expr} {t : TA}
theorem run_makeS {pins : List (Addr × Obj)} {σ : L2.St} {H : Hp} {s : Shared} {Q : VK} {us : List Value} {vs : List V} {E : XK} (M : Mk X.K C f) (F : FnOk X.prog X.w X.K X.mg X.base CX k f fd ps sp) (hr : Room (k + 1) X.A) (hb : Binds X.K fd ps [])
    (hx : PassesAt CX X σ E) (I : Inv X pins σ H s) (r : Vals vs us)
    (h : ∀ x dx, H x = none → H dx = none → dx ≠ x → sp (.ref x :: vs) (upd (upd H dx (.own x)) x (.ins C dx [])) (fun v H2 => v = .non ∧ Q (.ref x) H2) E) :
    wpAny (model X.prog X.w) X.A (call (.ref C) us) (EP X pins σ Q) X.xe s := by
  have hq := h (s.heap.objs.size + 1) s.heap.objs.size (I.hok.fresh (Nat.le_succ _)) (I.hok.fresh (Nat.le_refl _)) (Nat.ne_of_lt (Nat.lt_succ_self _))
  have I2 := Inv.made (C := C) I
  have r2 : Vals (V.ref (s.heap.objs.size + 1) :: vs) (Value.ref (s.heap.objs.size + 1) :: us) := .cons rfl r
  have hl : (Value.ref (s.heap.objs.size + 1) :: us ++ []).length = ps.length := by
    have el := r2.length
    rw [F.len _ _ _ _ hq] at el
    rw [List.append_nil]
    exact el.symm
  have b := hb _ (Value.ref (s.heap.objs.size + 1) :: us) I2.kIn hl
  rw [List.append_nil] at b
  refine wpAny_call (make_map (f := f) I.kIn M.makes M.init (beq_iff_eq.mp M.fn) (codeAny_mono (F.run _ X.stack _ _ ⟨Value.ref (s.heap.objs.size + 1) :: us, []⟩ (Value.ref (s.heap.objs.size + 1) :: us) _ _ E (hr.make C us []) (I2.env0.make C us []) b r2 hq) fun r s' hq' => ?_))
  cases r with
  | error er => exact hx pins _ _ er s' I2 hq'
  | ok fl =>
    cases fl with
    | ret u =>
      obtain ⟨v, H', I3, rv, ev, q3⟩ := I2.after hq'
      subst ev
      exact ⟨rv, ⟨V.ref (s.heap.objs.size + 1), H', I3, rfl, q3⟩⟩
    | next => exact False.elim hq'
    | brk => exact False.elim hq'
    | cont => exact False.elim hq'
def tMakeS (C : Addr) (sp : Sp) (E : L2.St → XK) (t : TA) : TE := fun σ H Q => t σ H fun vs H1 => ∀ x dx, H1 x = none → H1 dx = none → dx ≠ x →
  sp (.ref x :: vs) (upd (upd H1 dx (.own x)) x (.ins C dx [])) (fun v H2 => v = .non ∧ Q (.ref x) H2) (E σ)
theorem pe_makeS (M : Mk X.K C f) (F : FnOk X.prog X.w X.K X.mg X.base CX k f fd ps sp) (hr : Room (k + 1) X.A) (hg : Gl X x) (hm : X.mg x = some (.ref C)) (hb : Binds X.K fd ps []) (hx : ∀ σ, PassesAt CX X σ (E σ))
    (ha : PA X (e :: es) t) (hdb : (x == ("__debug__" : Str)) = false := by decide) (he : starEach (e :: es) X.env = (false, eval e X.env) :: starEach es X.env := by rfl) (hpl : (backTo pos (starEach es X.env)).any (·.1) = false := by rfl) :
    PE X (.Call (.Name x p) (e :: es) [] pos) (tMakeS C sp E t) := by
  refine ⟨fun pins s σ H Q I h => ?_⟩
  refine wpAny_Call_Name_kw (ld_glob I hg hm ?_ hdb)
  refine PySem.W.callWith_K (h₀ := X.base) I.ok.mod.kin M.kp (thn (ha.run pos pins s σ H _ I h) fun us s1 ⟨vs, H1, I1, r, q⟩ => ⟨I1.kIn, ?_⟩) he hpl
  exact run_makeS M F hr hb (hx σ) I1 r q
end
section
variable {X : Cx} {Z : Zx X.K} {e o a b : Expr} {es : List Expr} {ra rb : EX} {rs : AX} {pos p : Pos} {f x : Str} {c k np : Nat} {fa pa : Addr} {fd : FuncData} {ps : List Str} {fx : FX}
/-- C(e, ..) -/
theorem me_make (M : Mk X.K (Z.G.ca c) fa) (F : FnOk X.prog X.w X.K X.mg X.base (L2.CX X.prog X.w) k fa fd ps (spF X.K Z.G ps.length fx)) (hr : Room (k + 1) X.A) (hg : Gl X x) (hm : X.mg x = some (.ref (Z.G.ca c))) (hb : Binds X.K fd ps []) (tk : Takes X Z.W) (ha : MA X Z (e :: es) rs) (hnp : np = ps.length := by rfl)
    (hdb : (x == ("__debug__" : Str)) = false := by decide) (he : starEach (e :: es) X.env = (false, eval e X.env) :: starEach es X.env := by rfl) (hpl : (backTo pos (starEach es X.env)).any (·.1) = false := by rfl) : ME X Z (.Call (.Name x p) (e :: es) [] pos) (eMake c np fx rs) := by
  refine PE.imp (pe_makeS M F hr hg hm hb (fun σ => passAt tk σ) ha hdb he hpl) fun σ H Q ⟨m, L, h, ρ, S, A⟩ => ?_
  refine Rg.bind (RC := rD X.K) S A fun m1 h1 H1 ds vs S1 l1 p1 q1 A1 => ?_
  intro xa dx hx hdx hne
  split at A1
  · rename_i hlen
    have P1 : Pers X.K H1 (upd H1 dx (.own xa)) := pers_new hdx
    have hx2 : upd H1 dx (.own xa) xa = none := by rw [upd_ne (fun z => hne z.symm)]; exact hx
    have P2 : Pers X.K (upd H1 dx (.own xa)) (upd (upd H1 dx (.own xa)) xa (.ins (Z.G.ca c) dx [])) := pers_new hx2
    have S2 := (S1.rh.more (u := .own xa) hdx).new (o := .ins c []) (u := .ins (Z.G.ca c) dx []) hx2 ⟨rfl, .nil⟩ S1.lk
    have hi : (m1 ++ [xa])[h1.length]? = some xa := by rw [← S1.rh.len]; simp
    refine ⟨by rw [List.length_cons, ← q1.length, hlen, hnp], m1 ++ [xa], L, h1 ++ [.ins c []], _, S2, fun k hk => ?_, .cons (.ref hi) (RDs.mono (P1.trans P2) (Le.app _ _) q1), ?_⟩
    · rw [List.length_append]
      exact Nat.lt_of_lt_of_le (S1.lk k hk) (Nat.le_add_right _ _)
    · generalize fx (.ref h1.length :: ds) L (h1 ++ [.ins c []]) = r at A1
      cases r with
      | ok d h2 =>
        intro m' H' v l pp rr q
        cases d <;> first | exact False.elim A1 | skip
        cases q
        exact ⟨rfl, (A1 : ∀ _, _) m' H' _ (Le.trans (Le.app m1 [xa]) l) ((P1.trans P2).trans pp) rr (.ref (l _ _ hi))⟩
      | exc c' q' h2 => exact fun m' H' cls d l pp rr xx => (A1 : ∀ _, _) m' H' cls d (Le.trans (Le.app m1 [xa]) l) ((P1.trans P2).trans pp) rr xx
      | bad => exact False.elim A1
  · exact False.elim A1
/-- what isinstance asks of an instance's class -/
structure InsF (K : PySem.W.Frag) (C : Addr) : Prop where
  cl : Cls K C
  ha : PySem.W.findIn K (.ref C) "__class__" = some (some (.builtin "object.__class__"))
  hn : PySem.W.specialIn K (.builtin "object.__class__") "__get__" = some (some (.builtin "getset_descriptor.__get__"))
  htk : PySem.W.takesIn K (.builtin "object.__class__") = some true
  hm : PySem.W.mroIn K C (.type "object") = some true
/-- isinstance(x, C), C an own class at y -/
theorem me_isO {cs : List Nat} {is : Nat → Bool} {D : Addr} {y : Str} {tp : Pos} (ht : ∀ t ∈ tyNames, PySem.W.kitOne X.K (.type t) (.ref D) = some false) (ho : ∀ c ∈ cs, InsF X.K (Z.G.ca c) ∧ PySem.W.kitOne X.K (.ref (Z.G.ca c)) (.ref D) = some (is c))
    (hg : Gl X "isinstance") (hm : X.mg "isinstance" = none) (hgy : Gl X y) (hmy : X.mg y = some (.ref D)) (ha : ME X Z a ra) (hdy : (y == ("__debug__" : Str)) = false := by decide) (hv : bootBuiltins "isinstance" = some (.builtin "isinstance") := by decide +kernel)
    (he : starEach [a, .Name y tp] X.env = (false, eval a X.env) :: starEach [.Name y tp] X.env := by rfl) (hpl : (backTo pos (starEach [.Name y tp] X.env)).any (·.1) = false := by rfl) : ME X Z (.Call (.Name "isinstance" p) [a, .Name y tp] [] pos) (eUn (uIsO cs is) ra) := by
  refine PE.imp (pe_callB (call_isi (X := X)) hg hm hv (pa_cons ha (pa_cons (pe_glob (v := .ref D) hgy hmy rfl hdy) pa_nil) he) (by decide) (by decide) he hpl) fun σ H Q ⟨m, L, h, ρ, S, A⟩ => ?_
  refine Rg.bind (RC := rD X.K) S A fun m1 h1 H1 d v S1 l1 p1 q1 A1 => ?_
  have base : ∀ {t : String}, tyD d h1 = some t → uIsO cs is d h1 = .ok (.bl false) h1 → rIsi X.K [v, .ref D] H1 Q := fun {t} e e2 => by
    rw [e2] at A1
    exact ⟨v, .ref D, _, _, _, rfl, .own D, tyD_ok S1.rh q1 e, ht t (tyD_mem e), Aft.ok (RA := rD X.K) S1 A1 (.bl _)⟩
  cases d with
  | ref n =>
    cases ek : h1[n]? with
    | none =>
      simp only [uIsO, ek] at A1
      exact False.elim A1
    | some o =>
      cases o with
      | lst xs => exact base (t := "list") (by simp [tyD, ek]) (by simp [uIsO, ek])
      | dic xs => exact base (t := "dict") (by simp [tyD, ek]) (by simp [uIsO, ek])
      | dct xs =>
        simp only [uIsO, ek] at A1
        exact False.elim A1
      | dnk xs =>
        simp only [uIsO, ek] at A1
        exact False.elim A1
      | ins c fs =>
        simp only [uIsO, ek] at A1
        split at A1
        · rename_i hc
          cases q1 with
          | ref hn =>
            obtain ⟨dx, gs, hi, q, nl⟩ := S1.rh.ins ek hn
            obtain ⟨F, hk⟩ := ho c hc
            exact ⟨_, .ref D, _, _, _, rfl, .own D, .base (.ins hi F.cl F.ha F.hn F.htk F.hm), hk, Aft.ok (RA := rD X.K) S1 A1 (.bl _)⟩
        · exact False.elim A1
  | non => exact base rfl rfl
  | bl b => exact base rfl rfl
  | int i => exact base rfl rfl
  | str x => exact base rfl rfl
  | tup xs => exact base rfl rfl
  | frl xs => exact base rfl rfl
end
def fCls (x : Str) : Fm := fun K => (He.Fa.cls x).ok K
def fNoat (x f : Str) : Fm := fun K => (He.Fa.noat x f).ok K
def fMkr (x : Str) : Fm := fun K => (He.Fa.mkr x).ok K
def insB (K : PySem.W.Frag) (C : Addr) : Bool := He.eqO (PySem.W.findIn K (.ref C) "__class__") (some (some (.builtin "object.__class__"))) && (He.eqO (PySem.W.specialIn K (.builtin "object.__class__") "__get__") (some (some (.builtin "getset_descriptor.__get__"))) && (decide (PySem.W.takesIn K (.builtin "object.__class__") = some true) && decide (PySem.W.mroIn K C (.type "object") = some true)))
def fIns (x : Str) : Fm := fun K => (He.Fa.cls x).ok K && insB K (He.ga K x)
theorem fIns_ok {K : PySem.W.Frag} {x : Str} (h : fIns x K = true) : InsF K (He.ga K x) := by
  obtain ⟨h1, h⟩ := He.ba h
  obtain ⟨h2, h⟩ := He.ba h
  obtain ⟨h3, h⟩ := He.ba h
  obtain ⟨h4, h5⟩ := He.ba h
  exact ⟨He.cls_ok h1, He.eqO_ok h2, He.eqO_ok h3, of_decide_eq_true h4, of_decide_eq_true h5⟩
/-- the class is no built-in type's -/
def fTyNo (y : Str) : Fm := fun K => tyNames.all fun t => decide (PySem.W.kitOne K (.type t) (.ref (He.ga K y)) = some false)
theorem fTyNo_ok {K : PySem.W.Frag} {y : Str} (h : fTyNo y K = true) : ∀ t ∈ tyNames, PySem.W.kitOne K (.type t) (.ref (He.ga K y)) = some false := fun t ht => of_decide_eq_true (List.all_eq_true.mp h t ht)
def fKit1 (x y : Str) (b : Bool) : Fm := fun K => decide (PySem.W.kitOne K (.ref (He.ga K x)) (.ref (He.ga K y)) = some b)
end Mi
end
section
set_option maxHeartbeats 1000000
namespace Mi
open PySem PySem.Spec PyProof.Rows L2
abbrev rPs (K : PySem.W.Frag) : Rl (List (D × D)) (List (V × V)) := fun m H ds vs => Paired (fun (p : D × D) (q : V × V) => RD K H m p.1 q.1 ∧ RD K H m p.2 q.2) ds vs
section
variable {K : PySem.W.Frag} {Z : Zx K}
theorem pairs_go : ∀ (ps : List (EX × EX)) {m : List Addr} {L : List Nat} {h : Hh} {ρ : Rho} {σ : L2.St} {H : Hp} {F : List (V × V) → Hp → Prop}, Stt K Z L m h ρ σ H → Aft K (rPs K) Z.G L m H (pairsX ps ρ L h) F (wS Z.W σ) → tPairs (ps.map fun q => (Rg K (rD K) Z q.1, Rg K (rD K) Z q.2)) σ H F
  | [], m, L, h, ρ, σ, H, F, S, A => (A : ∀ _, _) m H [] (Le.refl _) (Pers.refl _) S.rh .nil
  | q :: r, m, L, h, ρ, σ, H, F, S, A => by
    show Rg K (rD K) Z q.1 σ H _
    refine Rg.bind (RC := rPs K) S A fun m1 h1 H1 k v S1 l1 p1 q1 A1 => ?_
    show Rg K (rD K) Z q.2 σ H1 _
    refine Rg.bind (RC := rPs K) S1 A1 fun m2 h2 H2 d w S2 l2 p2 q2 A2 => ?_
    refine pairs_go r S2 (Aft.then (RC := rPs K) S2 A2 fun m3 h3 H3 ds vs S3 l3 p3 q3 A3 => ?_)
    exact (A3 : ∀ _, _) m3 H3 ((v, w) :: vs) (Le.refl _) (Pers.refl _) S3.rh (.cons ⟨(q1.mono p2 l2).mono p3 l3, q2.mono p3 l3⟩ q3)
theorem kvs_ok {m : List Addr} {H : Hp} : ∀ {qs : List (D × D)} {vs : List (V × V)} {kvs : List (Key × D)}, rPs K m H qs vs → kvsD qs = some kvs → ∃ kws : List (Key × V), vs = kws.map (fun kv => (kV kv.1, kv.2)) ∧ RK K H m kvs kws
  | _, _, _, .nil, e => by cases e; exact ⟨[], rfl, .nil⟩
  | (k, d) :: r, (v, w) :: r', kvs, .cons q t, e => by
    simp only [kvsD] at e
    split at e
    · rename_i k' r2 e1 e2
      cases e
      obtain ⟨kws, e3, q3⟩ := kvs_ok t e2
      have ev : v = kV k' := keyD_ok q.1 e1
      subst ev
      exact ⟨(k', w) :: kws, by rw [e3]; rfl, .cons ⟨rfl, q.2⟩ q3⟩
    · cases e
theorem merge_ok {m : List Addr} {H : Hp} : ∀ {more : List (Key × D)} {more' : List (Key × V)} {kvs : List (Key × D)} {kvs' : List (Key × V)}, RK K H m more more' → RK K H m kvs kvs' → RK K H m (mergeD kvs more) (mergeK kvs' more')
  | _, _, kvs, kvs', .nil, r => r
  | (k, d) :: r, (k', v) :: r', kvs, kvs', .cons q t, rk => by
    obtain ⟨hk, q⟩ : k = k' ∧ RD K H m d v := q
    subst hk
    show RK K H m (mergeD (putD kvs k d) r) (mergeK (putK kvs' k v) r')
    exact merge_ok (more := r) (more' := r') t (RK.put rk q)
end
section
variable {X : Cx} {Z : Zx X.K} {pos : Pos}
theorem me_dic0 : ME X Z (.Dict [] [] pos) eDic0 := PE.imp pe_dnewK fun σ H Q ⟨m, L, h, ρ, S, A⟩ => Aft.new (u := .dK []) S.rh S.lk A fun p hp => .nil
abbrev MP (X : Cx) (Z : Zx X.K) (pos : Pos) (keys : List (Option Expr)) (values : List Expr) (ps : List (EX × EX)) : Prop := PPs X pos keys values (ps.map fun q => (Rg X.K (rD X.K) Z q.1, Rg X.K (rD X.K) Z q.2))
theorem mp_nil : MP X Z pos [] [] [] := pps_nil
theorem mp_cons {k v : Expr} {ks : List (Option Expr)} {vs : List Expr} {rk rv : EX} {ps : List (EX × EX)} (hk : ME X Z k rk) (hv : ME X Z v rv) (hr : MP X Z pos ks vs ps) : MP X Z pos (some k :: ks) (v :: vs) ((rk, rv) :: ps) := pps_cons hk hv hr
theorem me_disp {keys : List (Option Expr)} {values : List Expr} {ps : List (EX × EX)} (h : MP X Z pos keys values ps) (hall : keys.all (·.isSome) = true := by rfl) (hl : keys.length = values.length := by rfl) (h0 : keys ≠ [] := by simp) (h15 : keys.length ≤ 15 := by simp) : ME X Z (.Dict keys values pos) (eDisp ps) := by
  refine PE.imp (pe_disp h hall hl h0 h15) fun σ H Q ⟨m, L, hh, ρ, S, A⟩ => ?_
  intro p hp
  have rn := S.rh.new (o := .dic []) (u := .dK []) hp .nil S.lk
  have S1 : Stt X.K Z L (m ++ [p]) (hh ++ [.dic []]) ρ σ (upd H p (.dK [])) := S.on (Le.app _ _) (pers_new hp) rn
  have hi : (m ++ [p])[hh.length]? = some p := by rw [← S.rh.len]; simp
  have A1 : Aft X.K (rD X.K) Z.G L (m ++ [p]) (upd H p (.dK [])) (eDisp ps ρ L hh) Q (wS Z.W σ) := Aft.mono A (Le.app _ _) (pers_new hp)
  refine pairs_go ps S1 (Aft.then (RC := rD X.K) S1 A1 fun m2 h2 H2 qs vs S2 l2 p2 q2 A2 => ?_)
  have hi2 := l2 _ _ hi
  split at A2
  · rename_i ek
    have nl : hh.length ∉ L := fun z => by
      have := S.lk _ z
      omega
    obtain ⟨u, q, i1, i2⟩ := S2.rh.at_ _ _ _ ek hi2
    cases u <;> first | exact False.elim q | skip
    cases q
    refine ⟨i2 nl, ?_⟩
    split at A2
    · rename_i kvs ekv
      split at A2
      · rename_i h15'
        obtain ⟨kws, e3, q3⟩ := kvs_ok q2 ekv
        obtain ⟨r', p'⟩ := S2.rh.put ek hi2 nl (o' := .dic (mergeD [] kvs)) (u' := .dK (mergeK [] kws)) (merge_ok q3 .nil)
        exact ⟨kws, e3, by rw [← RK.length q3]; exact h15', (A2 : ∀ _, _) m2 _ (.ref p) (Le.refl _) p' r' (.ref hi2)⟩
      · exact False.elim A2
    · exact False.elim A2
  · exact False.elim A2
end
section
variable {X : Cx} {Z : Zx X.K} {a b e o : Expr} {es : List Expr} {ra rb : EX} {rs : AX} {pos p p2 apos : Pos}
theorem CallR.or {id : String} {r r' : List V → Hp → VK → Prop} (h : CallR X (.builtin id) r) (h' : CallR X (.builtin id) r') : CallR X (.builtin id) (fun xs H Q => r xs H Q ∨ r' xs H Q) :=
  fun pins s σ H xs us Q I rv q => q.elim (h pins s σ H xs us Q I rv) (h' pins s σ H xs us Q I rv)
theorem ok_sortA {K : PySem.W.Frag} : OkL K fSortA (fun xs H Q => rSortedS K xs H Q ∨ rSortK xs H Q) := by
  intro G L m h H x v Q E S lk r A
  unfold fSortA at A
  split at A
  · split at A
    · exact .inr (ok_sortK G L m h H _ v Q E S lk r A)
    · exact .inl (ok_sortS G L m h H _ v Q E S lk r A)
  · exact .inl (ok_sortS G L m h H _ v Q E S lk r A)
theorem me_fSortA (hc : X.calm = true) (hg : Gl X "sorted") (hm : X.mg "sorted" = none) (ha : MA X Z [e] rs) (he : starEach [e] X.env = (false, eval e X.env) :: starEach [] X.env := by rfl) (hpl : (backTo pos (starEach [] X.env)).any (·.1) = false := by rfl) : ME X Z (.Call (.Name "sorted" p) [e] [] pos) (eCB fSortA rs) := me_cb (CallR.or cr_sortedS (call_sortedD hc)) ok_sortA hg hm (by decide +kernel) ha (he := he) (hpl := hpl)
theorem me_listA (hc : X.calm = true) (hg : Gl X "list") (hm : X.mg "list" = none) (ha : ME X Z a ra) (hn : ("list" : Str) ≠ "__name__" := by decide) (hv : bootBuiltins "list" = some (.type "list") := by decide +kernel)
    (he : starEach [a] X.env = (false, eval a X.env) :: starEach [] X.env := by rfl) (hpl : (backTo pos (starEach [] X.env)).any (·.1) = false := by rfl) : ME X Z (.Call (.Name "list" p) [a] [] pos) (eListA ra) := by
  refine PE.imp (PE.or (pe_callTy (call_list_dK hc) hg hm hv (pa_cons ha pa_nil he) hn (by decide) he hpl) (pe_callTy call_list_of hg hm hv (pa_cons ha pa_nil he) hn (by decide) he hpl)) fun σ H Q ⟨m, L, h, ρ, S, A⟩ => ?_
  by_cases hd : ∃ n h1 kvs, ra ρ L h = .ok (.ref n) h1 ∧ h1[n]? = some (.dic kvs)
  · obtain ⟨n, h1, kvs, e1, e2⟩ := hd
    refine .inl (Rg.bindE (RC := rD X.K) S A fun m1 h1' H1 x v f1 S1 l1 p1 q1 A1 => ?_)
    rw [e1] at f1
    cases f1
    cases q1 with
    | ref hn =>
      simp only [e2] at A1
      split at A1
      · exact False.elim A1
      · rename_i nl
        obtain ⟨u, q, i1, i2⟩ := S1.rh.at_ _ _ _ e2 hn
        cases u <;> first | exact False.elim q | skip
        exact ⟨_, _, rfl, i2 nl, Aft.new S1.rh S1.lk A1 fun p hp => RDs.mono (pers_new hp) (Le.app _ _) (keys_rds q)⟩
  · refine .inr (Rg.bindE (RC := rD X.K) S A fun m1 h1 H1 x v f1 S1 l1 p1 q1 A1 => ?_)
    refine ok_list _ L m1 h1 H1 [x] [v] Q (wS Z.W σ) S1.rh S1.lk (.cons q1 .nil) ?_
    cases x <;> first | exact A1 | skip
    rename_i n
    cases ek : h1[n]? with
    | none =>
      simp only [ek] at A1
      exact A1
    | some ob =>
      cases ob with
      | dic kvs => exact absurd ⟨n, h1, kvs, f1, ek⟩ hd
      | _ =>
        simp only [ek] at A1
        exact A1
end
end Mi
end
section
set_option maxHeartbeats 1000000
namespace Mi
open PySem PySem.Spec PyProof.Rows L2
open PySem.W (alike dataLt)
def notNone : PyData → Bool
  | .none => false
  | _ => true
/-- < : numbers, data alike -/
def bLtW : B2 := fun x y h => match toPy 66 h x, toPy 66 h y with
  | some a, some b => if alike a b && (notNone a && decide (a.depth ≤ 64)) then .ok (.bl (dataLt a b)) h else .bad
  | _, _ => .bad
def rLtD (K : PySem.W.Frag) : R2 := fun x y H Q => ∃ d e, Dp K H x d ∧ Dp K H y e ∧ alike d e = true ∧ notNone d = true ∧ d.depth ≤ 64 ∧ Q (.bl (dataLt d e)) H
theorem op_ltD {X : Cx} (hu : X.A.units + 64 < cLine) : OpR X (compareOp .Lt) (rLtD X.K) := by
  intro pins s σ H x y v u Q I rx ry h
  obtain ⟨d, e, hd, he, al, nn, dp, q⟩ := h
  obtain ⟨as, r1⟩ := Dp.reads I d x v hd rx
  obtain ⟨bs, r2⟩ := Dp.reads I e y u he ry
  have hm : X.A.units + min d.depth e.depth < cLine := by
    have := Nat.min_le_left d.depth e.depth
    omega
  have := PySem.W.rcLt_alike d e X.A s v u as bs r1 r2 al (fun z => by rw [z] at nn; cases nn) hm
  exact this X.prog X.w _ _ ⟨.bl _, H, I, rfl, q⟩
theorem ok_ltD {K : PySem.W.Frag} : OkB K bLtW (rLtD K) := by
  intro G L m h H x y v u Q E S lk rx ry A
  unfold bLtW at A
  split at A
  · rename_i a b ea eb
    split at A
    · rename_i hc
      obtain ⟨h1, hc⟩ := Bool.and_eq_true_iff.mp hc
      obtain ⟨h2, h3⟩ := Bool.and_eq_true_iff.mp hc
      exact ⟨a, b, toPy_dp S 66 rx ea, toPy_dp S 66 ry eb, h1, h2, of_decide_eq_true h3, AftB.ok S A (.bl _)⟩
    · exact False.elim A
  · exact False.elim A
theorem mc_ltW {X : Cx} {Z : Zx X.K} {a b : Expr} {ra rb : EX} {pos : Pos} (hu : X.A.units + 64 < cLine) (ha : ME X Z a ra) (hb : ME X Z b rb) : MC X Z (.Compare a [.Lt] [b] pos) (eBin bLtW ra rb) := mc_cmp (op_ltD hu) ok_ltD ha hb (nomark _)
theorem fold_max : ∀ (is : List Int) (i : Int), is.foldl (fun a b => if b > a then b else a) i ∈ i :: is ∧ ∀ y ∈ i :: is, y ≤ is.foldl (fun a b => if b > a then b else a) i
  | [], i => ⟨List.mem_singleton.mpr rfl, fun y hy => by rw [List.mem_singleton.mp hy]; exact Int.le_refl _⟩
  | j :: r, i => by
    obtain ⟨h1, h2⟩ := fold_max r (if j > i then j else i)
    rw [List.foldl_cons]
    refine ⟨?_, fun y hy => ?_⟩
    · rcases List.mem_cons.mp h1 with e | e
      · rw [e]
        split
        · exact List.mem_cons_of_mem _ List.mem_cons_self
        · exact List.mem_cons_self
      · exact List.mem_cons_of_mem _ (List.mem_cons_of_mem _ e)
    · have h3 := h2 _ List.mem_cons_self
      rcases List.mem_cons.mp hy with e | hy
      · subst e
        refine Int.le_trans ?_ h3
        split <;> omega
      · rcases List.mem_cons.mp hy with e | hy
        · subst e
          refine Int.le_trans ?_ h3
          split <;> omega
        · exact h2 y (List.mem_cons_of_mem _ hy)
def bMulL : B2 := fun x y h => match x, y with
  | .ref n, .int k => (match h[n]? with
    | some (.lst xs) => if 0 ≤ k ∧ k < 2 ^ 31 ∧ xs.length * k.toNat ≤ sizeLine then new (.lst (List.replicate k.toNat xs).flatten) h else .bad
    | _ => .bad)
  | _, _ => .bad
theorem RDs.rep {K : PySem.W.Frag} {H : Hp} {m : List Addr} {xs : List D} {vs : List V} (t : RDs K H m xs vs) : ∀ k : Nat, RDs K H m (List.replicate k xs).flatten (List.replicate k vs).flatten
  | 0 => .nil
  | k + 1 => by
    rw [List.replicate_succ, List.flatten_cons, List.replicate_succ, List.flatten_cons]
    exact t.append (RDs.rep t k)
theorem ok_mulL {K : PySem.W.Frag} : OkB K bMulL rRep := by
  intro G L m h H x y v u Q E S lk rx ry A
  cases rx <;> cases ry <;> first | exact False.elim A | skip
  rename_i n a hn k
  simp only [bMulL] at A
  split at A
  · rename_i xs e1
    split at A
    · rename_i hl
      obtain ⟨h0, h1, h2⟩ := hl
      obtain ⟨vs, hv, t1⟩ := S.lstH hn e1
      refine ⟨a, k, vs, rfl, rfl, hv, by omega, by omega, by rw [← t1.length]; exact h2, ?_⟩
      exact Aft.new S lk A fun p hp => (RDs.rep t1 k.toNat).mono (pers_new hp) (Le.app _ _)
    · exact False.elim A
  · exact False.elim A
theorem me_mulL {X : Cx} {Z : Zx X.K} {a b : Expr} {ra rb : EX} {pos : Pos} (ha : ME X Z a ra) (hb : ME X Z b rb) : ME X Z (.BinOp a .Mult b pos) (eBin bMulL ra rb) := me_bin op_rep ok_mulL ha hb
end Mi
end
section
set_option maxHeartbeats 1000000
namespace Mi
open PySem PySem.Spec PyProof.Rows L2
def evS (v : Value) : Str := match v with | .str k _ => k | _ => Str.empty
def ekS (e : Int × Value) : Str := evS e.2
def GoodS (w : World) (e : Int × Value) : Prop := ∃ k tk, e.2 = Value.str k tk ∧ e.1 = hashStr w k
/-- the set of texts at a: S its members, n their number; its table rises and can be walked -/
def SetS (w : World) (h : Heap) (a : Addr) (S : Str → Bool) (n : Nat) : Prop :=
  ∃ o es ep t, h.get? a = some o ∧ o.ExactSet ∧ o.data = .set es ep t ∧ (∀ e ∈ es.toList, GoodS w e) ∧ (es.toList.map ekS).Nodup ∧ (∀ k, S k = true ↔ k ∈ es.toList.map ekS) ∧
    es.size < scanBound ∧ t.fits es.size = true ∧ es.size = n ∧ Ris t.place.toList ∧ (w.params.followText "set-order" = true ∨ t.led = true)
section
variable {P : Program} {w : World} {h h' : Heap} {a : Addr} {S : Str → Bool} {n : Nat}
theorem SetS.at (R : SetS w h a S n) (k : ∀ o, h.get? a = some o → h'.get? a = some o) : SetS w h' a S n := by
  obtain ⟨o, es, ep, t, ho, r⟩ := R
  exact ⟨o, es, ep, t, k o ho, r⟩
end
theorem nodup_dedS : ∀ (n : Nat) (xs : List Str), xs.length ≤ n → xs.eraseDups.Nodup
  | _, [], _ => by rw [List.eraseDups_nil]; exact List.nodup_nil
  | n + 1, x :: r, h => by
    rw [List.eraseDups_cons]
    refine List.nodup_cons.mpr ⟨fun hm => ?_, nodup_dedS n _ (Nat.le_trans (List.length_filter_le _ _) (Nat.le_of_succ_le_succ h))⟩
    rw [List.mem_eraseDups, List.mem_filter] at hm
    simp at hm
theorem nodup_ded (xs : List Str) : xs.eraseDups.Nodup := nodup_dedS _ xs (Nat.le_refl _)
theorem SetS.num {w : World} {h : Heap} {a : Addr} {S : Str → Bool} {n : Nat} {xs : List Str} (R : SetS w h a S n) (e : ∀ x, S x = true ↔ x ∈ xs) : n = xs.eraseDups.length := by
  obtain ⟨o, es, ep, t, ho, hex, hd, g, nd, hm, hb, hf, hn, hr, hl⟩ := R
  have p : (es.toList.map ekS).Perm xs.eraseDups := (List.perm_ext_iff_of_nodup nd (nodup_ded xs)).mpr fun x => by rw [List.mem_eraseDups, ← e x, hm x]
  have q := p.length_eq
  rw [List.length_map, Array.length_toList] at q
  rw [← hn, q]
def fSortSet (x : D) (h : Hh) : R D := match (lstOf x h).bind strsD with
  | some ss => if ss.length < 4000 ∧ ss.eraseDups.length < 64 then new (.lst ((sortS ss.eraseDups).map .str)) h else .bad
  | none => .bad
def eSortSet (a : EX) : EX := fun ρ L h => (a ρ L h).bind fun x h1 => fSortSet x h1
end Mi
end
section
set_option maxHeartbeats 1000000
namespace Mi
open PySem PySem.Spec PyProof.Rows L2
/-- a == b by a's own __eq__, both of class c -/
def eOwnEq (c : Nat) (f : FX) (a b : EX) : EX := fun ρ L h => (a ρ L h).bind fun x h1 => (b ρ L h1).bind fun y h2 => match x, y with
  | .ref n, .ref k => (match h2[n]?, h2[k]? with
    | some (.ins c' _), some (.ins c2 _) => if c' = c ∧ c2 = c then (f [x, y] L h2).noExc.bind fun v h3 => match v with
      | .bl k => .ok (.bl k) h3
      | _ => .bad else .bad
    | _, _ => .bad)
  | _, _ => .bad
/-- len(a) by a's own __len__ -/
def eOwnLen (c : Nat) (f : FX) (a : EX) : EX := fun ρ L h => (a ρ L h).bind fun x h1 => match x with
  | .ref n => (match h1[n]? with
    | some (.ins c' _) => if c' = c then (f [x] L h1).noExc.bind fun v h3 => match v with
      | .int i => if 0 ≤ i ∧ i < 2 ^ 63 then .ok (.int i) h3 else .bad
      | _ => .bad else .bad
    | _ => .bad)
  | _ => .bad
def eqPD (x y : D) (h : Hh) : Option Bool := match toPy 66 h x, toPy 66 h y with
  | some a, some b => if SeqAt.shaped a && SeqAt.shaped b then some (PyData.eqv a b) else none
  | _, _ => none
def dicEq (kb : List (Key × D)) (h : Hh) : List (Key × D) → Option Bool
  | [] => some true
  | (k, v) :: r => match valD kb k with
    | none => some false
    | some y => (match eqPD v y h, dicEq kb h r with
      | some e, some b => some (e && b)
      | _, _ => none)
/-- a == b of two dicts -/
def eEqDic (a b : EX) : EX := fun ρ L h => (a ρ L h).bind fun x h1 => (b ρ L h1).bind fun y h2 => match x, y with
  | .ref n, .ref k => (match h2[n]?, h2[k]? with
    | some (.dic ka), some (.dic kb) => if n ∈ L ∨ k ∈ L then .bad else (match dicEq kb h2 ka with
      | some r => .ok (.bl (decide (ka.length = kb.length) && r)) h2
      | none => .bad)
    | _, _ => .bad)
  | _, _ => .bad
theorem un100 {k : Nat} {A : Around} (r : Room k A) : A.units + 100 < cLine := by have := r.un; omega
section
variable {X : Cx} {Z : Zx X.K} {k c : Nat} {fd : FuncData} {ps : List Str} {fx : FX} {a b : Expr} {ra rb : EX} {pos p : Pos}
inductive DHits (K : PySem.W.Frag) (H : Hp) (ls : List (Key × V)) : List (Key × V) → Bool → Prop
  | nil : DHits K H ls [] true
  | miss {k : Key} {v : V} {r : List (Key × V)} : valV ls k = none → DHits K H ls ((k, v) :: r) false
  | hit {k : Key} {v y : V} {r : List (Key × V)} {d e : PyData} {b : Bool} : valV ls k = some y → Dp K H v d → Dp K H y e → SeqAt.shaped d = true → SeqAt.shaped e = true → DHits K H ls r b → DHits K H ls ((k, v) :: r) (PyData.eqv d e && b)
theorem DHits.keq {pins : List (Addr × Obj)} {σ : L2.St} {H : Hp} {s : Shared} {A : Around} (hu : A.in1.units + 64 < cLine) (I : Inv X pins σ H s) {ls : List (Key × V)} {vb : List (Key × Value)} (rb : KV ls vb) :
    ∀ {ks : List (Key × V)} {va : List (Key × Value)} {r : Bool}, KV ks va → DHits X.K H ls ks r → PySem.W.KeqHits A.in1 s vb va r := by
  intro ks va r ra h
  induction h generalizing va with
  | nil =>
    cases ra
    exact .nil
  | @miss k v r hn =>
    cases ra with
    | @cons _ q _ qs h t =>
      obtain ⟨k', v'⟩ := q
      obtain ⟨rfl, h2⟩ : k = k' ∧ RelV v v' := h
      have rr : RelO (valV ls k) (valueAt vb k) := rb.val k
      rw [hn] at rr
      cases e : valueAt vb k with
      | none => exact .miss e
      | some y =>
        rw [e] at rr
        exact False.elim rr
  | @hit k v y r d e b hy hd he sd se _ ih =>
    cases ra with
    | @cons _ q _ qs h t =>
      obtain ⟨k', v'⟩ := q
      obtain ⟨rfl, h2⟩ : k = k' ∧ RelV v v' := h
      have rr : RelO (valV ls k) (valueAt vb k) := rb.val k
      rw [hy] at rr
      obtain ⟨u, hu', ru⟩ := rr.some_of
      obtain ⟨as, r1⟩ := Dp.reads I d v v' hd h2
      obtain ⟨bs, r2⟩ := Dp.reads I e y u he ru
      exact .hit hu' (PySem.W.keq_at r1 r2 sd se hu) (ih t)
def rEqDic (K : PySem.W.Frag) : R2 := fun x y H Q => ∃ a b ks ls r, x = .ref a ∧ y = .ref b ∧ H a = some (.dK ks) ∧ H b = some (.dK ls) ∧ DHits K H ls ks r ∧ Q (.bl (decide (ks.length = ls.length) && r)) H
theorem op_eqDic (hu : X.A.units + 100 < cLine) : OpR X (compareOp .Eq) (rEqDic X.K) := by
  intro pins s σ H x y v u Q I rx ry h
  obtain ⟨a, b, ks, ls, r, rfl, rfl, ea, eb, hp, q⟩ := h
  obtain rfl : v = Value.ref a := rx
  obtain rfl : u = Value.ref b := ry
  obtain ⟨_, ya, va, ra, da⟩ := (show ObjOk X.prog X.w H s.heap a (.dK ks) from I.hok a _ ea)
  obtain ⟨_, yb, vb, rb, db⟩ := (show ObjOk X.prog X.w H s.heap b (.dK ls) from I.hok b _ eb)
  refine PySem.W.keq_eq (knd := mixKind X.prog X.w) (r := r) ya yb da db (by omega) (fun _ => hp.keq (by show X.A.units + 1 + 64 < cLine; omega) I rb ra) ?_
  refine ⟨.bl _, H, I, ?_, q⟩
  show Value.bool _ = Value.bool _
  rw [← ra.length, ← rb.length]
  congr 1
theorem dicEq_hits {G : Gx} {L : List Nat} {m : List Addr} {h : Hh} {H : Hp} (S : RH X.K G L m h H) {kb : List (Key × D)} {ls : List (Key × V)} (rb : RK X.K H m kb ls) : ∀ {ka : List (Key × D)} {ks : List (Key × V)} {r : Bool}, RK X.K H m ka ks → dicEq kb h ka = some r → DHits X.K H ls ks r
  | [], _, _, .nil, e => by
    cases e
    exact .nil
  | (k, d) :: ka, (k', v) :: ks, r, .cons q t, e => by
    obtain ⟨rfl, q⟩ : k = k' ∧ RD X.K H m d v := q
    simp only [dicEq] at e
    rcases valD_ok (k := k) rb with ⟨z1, z2⟩ | ⟨y, y', z1, z2, ry⟩
    · rw [z1] at e
      cases e
      exact .miss z2
    · rw [z1] at e
      simp only at e
      split at e
      · rename_i e1 b1 h1 h2
        cases e
        unfold eqPD at h1
        split at h1
        · rename_i p1 p2 g1 g2
          split at h1
          · rename_i hs
            obtain ⟨s1, s2⟩ := Bool.and_eq_true_iff.mp hs
            cases h1
            exact .hit z2 (toPy_dp S _ q g1) (toPy_dp S _ ry g2) s1 s2 (dicEq_hits S rb t h2)
          · cases h1
        · cases h1
      · cases e
theorem mc_eqDic (hu : X.A.units + 100 < cLine) (ha : ME X Z a ra) (hb : ME X Z b rb) (hm : behindInMarks .Eq b = false := by rfl) : MC X Z (.Compare a [.Eq] [b] pos) (eEqDic ra rb) := by
  refine mc_of (pe_cmpR (op_eqDic hu) ha hb hm) (pt_cmpR (op_eqDic hu) ha hb hm) fun σ H Q ⟨m, L, h, ρ, S, A⟩ => ?_
  refine Rg.bind (RC := rD X.K) S A fun m1 h1 H1 x v S1 l1 p1 q1 A1 => ?_
  refine Rg.bind (RC := rD X.K) S1 A1 fun m2 h2 H2 y u S2 l2 p2 q2 A2 => ?_
  have q1' := q1.mono p2 l2
  cases q1' with
  | ref hn1 =>
    cases q2 with
    | ref hn2 =>
      simp only at A2
      split at A2
      · rename_i ka kb e1 e2
        split at A2
        · exact False.elim A2
        · rename_i hnl
          split at A2
          · rename_i r er
            obtain ⟨u1, r1, _, i1⟩ := S2.rh.at_ _ _ _ e1 hn1
            obtain ⟨u2, r2, _, i2⟩ := S2.rh.at_ _ _ _ e2 hn2
            cases u1 <;> first | exact False.elim r1 | skip
            cases u2 <;> first | exact False.elim r2 | skip
            refine ⟨_, _, _, _, r, rfl, rfl, i1 (fun z => hnl (.inl z)), i2 (fun z => hnl (.inr z)), dicEq_hits S2.rh r2 r1 er, ?_⟩
            rw [← RK.length r1, ← RK.length r2]
            exact Aft.ok (RA := rD X.K) S2 A2 (.bl _)
          · exact False.elim A2
      · exact False.elim A2
    | _ => exact False.elim A2
  | _ => first | exact False.elim A2 | (cases y <;> exact False.elim A2)
end
end Mi
end
section
set_option maxHeartbeats 1000000
namespace Mi
open PySem PySem.Spec PyProof.Rows L2
end Mi
end
section
set_option maxHeartbeats 1000000
namespace Mi
open PySem PySem.Spec PyProof.Rows L2
end Mi
end
section
set_option maxHeartbeats 1000000
namespace Mi
open PySem PySem.Spec PyProof.Rows L2
end Mi
end
section
set_option maxHeartbeats 1000000
namespace Mi
open PySem PySem.Spec PyProof.Rows L2
end Mi
end
section
set_option maxHeartbeats 1000000
namespace Mi
open PySem PySem.Spec PyProof.Rows L2
end Mi
end
section
set_option maxHeartbeats 1000000
namespace Mi
open PySem PySem.Spec PyProof.Rows L2
/-- one turn's put into the new dict -/
def dcPut (n : Nat) (y z : D) (h : Hh) : Option Hh := match h[n]? with
  | some (.dic acc) => (match keyD y with
    | some k => if acc.length < sizeLine then some (h.set n (.dic (putD acc k z))) else none
    | none => none)
  | _ => none
def dcV (g : GX) (tt : TX) (tk te : EX) (n : Nat) : List D → EX
  | [] => fun _ _ h => .ok (.ref n) h
  | x :: xs => fun ρ L h => (g x ρ L h).noExc.bind fun ρ1 h1 => (tt ρ1 L h1).bind fun b h2 => if b then (tk ρ1 L h2).bind fun y h3 => (te ρ1 L h3).bind fun z h4 => (match dcPut n y z h4 with
      | some h5 => dcV g tt tk te n xs ρ L h5
      | none => .bad)
    else dcV g tt tk te n xs ρ L h2
def eDcK (own : List Nat) (a : EX) (g : GX) (tt : TX) (tk te : EX) : EX := fun ρ L h => (a ρ L h).bind fun x h1 => match keysAt x h1 with
  | some (n, xs) => (dcV g tt tk te h1.length xs (wipeR ρ own) (n :: L) (h1 ++ [.dic []])).noExc
  | none => .bad
section
variable {K : PySem.W.Frag} {Z : Zx K} [NoJ Z] {own : List Nat} {g : GX} {gt : TG} {tx : TX} {tk te : EX} {L : List Nat} {n : Nat} {E : Addr}
/-- one turn of a dict comprehension -/
theorem dc_turn {m : List Addr} {h : Hh} {ρ : Rho} {σ : L2.St} {H : Hp} {d : D} {v : V} {go : Hh → R D} {Q : VK} {Nx : Hp → Prop} (GO : GtOk K own g gt) (S : Stt K Z.quiet L m h ρ (wipe σ own) H) (nl : n ∉ L) (hn : m[n]? = some E) (q : RD K H m d v)
    (A : Aft K (rD K) Z.G L m H ((g d ρ L h).noExc.bind fun ρ1 h1 => (tx ρ1 L h1).bind fun b h2 => if b then (tk ρ1 L h2).bind fun y h3 => (te ρ1 L h3).bind fun z h4 => (match dcPut n y z h4 with
      | some h5 => go h5
      | none => .bad)
    else go h2) Q (fun _ _ _ => False))
    (hN : ∀ m1 h1 H1, Stt K Z.quiet L m1 h1 ρ (wipe σ own) H1 → Le m m1 → Pers K H H1 → Aft K (rD K) Z.G L m1 H1 (go h1) Q (fun _ _ _ => False) → Nx H1) :
    gt v (wipe σ own) H fun σ2 H2 => wipe σ2 own = wipe σ own ∧ Rg K (rE Bool) Z.quiet tx σ2 H2 fun b H3 => if b = true then Rg K (rD K) Z.quiet tk σ2 H3 fun y H4 => Rg K (rD K) Z.quiet te σ2 H4 fun z H5 => ∃ kvs k, y = kV k ∧ H5 E = some (.dK kvs) ∧ kvs.length < sizeLine ∧ Nx (upd H5 E (.dK (putK kvs k z))) else Nx H3 := by
  cases eg : g d ρ L h with
  | exc c p h1 => rw [eg] at A; exact False.elim A
  | bad => rw [eg] at A; exact False.elim A
  | ok ρ1 h1 =>
    rw [eg, R.noExc_ok, R.bind_ok] at A
    obtain ⟨rfl, σ1, r1, w1, k1⟩ := GO Z.G L m h h1 ρ ρ1 _ H d v S.rs q eg
    refine k1 _ ⟨w1.trans wipe_wipe, ?_⟩
    have S1 : Stt K Z.quiet L m h1 ρ1 σ1 H := S.set r1
    refine Rg.bind (RC := rD K) (Z := Z.quiet) S1 A fun m2 h2 H2 b b' S2 l2 p2 q2 A2 => ?_
    obtain rfl : b = b' := q2
    have back : ∀ {m' h' H'}, Stt K Z.quiet L m' h' ρ1 σ1 H' → Le m m' → Pers K H H' → Stt K Z.quiet L m' h' ρ (wipe σ own) H' := fun S' l p => S'.set (S.rs.mono p l)
    cases b with
    | false => exact iteF (hN m2 h2 H2 (back S2 l2 p2) l2 p2 A2)
    | true =>
      refine iteT ?_
      refine Rg.bind (RC := rD K) (Z := Z.quiet) S2 A2 fun m3 h3 H3 y u S3 l3 p3 q3 A3 => ?_
      refine Rg.bind (RC := rD K) (Z := Z.quiet) S3 A3 fun m4 h4 H4 z w S4 l4 p4 q4 A4 => ?_
      split at A4
      · rename_i h5 e5
        unfold dcPut at e5
        split at e5
        · rename_i acc ea
          split at e5
          · rename_i k hk
            split at e5
            · rename_i hl
              cases e5
              have hn4 : m4[n]? = some E := l4 _ _ (l3 _ _ (l2 _ _ hn))
              obtain ⟨u0, q0, i1, i2⟩ := S4.rh.at_ n _ E ea hn4
              cases u0 <;> first | exact False.elim q0 | skip
              rename_i kvs'
              obtain ⟨r5, p5⟩ := S4.rh.put ea hn4 nl (o' := .dic (putD acc k z)) (u' := .dK (putK kvs' k w)) (RK.put q0 q4)
              refine ⟨kvs', k, keyD_ok q3 hk, i2 nl, by rw [← RK.length q0]; exact hl, ?_⟩
              have l04 := (l2.trans l3).trans l4
              have p04 := (p2.trans p3).trans p4
              exact hN m4 _ _ ((back S4 l04 p04).on (Le.refl _) p5 r5) l04 (p04.trans p5) (Aft.mono A4 (Le.refl _) p5)
            · cases e5
          · cases e5
        · cases e5
      · exact False.elim A4
/-- what a dict comprehension asks behind its first store -/
def DcAll (J : It) (E : Addr) (H1 : Hp) (g : TG) (tt : TT) (tk te : TE) (vs : List Nat) (σ : L2.St) (Q : VK) : Prop := ∃ W : Nat → Nat → Hp → Prop, (∃ m, W 0 m (upd H1 E (.dK []))) ∧ ∀ i m H, W i m H →
  (J.stop i H ∧ Q (.ref E) H) ∨ (J.go i H ∧ ∃ Nx : Hp → Prop, (∀ H', Nx H' → ∃ m', m' < m ∧ W (i + 1) m' H') ∧ ∀ x H', J.yld i H x H' → g x (wipe σ vs) H' fun σ2 H2 => wipe σ2 vs = wipe σ vs ∧ tt σ2 H2 fun b H3 =>
    if b = true then tk σ2 H3 fun y H4 => te σ2 H4 fun z H5 => ∃ kvs k, y = kV k ∧ H5 E = some (.dK kvs) ∧ kvs.length < sizeLine ∧ Nx (upd H5 E (.dK (putK kvs k z))) else Nx H3)
theorem dc_start {m : List Addr} {h : Hh} {ρ : Rho} {σ : L2.St} {H : Hp} (S : Stt K Z L m h ρ σ H) (hE : H E = none) : Stt K Z.quiet L (m ++ [E]) (h ++ [.dic []]) (wipeR ρ own) (wipe σ own) (upd H E (.dK [])) ∧ h.length ∉ L ∧ (m ++ [E])[h.length]? = some E ∧ Pers K H (upd H E (.dK [])) := by
  have r := S.rh.new hE (o := .dic []) (u := .dK []) (show RK _ _ _ [] [] from .nil) S.lk
  have p : Pers K H (upd H E (.dK [])) := pers_new hE
  have S1 := S.on (Le.app m [E]) p r
  exact ⟨⟨r, S1.rs.wipe own, S1.iv, S1.lk, fun p e => by rw [NoJ.h] at e; cases e⟩, fun z => Nat.lt_irrefl _ (S.lk _ z), by rw [← S.rh.len]; simp, p⟩
theorem dc_still {J : It} {xs : List D} {P : List Addr → Hp → Prop} (B : Src K Z.G J xs P) (GO : GtOk K own g gt) {m : List Addr} {h : Hh} {ρ : Rho} {σ : L2.St} {H : Hp} {Q : VK} {W0 : XK} (S : Stt K Z L m h ρ σ H) (hP : P m H)
    (A : Aft K (rD K) Z.G L m H (dcV g tx tk te h.length xs (wipeR ρ own) L (h ++ [.dic []])).noExc Q W0) (hE : H E = none) :
    DcAll J E H gt (Rg K (rE Bool) Z.quiet tx) (Rg K (rD K) Z.quiet tk) (Rg K (rD K) Z.quiet te) own σ Q := by
  obtain ⟨S0, nl, hn, p0⟩ := dc_start (own := own) S hE
  have A0 : Aft K (rD K) Z.G L (m ++ [E]) (upd H E (.dK [])) (dcV g tx tk te h.length xs (wipeR ρ own) L (h ++ [.dic []])) Q (fun _ _ _ => False) := aft_noExcR (Aft.mono A (Le.app _ _) p0)
  have hP0 := B.mono hP (Le.app m [E]) p0
  refine ⟨fun i k H => k = xs.length - i ∧ i ≤ xs.length ∧ ∃ m1 h1, Stt K Z.quiet L m1 h1 (wipeR ρ own) (wipe σ own) H ∧ m1[h.length]? = some E ∧ P m1 H ∧ Aft K (rD K) Z.G L m1 H (dcV g tx tk te h.length (xs.drop i) (wipeR ρ own) L h1) Q (fun _ _ _ => False),
    ⟨_, rfl, Nat.zero_le _, _, _, S0, hn, hP0, A0⟩, ?_⟩
  rintro i k H1 ⟨rfl, hi, m1, h1, S1, hn1, hP1, A1⟩
  by_cases e : i = xs.length
  · subst e
    rw [List.drop_length] at A1
    exact .inl ⟨B.stop hP1 (Nat.le_refl _), AftB.ok S1.rh A1 (.ref hn1)⟩
  · have hlt : i < xs.length := by omega
    rw [List.drop_eq_getElem_cons hlt] at A1
    refine .inr ⟨B.go hP1 hlt, fun H' => xs.length - (i + 1) = xs.length - (i + 1) ∧ i + 1 ≤ xs.length ∧ ∃ m1 h1, Stt K Z.quiet L m1 h1 (wipeR ρ own) (wipe σ own) H' ∧ m1[h.length]? = some E ∧ P m1 H' ∧ Aft K (rD K) Z.G L m1 H' (dcV g tx tk te h.length (xs.drop (i + 1)) (wipeR ρ own) L h1) Q (fun _ _ _ => False), fun H' z => ⟨_, by omega, z⟩, fun x H' y => ?_⟩
    obtain ⟨p1, r1, q1⟩ := B.yld hP1 (List.getElem?_eq_getElem hlt) y
    have S2 : Stt K Z.quiet L m1 h1 (wipeR ρ own) (wipe σ own) H' := S1.on (Le.refl _) p1 (r1 _ _ S1.rh)
    exact dc_turn (go := fun h => dcV g tx tk te _ (xs.drop (i + 1)) (wipeR ρ own) L h) GO S2 nl hn1 q1 (Aft.mono A1 (Le.refl _) p1) fun m3 h3 H3 S3 l3 p3 A3 => ⟨rfl, hlt, m3, h3, S3, l3 _ _ hn1, B.mono hP1 l3 (p1.trans p3), A3⟩
end
section
variable {K : PySem.W.Frag} {Z : Zx K} [NoJ Z] {own : List Nat} {g : GX} {gt : TG} {tx : TX} {tk te ra : EX} {rs : AX}
/-- a walk under a lock, where the dict is locked by others | by this walk -/
theorem dc_rdK (pu : Pure ra) (GO : GtOk K own g gt) {σ : L2.St} {H : Hp} {Q : VK} (h : Rg K (rD K) Z (eDcK own ra g tx tk te) σ H Q) :
    tLockE (tDc (iKeys (Rg K (rD K) Z.quiet ra)) gt (Rg K (rE Bool) Z.quiet tx) (Rg K (rD K) Z.quiet tk) (Rg K (rD K) Z.quiet te) own) σ H Q ∨ tDc (iKeys (Rg K (rD K) Z.quiet ra)) gt (Rg K (rE Bool) Z.quiet tx) (Rg K (rD K) Z.quiet tk) (Rg K (rD K) Z.quiet te) own σ H Q := by
  obtain ⟨m, L, h, ρ, S, A⟩ := h
  unfold eDcK at A
  rcases pu ρ L h with ⟨x, ex⟩ | ex
  rotate_left 1
  · rw [ex] at A
    exact False.elim A
  rw [ex L, R.bind_ok] at A
  split at A
  rotate_left 1
  · exact False.elim A
  rename_i k xs ek
  have hx : ∃ ob, x = .ref k ∧ h[k]? = some ob ∧ ob.isDic = true := by
    cases x <;> simp [keysAt] at ek
    rename_i n
    split at ek
    · rename_i kvs e1
      cases ek
      exact ⟨_, rfl, e1, rfl⟩
    · rename_i kvs e1
      cases ek
      exact ⟨_, rfl, e1, rfl⟩
    · cases ek
  obtain ⟨ob, rfl, hob, hdic⟩ := hx
  obtain ⟨a, ha⟩ := S.rh.adr hob
  by_cases nl : k ∈ L
  · refine .inr ?_
    obtain ⟨u, q, i1, i2⟩ := S.rh.at_ k ob a hob ha
    obtain ⟨_, od, hu⟩ := i1 nl
    refine ⟨m, L, h, ρ, ⟨S.rh, S.rs, S.iv, S.lk, S.jv⟩, ?_⟩
    rw [ex L]
    intro m1 H1 v l p r qv
    have hu1 : H1 a = some (.frz od u) := p.frz _ _ _ hu
    have ev : v = .ref a := by
      cases qv with
      | ref hn =>
        have := l _ _ ha
        rw [hn] at this
        cases this
        rfl
    subst ev
    have e1 : ∀ j, j ∈ L ↔ j ∈ k :: L := fun j => ⟨List.mem_cons_of_mem _, fun y => (List.mem_cons.mp y).elim (fun z => by subst z; exact nl) id⟩
    have S1 : Stt K Z.quiet (k :: L) m1 h ρ σ H1 := by
      have S' := S.on l p r
      exact ⟨r.same e1, S'.rs, S'.iv, fun j hj => S'.lk j ((e1 j).mpr hj), S'.jv⟩
    have A2 : Aft K (rD K) Z.quiet.G (k :: L) m1 H1 (dcV g tx tk te h.length xs (wipeR ρ own) (k :: L) (h ++ [.dic []])).noExc Q (wS Z.W σ) := by
      have A' := Aft.mono A l p
      revert A'
      generalize (dcV g tx tk te h.length xs (wipeR ρ own) (k :: L) (h ++ [.dic []])).noExc = rr
      intro A'
      cases rr with
      | ok d h1 => exact fun m' H' v l p r q => A' m' H' v l p (r.same fun j => (e1 j).symm) q
      | exc c q h1 => exact fun m' H' cls d l p r x => A' m' H' cls d l p (r.same fun j => (e1 j).symm) x
      | bad => exact A'
    rcases src_at (G := Z.G) q hob ek hu1 with ⟨kvs, rfl, B⟩ | ⟨kvs, rfl, B⟩
    · exact ⟨a, od, rfl, .inl ⟨kvs, hu1, fun E hE => dc_still (Z := Z.quiet) B GO S1 hu1 A2 hE⟩⟩
    · exact ⟨a, od, rfl, .inr ⟨kvs, hu1, fun E hE => dc_still (Z := Z.quiet) B GO S1 hu1 A2 hE⟩⟩
  · refine .inl ?_
    obtain ⟨u, q, i1, i2⟩ := S.rh.at_ k ob a hob ha
    have hu := i2 nl
    have hdo := q.dicO hdic
    refine ⟨a, u, hu, ?_, fun od => ?_⟩
    · cases u <;> first | exact True.intro | exact hdo
    obtain ⟨rL, pL, _⟩ := S.rh.lock (od := od) hob ha hdic hu nl
    have SL : Stt K Z.quiet (k :: L) m h ρ σ (upd H a (.frz od u)) := ⟨rL, S.rs.mono pL (Le.refl _), Z.keep S.iv (Le.refl _) pL, fun j hj => by
      rcases List.mem_cons.mp hj with z | z
      · subst z
        exact (List.getElem?_eq_some_iff.mp hob).1
      · exact S.lk j z, S.jv⟩
    refine ⟨m, k :: L, h, ρ, SL, ?_⟩
    rw [ex (k :: L)]
    intro m1 H1 v l p r qv
    have hu1 : H1 a = some (.frz od u) := p.frz _ _ _ upd_same
    have ev : v = .ref a := by
      cases qv with
      | ref hn =>
        have := l _ _ ha
        rw [hn] at this
        cases this
        rfl
    subst ev
    have S1 : Stt K Z.quiet (k :: L) m1 h ρ σ H1 := SL.on l p r
    have A2 : Aft K (rD K) Z.quiet.G (k :: L) m1 H1 (dcV g tx tk te h.length xs (wipeR ρ own) (k :: L) (h ++ [.dic []])).noExc (fun v H' => H' a = some (.frz od u) ∧ Q v (upd H' a u)) (fun _ _ _ => False) := by
      revert A
      generalize hrr : (dcV g tx tk te h.length xs (wipeR ρ own) (k :: L) (h ++ [.dic []])) = rr
      intro A
      cases rr with
      | ok d h1 =>
        intro m' H' v' l' p' r' q'
        have hH := p'.frz _ _ _ hu1
        exact ⟨hH, A m' _ v' (l.trans l') (Pers.unlock hu hdo rfl pL (p.trans p')) (r'.unlock (l' _ _ (l _ _ ha)) hH hdo nl) (q'.monoD (PersD.unlock hH hdo) (Le.refl _))⟩
      | exc c q h1 => exact False.elim A
      | bad => exact False.elim A
    rcases src_at (G := Z.G) q hob ek hu1 with ⟨kvs, rfl, B⟩ | ⟨kvs, rfl, B⟩
    · exact ⟨a, od, rfl, .inl ⟨kvs, hu1, fun E hE => dc_still (Z := Z.quiet) B GO S1 hu1 A2 hE⟩⟩
    · exact ⟨a, od, rfl, .inr ⟨kvs, hu1, fun E hE => dc_still (Z := Z.quiet) B GO S1 hu1 A2 hE⟩⟩
end
section
variable {X : Cx} {Z : Zx X.K} [NoJ Z] {kx elt tg iter a1 a2 : Expr} {ifs : List Expr} {scope : Scope} {own : List (Str × Nat)} {pos p pc : Pos} {g : GX} {gt : TG} {tx : TX} {tk te ra : EX} {rs : AX}
theorem me_dcK (pu : Pure ra) (hc : X.calm = true) (hN : X.N.Nodup) (he : ME X Z.quiet iter ra) (ok : BlkOk X.N X.env.scope scope own) (GO : GtOk X.K (own.map (·.2)) g gt) (B : BlkP X X.K Z.quiet scope tg gt ifs tx elt te) (BK : BlkP X X.K Z.quiet scope tg gt ifs tx kx tk) (hs : ∀ x, foldedSetIterable iter X.env x = pure x := by intro _; rfl) :
    ME X Z (.DictComp kx elt [⟨tg, iter, ifs, 0⟩] scope pos) (eDcK (own.map (·.2)) ra g tx tk te) :=
  have F := pe_dc (pos := pos) hc hN (pi_keys he) ok B.g B.t BK.e B.e hs
  PE.imp (PE.or (pe_lock F) F) fun σ H Q h => dc_rdK pu GO h
end
end Mi
end
section
set_option maxHeartbeats 1000000
namespace Mi
open PySem PySem.Spec PyProof.Rows L2
section
variable {X : Cx} {Z : Zx X.K} {a b : Expr} {ra rb : EX} {pos p : Pos}
def bNotB : B2 := fun x y h => match x, y with
  | .bl a, .bl b => .ok (.bl (!decide (a = b))) h
  | _, _ => .bad
theorem ok_notB {K : PySem.W.Frag} : OkB K bNotB rNotB := by
  intro G L m h H x y v u Q E S lk rx ry A
  cases rx <;> cases ry <;> first | exact False.elim A | exact ⟨_, _, rfl, rfl, AftB.ok S A (.bl _)⟩
theorem mc_notB (ha : ME X Z a ra) (hb : ME X Z b rb) : MC X Z (.Compare a [.IsNot] [b] pos) (eBin bNotB ra rb) := mc_cmp op_notBl ok_notB ha hb (nomark _)
end
end Mi
end
section
set_option maxHeartbeats 1000000
namespace Mi
open PySem PySem.Spec PyProof.Rows L2
section
variable {X : Cx} {pins : List (Addr × Obj)} {σ : L2.St} {H : Hp} {s : Shared}
mutual
theorem NV.is (I : Inv X pins σ H s) : ∀ {k : NestedKey} {v : V} {u : Value}, NV X.K H k v → RelV v u → NestedIs s.heap k u
  | _, _, u, .non, r => by
    obtain rfl : u = Value.none := r
    exact .none
  | _, _, u, .num i, r => by
    obtain ⟨t, rfl⟩ := (show ∃ t, u = Value.int i t from r)
    exact .int i t
  | _, _, u, .text x, r => by
    obtain ⟨t, rfl⟩ := (show ∃ t, u = Value.str x t from r)
    exact .text x t
  | _, _, u, .tup (b := b) h ne t, r => by
    obtain rfl : u = Value.ref b := r
    obtain ⟨its, rv, p, hz⟩ := I.tuple h.t
    obtain ⟨o, e, c, n, d⟩ := p
    exact .tup e c d (by simpa using NVs.is I t rv)
theorem NVs.is (I : Inv X pins σ H s) : ∀ {ks : List NestedKey} {vs : List V} {us : List Value}, NVs X.K H ks vs → Vals vs us → NestedAll s.heap ks us
  | _, _, _, .nil, .nil => .nil
  | _, _, _, .cons h t, .cons r q => .cons (NV.is I h r) (NVs.is I t q)
end
end
abbrev Ent := NestedKey × Addr × V
def valN (xs : List Ent) (k : NestedKey) : Option V := (xs.find? fun x => decide (x.1 = k)).map (·.2.2)
def putN (xs : List Ent) (k : NestedKey) (b : Addr) (v : V) : List Ent := if (valN xs k).isSome then xs.map (fun z => if z.1 = k then (z.1, z.2.1, v) else z) else xs ++ [(k, b, v)]
abbrev RelE : List Ent → List (NestedKey × Addr × Value) → Prop := Paired fun p q => p.1 = q.1 ∧ p.2.1 = q.2.1 ∧ RelV p.2.2 q.2.2
theorem RelE.val {k : NestedKey} : ∀ {xs : List Ent} {ys : List (NestedKey × Addr × Value)}, RelE xs ys → (valN xs k = none ∧ atKey ys k = none) ∨ ∃ v p, valN xs k = some v ∧ atKey ys k = some p ∧ RelV v p.2
  | _, _, .nil => .inl ⟨rfl, rfl⟩
  | (k1, b1, v1) :: r, (k2, b2, u2) :: r', .cons q t => by
    obtain ⟨rfl, rfl, q⟩ : k1 = k2 ∧ b1 = b2 ∧ RelV v1 u2 := q
    by_cases e : k1 = k
    · refine .inr ⟨v1, (b1, u2), ?_, ?_, q⟩ <;> simp [valN, atKey, e]
    · have h1 : valN ((k1, b1, v1) :: r) k = valN r k := by simp [valN, e]
      have h2 : atKey ((k1, b1, u2) :: r') k = atKey r' k := by simp [atKey, e]
      rw [h1, h2]
      exact RelE.val t
theorem RelE.mapPut {k : NestedKey} {v : V} {u : Value} (rv : RelV v u) : ∀ {xs : List Ent} {ys : List (NestedKey × Addr × Value)}, RelE xs ys → RelE (xs.map fun z => if z.1 = k then (z.1, z.2.1, v) else z) (ys.map (putAt k u))
  | _, _, .nil => .nil
  | (k1, b1, v1) :: r, (k2, b2, u2) :: r', .cons q t => by
    obtain ⟨rfl, rfl, q⟩ : k1 = k2 ∧ b1 = b2 ∧ RelV v1 u2 := q
    refine .cons ?_ (RelE.mapPut rv t)
    by_cases e : k1 = k
    · simp only [putAt, e, if_true]; exact ⟨trivial, trivial, rv⟩
    · simp only [putAt, e, if_false]; exact ⟨trivial, trivial, q⟩
theorem RelE.put {k : NestedKey} {b : Addr} {v : V} {u : Value} (rv : RelV v u) {xs : List Ent} {ys : List (NestedKey × Addr × Value)} (r : RelE xs ys) : RelE (putN xs k b v) (storedH ys k b u) := by
  unfold putN storedH
  rcases r.val (k := k) with ⟨e1, e2⟩ | ⟨w, p, e1, e2, _⟩
  · rw [e1, e2]
    exact Paired.snoc r ⟨rfl, rfl, rv⟩
  · rw [e1, e2]
    exact r.mapPut rv
section
variable {X : Cx} {pins : List (Addr × Obj)} {σ : L2.St} {H : Hp} {s : Shared} {A : Around} {E : Value → Shared → Prop}
theorem RelE.mem {y : NestedKey × Addr × Value} : ∀ {xs : List Ent} {ys : List (NestedKey × Addr × Value)}, RelE xs ys → y ∈ ys → ∃ x ∈ xs, x.1 = y.1 ∧ x.2.1 = y.2.1
  | _, _, .nil, h => nomatch h
  | x :: r, z :: r', .cons q t, h => by
    rcases List.mem_cons.mp h with rfl | h
    · exact ⟨x, List.mem_cons_self, q.1, q.2.1⟩
    · obtain ⟨x', h1, h2⟩ := RelE.mem t h
      exact ⟨x', List.mem_cons_of_mem _ h1, h2⟩
end
end Mi
end
section
set_option maxHeartbeats 1000000
namespace Mi
open PySem PySem.Spec PyProof.Rows L2
theorem RN.val {K : PySem.W.Frag} {H : Hp} {m : List Addr} {k : NestedKey} : ∀ {kvs : List (NestedKey × D)} {xs : List Ent}, RN K H m kvs xs → (valD kvs k = none ∧ valN xs k = none) ∨ ∃ d v, valD kvs k = some d ∧ valN xs k = some v ∧ RD K H m d v
  | _, _, .nil => .inl ⟨rfl, rfl⟩
  | (k1, d) :: r, (k2, b, v) :: r', .cons q t => by
    obtain ⟨rfl, d8, nv, q⟩ : k1 = k2 ∧ k1.depth ≤ 8 ∧ NV K H k1 (.ref b) ∧ RD K H m d v := q
    by_cases e : k1 = k
    · refine .inr ⟨d, v, ?_, ?_, q⟩ <;> simp [valD, valN, e]
    · have h1 : valD ((k1, d) :: r) k = valD r k := by simp [valD, e]
      have h2 : valN ((k1, b, v) :: r') k = valN r' k := by simp [valN, e]
      rw [h1, h2]
      exact RN.val t
theorem RN.length {K : PySem.W.Frag} {H : Hp} {m : List Addr} {kvs : List (NestedKey × D)} {xs : List Ent} (r : RN K H m kvs xs) : kvs.length = xs.length := Paired.length r
theorem RN.mapPut {K : PySem.W.Frag} {H : Hp} {m : List Addr} {k : NestedKey} {d : D} {v : V} (q0 : RD K H m d v) : ∀ {kvs : List (NestedKey × D)} {xs : List Ent}, RN K H m kvs xs → RN K H m (kvs.map fun kv => if kv.1 = k then (kv.1, d) else kv) (xs.map fun z => if z.1 = k then (z.1, z.2.1, v) else z)
  | _, _, .nil => .nil
  | (k1, d1) :: r, (k2, b, v1) :: r', .cons q t => by
    obtain ⟨rfl, d8, nv, q⟩ : k1 = k2 ∧ k1.depth ≤ 8 ∧ NV K H k1 (.ref b) ∧ RD K H m d1 v1 := q
    refine .cons ?_ (RN.mapPut q0 t)
    by_cases e : k1 = k
    · simp only [e, if_true]; exact ⟨trivial, by rw [← e]; exact d8, by rw [← e]; exact nv, q0⟩
    · simp only [e, if_false]; exact ⟨trivial, d8, nv, q⟩
theorem any_valD {κ : Type} [DecidableEq κ] (kvs : List (κ × D)) (k : κ) : (kvs.any fun kv => decide (kv.1 = k)) = (valD kvs k).isSome := by
  unfold valD
  induction kvs with
  | nil => rfl
  | cons p r ih =>
    by_cases e : p.1 = k
    · simp [e]
    · simpa [e] using ih
theorem RN.put {K : PySem.W.Frag} {H : Hp} {m : List Addr} {k : NestedKey} {kb : Addr} {d : D} {v : V} {kvs : List (NestedKey × D)} {xs : List Ent} (r : RN K H m kvs xs) (nv : NV K H k (.ref kb)) (d8 : k.depth ≤ 8) (q : RD K H m d v) : RN K H m (putD kvs k d) (putN xs k kb v) := by
  unfold putD putN
  rw [any_valD]
  rcases r.val (k := k) with ⟨e1, e2⟩ | ⟨d', v', e1, e2, _⟩
  · rw [e1, e2]
    exact Paired.snoc r ⟨rfl, d8, nv, q⟩
  · rw [e1, e2]
    exact RN.mapPut q r
/-- such a dict stands -/
theorem RH.dnk {K : PySem.W.Frag} {G : Gx} {L : List Nat} {m : List Addr} {h : Hh} {H : Hp} {n : Nat} {a : Addr} {kvs : List (NestedKey × D)} (S : RH K G L m h H) (e : h[n]? = some (.dnk kvs)) (ea : m[n]? = some a) : n ∉ L ∧ ∃ b xs, H a = some (.ext (PhiN G.w b xs)) ∧ RN K H m kvs xs := by
  obtain ⟨u, q, i1, i2⟩ := S.at_ n _ a e ea
  have nl : n ∉ L := fun z => by
    have := (i1 z).1
    simp [Ob.isDic] at this
  cases u <;> first | exact False.elim q | skip
  obtain ⟨b, xs, rfl, r⟩ := q
  exact ⟨nl, b, xs, i2 nl, r⟩
end Mi
end
section
set_option maxHeartbeats 1000000
namespace Mi
open PySem PySem.Spec PyProof.Rows L2
def whileX (t : TX) (b : SX) : Nat → SX
  | 0 => fun _ _ _ => .bad
  | f + 1 => fun ρ L h => (t ρ L h).toS ρ fun c h1 => if c then (match b ρ L h1 with
      | .nx ρ2 h2 => whileX t b f ρ2 L h2
      | .cnt ρ2 h2 => whileX t b f ρ2 L h2
      | .brk ρ2 h2 => .nx ρ2 h2
      | r => r) else .nx ρ h1
def sWhile (t : TX) (b : SX) : SX := whileX t b fuel
section
variable {X : Cx} {Z : Zx X.K} [NoJ Z] {c : Expr} {body : List Stmt} {tx : TX} {b : SX} {pos : Pos}
theorem ms_while (hp : PassesOwn (model X.prog X.w) X.A X.env X.xe) (hc : MT X Z c tx) (hb : MB X Z body b) : MS X Z (.While c body [] pos) (sWhile tx b) := by
  refine PS.imp (ps_while hp hc hb) fun D σ H ⟨m, L, h, ρ, S, A⟩ => ?_
  refine ⟨fun k σ H => ∃ m L h ρ, Stt X.K Z L m h ρ σ H ∧ AftS X.K Z.G L m H (whileX tx b k ρ L h) D Z.W, ⟨fuel, m, L, h, ρ, S, A⟩, ?_⟩
  rintro k σ H ⟨m, L, h, ρ, S, A⟩
  cases k with
  | zero => exact False.elim A
  | succ k =>
    refine Rg.toS S A fun m1 h1 H1 c v S1 l1 p1 q1 A1 => ?_
    cases q1
    cases c with
    | false =>
      rw [if_neg Bool.false_ne_true]
      exact A1.nx S1
    | true =>
      rw [if_pos rfl]
      refine ⟨fun σ' H' => ∃ m L h ρ, Stt X.K Z L m h ρ σ' H' ∧ AftS X.K Z.G L m H' (whileX tx b k ρ L h) D Z.W, fun σ' H' z => ⟨k, Nat.lt_succ_self k, z⟩, m1, L, h1, ρ, S1, ?_⟩
      simp only [if_true] at A1
      cases e : b ρ L h1 with
      | nx ρ2 h2 =>
        rw [e] at A1
        exact fun m' H' σ' l' p' r' q => ⟨m', L, h2, ρ2, (S1.on l' p' r').set q, AftS.mono (A1 : AftS X.K Z.G L m1 H1 (whileX tx b k ρ2 L h2) D Z.W) l' p'⟩
      | cnt ρ2 h2 =>
        rw [e] at A1
        exact fun m' H' σ' l' p' r' q => ⟨m', L, h2, ρ2, (S1.on l' p' r').set q, AftS.mono (A1 : AftS X.K Z.G L m1 H1 (whileX tx b k ρ2 L h2) D Z.W) l' p'⟩
      | brk ρ2 h2 =>
        rw [e] at A1
        exact fun m' H' σ' l' p' r' q => (A1 : ∀ _, _) m' H' σ' l' p' r' q
      | ret d h2 => rw [e] at A1; exact A1
      | exc c q ρ2 h2 => rw [e] at A1; exact A1
      | bad => rw [e] at A1; exact A1
end
abbrev MK (X : Cx) (Z : Zx X.K) (ks : List Keyword) (r : AX) : Prop := PK X ks (Rg X.K (rDs X.K) Z r)
theorem PK.imp {X : Cx} {e : List Keyword} {t t' : TA} (h : PK X e t) (i : ∀ σ H Q, t' σ H Q → t σ H Q) : PK X e t' := ⟨fun pos pins s σ H Q I q => h.run pos pins s σ H Q I (i σ H Q q)⟩
section
variable {X : Cx} {Z : Zx X.K} {e : Expr} {es : List Expr} {rs rk : AX} {pos p kpos : Pos} {k np n nk : Nat} {f : Addr} {fd : FuncData} {ps ks : List Str} {fx : FX} {x : Str} {nm : Option Str} {kws : List Keyword} {r : EX} {t : AX} {g : List Value → List Value → List Value}
theorem mk_nil : MK X Z [] aNil := PK.imp pk_nil fun σ H Q ⟨m, L, h, ρ, S, A⟩ => Aft.ok (RA := rDs X.K) S A .nil
theorem mk_cons (ha : ME X Z e r) (hr : MK X Z kws t) : MK X Z (⟨nm, e, kpos⟩ :: kws) (aCons r t) := by
  refine PK.imp (pk_cons ha hr) fun σ H Q ⟨m, L, h, ρ, S, A⟩ => ?_
  refine Rg.bind (RC := rDs X.K) S A fun m1 h1 H1 x v S1 l1 p1 q1 A1 => ?_
  refine Rg.bind (RC := rDs X.K) S1 A1 fun m2 h2 H2 xs vs S2 l2 p2 q2 A2 => ?_
  exact Aft.ok (RA := rDs X.K) S2 A2 (.cons (q1.mono p2 l2) q2)
end
end Mi
end
section
set_option maxHeartbeats 1000000
noncomputable section
namespace Mi
open PySem PySem.W PySem.Calls PyProof.Rows L2
end Mi
end
namespace Mi
open PySem PySem.Spec PyProof.Rows L2
end Mi
end
section
set_option maxHeartbeats 1000000
namespace Mi
open PySem PySem.Spec PyProof.Rows L2
section
variable {X : Cx} {Z : Zx X.K} {o : Expr} {ra : EX} {apos pos : Pos}
theorem RDs.at_ {K : PySem.W.Frag} {H : Hp} {m : List Addr} : ∀ {ds : List D} {vs : List V} {i : Nat} {d : D}, RDs K H m ds vs → ds[i]? = some d → ∃ v, vs[i]? = some v ∧ RD K H m d v
  | _, _, i, d, .nil, e => by simp at e
  | _, _, 0, d, .cons a b, e => by
    simp at e
    subst e
    exact ⟨_, rfl, a⟩
  | _, _, i + 1, d, .cons a b, e => by
    rw [List.getElem?_cons_succ] at e ⊢
    exact RDs.at_ b e
theorem RDs.dropLast {K : PySem.W.Frag} {H : Hp} {m : List Addr} {ds : List D} {vs : List V} (t : RDs K H m ds vs) : RDs K H m ds.dropLast vs.dropLast := by
  rw [List.dropLast_eq_take, List.dropLast_eq_take, t.length]
  exact RDs.take _ t
end
end Mi
end
section
set_option maxHeartbeats 1000000
namespace Mi
open PySem PySem.Spec PyProof.Rows L2
open PySem.W (alike dataLt dataLe EachIs sort_each)
end Mi
end
section
set_option maxHeartbeats 1000000
namespace Mi
open PySem PySem.Spec PyProof.Rows L2
end Mi
end
section
set_option maxHeartbeats 1000000
namespace Mi
open PySem L2
def rEqL (K : PySem.W.Frag) : R2 := fun x y H Q => ∃ d e, Dp K H x d ∧ Dp K H y e ∧ d.plain = true ∧ e.plain = true ∧ d.depth ≤ 220 ∧ Q (.bl (PyData.eqv d e)) H
section
variable {X : Cx} {Z : Zx X.K} {a b : Expr} {ra rb : EX} {pos : Pos}
theorem op_eqL (hu : X.A.units + 230 < cLine) : OpR X (compareOp .Eq) (rEqL X.K) := by
  intro pins s σ H x y v u Q I rx ry h
  obtain ⟨d, e, hd, he, p1, p2, l, q⟩ := h
  obtain ⟨as, r1⟩ := Dp.reads I d x v hd rx
  obtain ⟨bs, r2⟩ := Dp.reads I e y u he ry
  exact SeqAt.rcAt_plain r1 r2 p1 p2 (by omega) X.prog X.w _ _ ⟨.bl _, H, I, rfl, q⟩
def eqL (x y : D) (h : Hh) : Option Bool := match toPy 220 h x, toPy 220 h y with
  | some p, some q => some (PyData.eqv p q)
  | _, _ => none
def bEqL : B2 := fun x y h => match eqL x y h with
  | some b => .ok (.bl b) h
  | none => .bad
theorem eqL_ok {K : PySem.W.Frag} {G : Gx} {L : List Nat} {m : List Addr} {h : Hh} {H : Hp} {x y : D} {v u : V} {b : Bool} {Q : Bool → Prop} (S : RH K G L m h H) (rx : RD K H m x v) (ry : RD K H m y u) (e : eqL x y h = some b) (q : Q b) :
    ∃ d e, Dp K H v d ∧ Dp K H u e ∧ d.plain = true ∧ e.plain = true ∧ d.depth ≤ 220 ∧ Q (PyData.eqv d e) := by
  unfold eqL at e
  split at e
  · rename_i p1 p2 e1 e2
    cases e
    exact ⟨p1, p2, toPy_dp S _ rx e1, toPy_dp S _ ry e2, (toPy_plain _ e1).1, (toPy_plain _ e2).1, (toPy_plain _ e1).2, q⟩
  · cases e
theorem ok_eqL {K : PySem.W.Frag} : OkB K bEqL (rEqL K) := by
  intro G L m h H x y v u Q E S lk rx ry A
  unfold bEqL at A
  split at A
  · rename_i b e
    exact eqL_ok (Q := fun b => Q (.bl b) H) S rx ry e (AftB.ok S A (.bl b))
  · exact False.elim A
theorem mc_eqL (hu : X.A.units + 230 < cLine) (ha : ME X Z a ra) (hb : ME X Z b rb) : MC X Z (.Compare a [.Eq] [b] pos) (eBin bEqL ra rb) := mc_cmp (op_eqL hu) ok_eqL ha hb (nomark _)
theorem un230 {k : Nat} {A : Around} (r : Room (k + 2) A) : A.units + 230 < cLine := by have := r.un; omega
end
end Mi
end
section
set_option maxHeartbeats 1000000
noncomputable section
namespace Mi
open PySem PySem.W PySem.Calls PyProof.Rows L2
theorem meets_enumerate_new1 {v : Value} {o : Obj} {H : Heap → Prop} (B : Begins v o H) :
    Meets (Builtin.«enumerate.__new__» ⟨[.type "enumerate", v], []⟩) (fun _ R s => H s.heap ∧
      R (.ok (.ret (.ref (s.heap.push o).objs.size))) { s with heap := (s.heap.push o).push { cls := .type "enumerate", data := .fields #[.none, .bool false, .ref s.heap.objs.size, rawInt 0, .none, .none] } }) :=
  .of_wp fun prog w A R s h => by
    obtain ⟨hp, g, d, tk, os⟩ := s; obtain ⟨h1, h⟩ := h
    have hsub := sub_enumerate
    have q1 : ∀ {A' : Around} {E : Value → Shared → Prop} {Q : Value → Shared → Prop}, Q (.ref hp.objs.size) ⟨hp.push o, g, d, tk, os⟩ → wpAny (model prog w) A' (pyIter v) Q E ⟨hp, g, d, tk, os⟩ :=
      fun q => B.iter prog w _ _ ⟨hp, g, d, tk, os⟩ _ h1 q
    wp_walk using q1
    refine wpAny_stack_any fun st => wpAny_pure ?_
    split
    · rename_i c _ _ _ _ _
      cases (c == Value.type "enumerate")
      · wp_walk using q1
        exact ⟨_, rfl, h⟩
      · wp_walk using q1
        exact ⟨_, rfl, h⟩
    · wp_walk using q1
      exact ⟨_, rfl, h⟩
section
variable {prog : Program} {w : World} {A : Around} {E : Value → Shared → Prop} {s : Shared}
theorem enum_begins1 {v : Value} {o : Obj} {H : Heap → Prop} {Q : Value → Shared → Prop} (B : Begins v o H) (h1 : H s.heap)
    (h : ∀ h', IsEnum h' (s.heap.objs.size + 1) s.heap.objs.size 0 .none → h'.get? s.heap.objs.size = some o → h'.objs.size = s.heap.objs.size + 2 →
      (∀ b o, s.heap.get? b = some o → h'.get? b = some o) → Q (.ref (s.heap.objs.size + 1)) { s with heap := h' }) :
    wpAny (model prog w) A (call (.type "enumerate") [v]) Q E s := by
  refine callType_new F.called_enumerate (by decide) (F.typeCall_enumerate_1 _) (F.newCall_enumerate_1 _) (fun obj => F.args_object_init_2 obj _) F.entry_enumerate_new
    (meets_enumerate_new1 B) ⟨h1, ?_⟩
  have hz : (s.heap.push o).objs.size = s.heap.objs.size + 1 := Heap.size_push ..
  show _ ∧ _
  rw [hz]
  have he : IsEnum ((s.heap.push o).push { cls := .type "enumerate", data := .fields #[.none, .bool false, .ref s.heap.objs.size, rawInt 0, .none, .none] }) (s.heap.objs.size + 1) s.heap.objs.size 0 .none := by
    have := Heap.get?_push_size (s.heap.push o) (o := { cls := .type "enumerate", data := .fields #[.none, .bool false, .ref s.heap.objs.size, rawInt 0, .none, .none] }) rfl
    rw [hz] at this; exact this
  refine ⟨⟨_, he, rfl⟩, h _ he (Heap.get?_push_of_some _ (Heap.get?_push_size _ B.free)) (by rw [Heap.size_push, hz]) fun b o x => Heap.get?_push_of_some _ (Heap.get?_push_of_some _ x)⟩
end
theorem enumT_end {prog : Program} {w : World} {A : Around} {E : Value → Shared → Prop} {s : Shared} {e it l : Addr} {i : Nat} {items : Array Value} {old : Value} {Q : Option Value → Shared → Prop} (hh : A.handled = none)
    (he : IsEnum s.heap e it i old) (hit : s.heap.IsTupleIter it l i) (hl : s.heap.IsTuple l items) (hx : items[i]? = none)
    (hQ : ∀ h', Heap.ExtBut it s.heap h' → Q none { s with heap := h' }) : wpAny (model prog w) A (pyNext (.ref e)) Q E s := by
  have hT : s.TypeIs (.ref e) "enumerate" := ⟨_, he, rfl⟩
  unfold pyNext
  refine wpAny_bind (wpAny_attempt (wpAny_callSpecial?_slot (name := Str.ofString "__next__") hT F.slot_enumerate_next
    (wpAny_call_entry F.slot_enumerate_next hT F.entry_enumerate_next ?_ (F.args_enumerate_next_1 _))))
  show wpAny _ _ (field (.ref e) 2 >>= _) _ _ _
  refine wpAny_bind (wpAny_field he rfl (x := .ref it) rfl ?_)
  refine wpAny_bind (wpAny_nextOf_tuple_end hh hit hl hx fun h' x he' hx' => ?_)
  obtain ⟨o, ho, hc⟩ := hx'
  refine wpAny_bind (wpAny_isInstance (T := "StopIteration") (b := true) ⟨o, ho, hc⟩ isSubtype_stop ?_)
  exact wpAny_pure (hQ _ he')
/-- the tuple at a, each item in a new pair -/
def Itet (K : PySem.W.Frag) (a : Addr) : It :=
  ⟨fun i H => ∃ (xs : List V) (x : V), SqT K H a xs ∧ xs[i]? = some x, fun i H v H' => ∃ T x, v = .ref T ∧ H T = none ∧ H' = upd H T (.tup [.int (i : Nat), x]) ∧ ∀ xs, SqT K H a xs → xs[i]? = some x, fun i H => ∃ xs : List V, SqT K H a xs ∧ xs.length ≤ i⟩
theorem turn_enumT {P : Program} {w : World} {K : PySem.W.Frag} {elts : List Expr} {kk : Nat} {tpos : Pos} (a e it : Addr) :
    Turn P w K (.Tuple elts kk tpos) (Itet K a) [e, it] e (fun i h => (∃ old, IsEnum h e it ((i : Nat) : Int) old) ∧ h.IsTupleIter it a i ∧ e ≠ it ∧ e ≠ a ∧ a ≠ it) where
  mem := by simp
  obj := fun i h st b hb => by
    obtain ⟨⟨old, he⟩, ⟨o, ho, hc, hd⟩, _⟩ := st
    have e' : b = e ∨ b = it := by simpa using hb
    rcases e' with z | z
    · rw [z]; exact ⟨_, he, fun v q => nomatch q⟩
    · rw [z]; exact ⟨o, ho, fun v q => by rw [hd] at q; cases q⟩
  keep := fun i h h' st k => let ⟨⟨old, he⟩, hi, hne⟩ := st; ⟨⟨old, k e (by simp) _ he⟩, hi.at fun o q => k it (by simp) o q, hne⟩
  item := by
    intro X hP hw hK hc i pins s σ H E I hf st hg
    subst hP hw hK
    obtain ⟨⟨old, he⟩, hit, hne, hea, hai⟩ := st
    obtain ⟨xs, x, hq, hx⟩ := hg
    obtain ⟨its, rv, p, hz⟩ := I.tuple hq
    have pt : s.heap.IsTuple a its.toArray := p
    obtain ⟨u, hu, ru⟩ := rv.get hx
    have hel : e < s.heap.objs.size := Heap.lt_size he
    have hil : it < s.heap.objs.size := by obtain ⟨_, q, _⟩ := hit; exact Heap.lt_size q
    have hlt : i < its.toArray.size := by
      have := (List.getElem?_eq_some_iff.mp hu).1
      simpa using this
    refine wpAny_pyNext_enum_itemD (Draws.tuple (A := X.A.in1) (I.ok.hd hc) it a hai its.toArray) he ⟨hit, pt⟩ hlt hne (by simp; exact ⟨hne, hea⟩) fun y h' tk hy ho hst' hT hsz hk => ?_
    obtain ⟨hit', pt'⟩ := hst'
    have ey : y = u := by
      have : its.toArray[i]? = some u := by simpa using hu
      rw [this] at hy
      exact (Option.some.inj hy).symm
    subst ey
    refine ⟨_, rfl, wpAny_letOwnedTupleGo_enum (s := { s with heap := h', toks := tk + 1 }) ho fun h'' he' sb => ?_⟩
    have hT2 : h''.get? s.heap.objs.size = some { cls := .type "tuple", data := .seq #[.int i tk, y] } := (sb.2 _ (Nat.ne_of_gt hel)).trans hT
    have new : ObjOk X.prog X.w (upd H s.heap.objs.size (.tup [.int (i : Nat), x])) h'' s.heap.objs.size (.tup [.int (i : Nat), x]) :=
      ⟨by show 2 ≤ sizeLine; decide, [.int i tk, y], .cons ⟨_, rfl⟩ (.cons ru .nil), ⟨_, hT2, rfl, _, rfl⟩⟩
    have I1 : Inv X pins σ (upd H s.heap.objs.size (.tup [.int (i : Nat), x])) { s with heap := h'', toks := tk + 1 } :=
      I.turnedNew (ch := [e, it]) (fun b ob hb q => (sb.2 b (fun z => hb (by simp [z]))).trans (hk b ob (fun z => hb (by simp [z])) (fun z => hb (by simp [z])) q)) hf (Nat.le_refl _) new
    refine ⟨.ref s.heap.objs.size, _, I1, rfl, ⟨_, x, rfl, I.hok.fresh (Nat.le_refl _), rfl, fun ys hy => by rw [I.tuple_inj hy hq]; exact hx⟩, ⟨⟨y, ?_⟩, hit'.at fun o q => (sb.2 it (Ne.symm hne)).trans q, hne, hea, hai⟩, fun b hb => ?_⟩
    · have e1 : ((i + 1 : Nat) : Int) = (i : Int) + 1 := by omega
      rw [e1]; exact he'
    · have hb' : b < s.heap.objs.size := by
        have e' : b = e ∨ b = it := by simpa using hb
        rcases e' with z | z
        · rw [z]; exact hel
        · rw [z]; exact hil
      rw [upd_ne (Nat.ne_of_lt hb')]
      exact (hf b hb).1
  done := by
    intro X hP hw hK hc i pins s σ H E I hf st hg
    subst hP hw hK
    obtain ⟨⟨old, he⟩, hit, hne, hea, hai⟩ := st
    obtain ⟨xs, hq, hx⟩ := hg
    obtain ⟨its, rv, p, hz⟩ := I.tuple hq
    have pt : s.heap.IsTuple a its.toArray := p
    obtain ⟨f0, f1, f2, f3, f4, f5⟩ := hf it (by simp)
    have hl := rv.length
    refine enumT_end (I.ok.hd hc) he hit pt (by simp; omega) fun h' eb => ⟨rfl, I.turned (t' := s.toks) (fun b o hb q => eb b o hb q) f0 f1 f3 f4 f5⟩
  self := fun A i s Q E st h => let ⟨⟨_, he⟩, _⟩ := st; wpAny_pyIter_enum he h
def iEnumT (K : PySem.W.Frag) (ta : TA) : TI := fun σ H R => ta σ H fun vs H1 => ∃ a xs, vs = [.ref a] ∧ SqT K H1 a xs ∧ R (Itet K a) H1
theorem pi_enumT {X : Cx} {e : Expr} {ta : TA} {p pos tpos : Pos} {elts : List Expr} {kk : Nat} (hg : Gl X "enumerate") (hm : X.mg "enumerate" = none) (ha : PA X [e] ta) (hs : starEach [e] X.env = [(false, eval e X.env)] := by rfl) :
    PI X (.Tuple elts kk tpos) (.Call (.Name "enumerate" p) [e] [] pos) (iEnumT X.K ta) := by
  refine ⟨fun pins s σ H R I h => ?_⟩
  refine Call_ (ld_blt I hg hm boot_enumerate (PyProof.Rows.callWith_type1 (thn (ha.run pos pins s σ H _ I h) fun us s1 ⟨vs, H1, I1, r1, q1⟩ => ?_) hs rfl))
  obtain ⟨a, xs, ex, hq, q⟩ := q1
  subst ex
  cases r1 with
  | cons r rr =>
    cases rr
    cases r
    obtain ⟨its, rv, p', hz⟩ := I1.tuple hq
    have pt : s1.heap.IsTuple a its.toArray := p'
    have ha' : a < s1.heap.objs.size := by obtain ⟨_, q, _⟩ := pt; exact Heap.lt_size q
    refine enum_begins1 (begins_tuple a its.toArray) pt fun h' he hit hsz hk => wpAny_pyIter_enum he ?_
    have I2 : Inv X pins σ H1 { s1 with heap := h' } := I1.kept (t' := s1.toks) hk
    refine ⟨s1.heap.objs.size + 1, [s1.heap.objs.size + 1, s1.heap.objs.size], _, _, H1, rfl, I2, turn_enumT a (s1.heap.objs.size + 1) s1.heap.objs.size, ⟨⟨.none, he⟩, ⟨_, hit, rfl, rfl⟩, Nat.succ_ne_self _, Nat.ne_of_gt (Nat.lt_succ_of_lt ha'), Nat.ne_of_lt ha'⟩, fun b hb => ?_, q⟩
    have e' : b = s1.heap.objs.size + 1 ∨ b = s1.heap.objs.size := by simpa using hb
    have hle : s1.heap.objs.size ≤ b := by
      rcases e' with z | z
      · rw [z]; exact Nat.le_add_right _ _
      · rw [z]; exact Nat.le_refl _
    exact I1.fpOk hle (I1.hok.fresh hle)
end Mi
end
namespace Mi
open PySem PySem.Spec PyProof.Rows L2
def enumD (xs : List D) : List D := xs.zipIdx.map fun q => .tup [.int q.2, q.1]
theorem enumD_at {xs : List D} {i : Nat} {d : D} (e : (enumD xs)[i]? = some d) : ∃ x, xs[i]? = some x ∧ d = .tup [.int i, x] := by
  unfold enumD at e
  rw [List.getElem?_map, List.getElem?_zipIdx] at e
  cases ex : xs[i]? with
  | none => rw [ex] at e; cases e
  | some x =>
    rw [ex] at e
    refine ⟨x, rfl, ?_⟩
    simpa using e.symm
theorem enumD_len (xs : List D) : (enumD xs).length = xs.length := by unfold enumD; simp
/-- over the list n as it stands at each turn, each item in a pair -/
def loopE (g : GX) (b : SX) (n : Nat) : Nat → Nat → SX
  | 0, _ => fun _ _ _ => .bad
  | f + 1, i => fun ρ L h => match h[n]? with
    | some (.lst xs) => (match xs[i]? with
      | none => .nx ρ h
      | some x => (match (g (.tup [.int i, x]) ρ L h).toS ρ fun ρ1 h1 => b ρ1 L h1 with
        | .nx ρ2 h2 => loopE g b n f (i + 1) ρ2 L h2
        | .cnt ρ2 h2 => loopE g b n f (i + 1) ρ2 L h2
        | .brk ρ2 h2 => .nx ρ2 h2
        | r => r))
    | _ => .bad
def sForE (a : EX) (g : GX) (b : SX) : SX := fun ρ L h => (a ρ L h).toS ρ fun x h1 => match x with
  | .tup xs => loopV g b (enumD xs) ρ L h1
  | .ref n => loopE g b n fuel 0 ρ L h1
  | _ => .bad
theorem rd_pair {K : PySem.W.Frag} {H : Hp} {m : List Addr} {i : Nat} {d : D} {v : V} {T : Addr} (hT : H T = none) (q : RD K H m d v) : RD K (upd H T (.tup [.int (i : Nat), v])) m (.tup [.int i, d]) (.ref T) :=
  .tup (.inl upd_same) (.cons (.int _) (.cons (q.mono (pers_new hT) (Le.refl _)) .nil))
theorem src_enumT {K : PySem.W.Frag} {G : Gx} {a : Addr} {xs : List D} {vs : List V} : Src K G (Itet K a) (enumD xs) fun m H => SqD K H a vs ∧ RDs K H m xs vs where
  mono := fun h l p => ⟨p.tup _ _ h.1, h.2.mono p l⟩
  go := fun {i m H} h hi => by
    rw [enumD_len] at hi
    exact ⟨vs, vs[i]'(by rw [← h.2.length]; exact hi), h.1.t, List.getElem?_eq_getElem _⟩
  yld := fun h e y => by
    obtain ⟨T, x, rfl, hT, rfl, y⟩ := y
    obtain ⟨d, ed, rfl⟩ := enumD_at e
    obtain ⟨w, hw, q⟩ := h.2.get ed
    have := y vs h.1.t
    rw [hw] at this
    cases this
    exact ⟨pers_new hT, fun _ _ r => r.more hT, rd_pair hT q⟩
  stop := fun h hi => by
    rw [enumD_len] at hi
    exact ⟨vs, h.1.t, by rw [← h.2.length]; exact hi⟩
theorem for_liveE {K : PySem.W.Frag} {Z : Zx K} [NoJ Z] {n : Nat} {a : Addr} {L : List Nat} {m : List Addr} {h : Hh} {ρ : Rho} {σ : L2.St} {H : Hp} {D : Ends} {g : GX} {b : SX} {f : Nat} (S : Stt K Z L m h ρ σ H) (hn : m[n]? = some a)
    (A : AftS K Z.G L m H (loopE g b n f 0 ρ L h) D Z.W) :
    ∃ W : Nat → Nat → L2.St → Hp → Prop, (∃ k, W 0 k σ H) ∧ ∀ i k σ H, W i k σ H →
      ((Ite K a).stop i H ∧ D.nx σ H) ∨ ((Ite K a).go i H ∧ ∃ N : L2.St → Hp → Prop, (∀ σ' H', N σ' H' → ∃ k', k' < k ∧ W (i + 1) k' σ' H') ∧ ∀ x H', (Ite K a).yld i H x H' → Rt K Z g x σ H' fun σ2 H2 => Rs K Z b { D with nx := N, ct := N, bk := D.nx } σ2 H2) := by
  refine ⟨fun i k σ H => ∃ m L h ρ, Stt K Z L m h ρ σ H ∧ m[n]? = some a ∧ AftS K Z.G L m H (loopE g b n k i ρ L h) D Z.W, ⟨f, m, L, h, ρ, S, hn, A⟩, ?_⟩
  rintro i k σ H ⟨m, L, h, ρ, S, hn, A⟩
  cases k with
  | zero => exact False.elim A
  | succ k =>
    simp only [loopE] at A
    split at A
    · rename_i xs ex
      obtain ⟨vs, hv, t⟩ := S.rh.lstH hn ex
      split at A
      · rename_i e
        exact .inl ⟨⟨vs, .of hv, List.getElem?_eq_none_iff.mp (t.none_of e)⟩, A.nx S⟩
      · rename_i x e
        obtain ⟨v, hv1, q⟩ := t.get e
        refine .inr ⟨⟨vs, v, .of hv, hv1⟩, fun σ' H' => ∃ m L h ρ, Stt K Z L m h ρ σ' H' ∧ m[n]? = some a ∧ AftS K Z.G L m H' (loopE g b n k (i + 1) ρ L h) D Z.W, fun σ' H' z => ⟨k, Nat.lt_succ_self _, z⟩, fun x' H' y => ?_⟩
        obtain ⟨T, x2, rfl, hT, rfl, y⟩ := y
        have ex' : x2 = v := by
          have := y vs (.of hv)
          rw [hv1] at this
          exact (Option.some.inj this).symm
        subst ex'
        have p1 : Pers K H (upd H T (.tup [.int (i : Nat), x2])) := pers_new hT
        have S1 := S.on (Le.refl _) p1 (S.rh.more hT)
        exact turn_ok S1 (rd_pair hT q) (AftS.mono A (Le.refl _) p1) fun m1 h1 ρ1 H1 σ1 S2 l2 p2 A2 => ⟨m1, L, h1, ρ1, S2, l2 _ _ hn, A2⟩
    · exact False.elim A
section
variable {X : Cx} {Z : Zx X.K} [NoJ Z] {e : Expr} {body : List Stmt} {ra : EX} {pos p pc tpos : Pos} {g : GX} {b : SX} {elts : List Expr} {kk : Nat}
theorem ms_forE (hp : PassesOwn (model X.prog X.w) X.A X.env X.xe) (hc : X.calm = true) (hgl : Gl X "enumerate") (hm : X.mg "enumerate" = none) (he : ME X Z e ra) (hg : MG X Z (.Tuple elts kk tpos) g) (hb : MB X Z body b) (hq : starEach [e] X.env = [(false, eval e X.env)] := by rfl)
    (hs : ∀ x, foldedSetIterable (.Call (.Name "enumerate" p) [e] [] pc) X.env x = pure x := by intro _; rfl) : MS X Z (.For (.Tuple elts kk tpos) (.Call (.Name "enumerate" p) [e] [] pc) body [] pos) (sForE ra g b) := by
  refine PS.imp (PS.or (ps_for hp hc (pi_enumT hgl hm (pa_cons he pa_nil hq) hq) hg hb hs) (ps_for hp hc (pi_enum hgl hm (pa_cons he pa_nil hq) hq) hg hb hs)) fun D σ H ⟨m, L, h, ρ, S, A⟩ => ?_
  by_cases hd : ∃ xs h1, ra ρ L h = .ok (.tup xs) h1
  · refine .inl ?_
    obtain ⟨xs, h1, e1⟩ := hd
    refine Rg.toSE S A fun m1 h1' H1 x v f1 S1 l1 p1 q1 A1 => ?_
    rw [e1] at f1
    cases f1
    cases q1 with
    | tup hh t => exact ⟨_, _, rfl, hh.t, for_still src_enumT S1 ⟨hh, t⟩ A1⟩
  · refine .inr ?_
    refine Rg.toSE S A fun m1 h1 H1 x v f1 S1 l1 p1 q1 A1 => ?_
    cases q1 with
    | tup hh t => exact absurd ⟨_, _, f1⟩ hd
    | ref hn =>
      rename_i n a
      have A1' : AftS X.K Z.G L m1 H1 (loopE g b n fuel 0 ρ L h1) D Z.W := A1
      have ef : fuel = 99999 + 1 := rfl
      have A2 := A1'
      rw [ef, loopE] at A2
      dsimp only at A2
      split at A2
      · rename_i xs ex
        obtain ⟨vs, hv, t⟩ := S1.rh.lstH hn ex
        exact ⟨a, vs, rfl, .of hv, for_liveE S1 hn A1'⟩
      · exact False.elim A2
    | _ => exact False.elim A1
end
end Mi
end
section
set_option maxHeartbeats 1000000
noncomputable section
namespace Mi
open PySem PySem.W PySem.Calls PyProof.Rows L2
theorem argsD (a v : Value) : argsOk "max" ⟨[a], [(Str.ofString "default", v)]⟩ := by unfold argsOk; kernel_rfl
section
variable {pg : Program} {w : World} {A : Around} {RR : Result → Shared → Prop} {it : Addr} {fo wo : List Addr} {nn : Nat} {PP : Nat → Value → Prop} {SS : Nat → Heap → Prop} {dv : Value}
theorem loopName : (toString "max" ++ toString ".loop" : String) = "max.loop" := by decide
theorem maxD_go (wk : Walks pg w A.in1 it fo wo nn PP SS) (bt : Nat → Nat → Bool) (cm : CmpOf pg w A.in1 .Gt PP bt) (B : Addr) (hB : B ∉ fo) :
    ∀ (r j : Nat) (s : Shared) (x : Value) (c : Nat), nn - (j + 1) = r → j + 1 ≤ nn → SS (j + 1) s.heap → PP (argBest bt j) x → s.heap.get? B = some { cls := .type "list", dict := none, data := .seq #[x, x] c, slots := #[] } →
    (∀ y hq t, PP (argBest bt (nn - 1)) y → (∀ b o, b ∉ wo → b ≠ B → s.heap.get? b = some o → hq.get? b = some o) → RR (.ok (.ret y)) { s with heap := hq, toks := t }) →
    codeAny (model pg w) A (.builtin "max.loop" ⟨[.ref it, .none, .ref B], [(Str.ofString "default", dv)]⟩) RR s := by
  have nB : B ∉ wo := fun z => hB (wk.sub _ z)
  intro r
  induction r with
  | zero =>
    intro j s x c er lj sj px oB fin
    have ej : j + 1 = nn := by omega
    refine codeAny_builtin F.entry_max_loop ?_; rw [Around.under_plainId F.plain_max_loop _]
    show wpAny _ A.in1 (seqItems? (.ref B) >>= _) _ _ s
    refine wpAny_bind (wpAny_seqItems oB rfl ?_)
    show wpAny _ A.in1 (tryCatch (pyNext (.ref it)) _ >>= _) _ _ s
    refine wpAny_bind (wpAny_tryCatch (wk.done s _ _ (ej ▸ sj) fun hq t kq => ?_))
    have oB' := kq B _ nB oB
    show wpAny _ A.in1 (updateSeq B (fun _ => #[]) >>= _) _ _ _
    refine wpAny_bind ?_
    refine wpAny_updateSeq oB' rfl (wpAny_bind (wpAny_letGo (wpAny_pure ?_)))
    exact fin x _ t (by rw [← ej]; exact px) fun b o z1 z2 e => (Heap.get?_update_other _ _ (Ne.symm z2)).trans (kq b o z1 e)
  | succ r ih =>
    intro j s x c er lj sj px oB fin
    have lt : j + 1 < nn := by omega
    refine codeAny_builtin F.entry_max_loop ?_; rw [Around.under_plainId F.plain_max_loop _]
    show wpAny _ A.in1 (seqItems? (.ref B) >>= _) _ _ s
    refine wpAny_bind (wpAny_seqItems oB rfl ?_)
    show wpAny _ A.in1 (tryCatch (pyNext (.ref it)) _ >>= _) _ _ s
    refine wpAny_bind (wpAny_tryCatch (wk.item (j + 1) s _ _ lt sj fun y hq t py sj' kq => ?_))
    have oB' := kq B _ nB oB
    show wpAny _ A.in1 (tryCatch (holding [y, y] (richCompare .Gt y x >>= _)) _ >>= _) _ _ _
    refine wpAny_bind (wpAny_tryCatch (wpAny_holding (wpAny_bind (cm (j + 1) (argBest bt j) y x _ _ _ py px ?_))))
    refine wpAny_bind (wpAny_holding (wpAny_truthy_bool ?_)); refine wpAny_bind (wpAny_letGo (wpAny_pure ?_))
    cases eb : bt (j + 1) (argBest bt j) with
    | true =>
      simp only [if_true]
      refine wpAny_bind ?_
      refine wpAny_updateSeq oB' rfl (wpAny_bind (wpAny_letGo ?_)); rw [loopName]
      refine wpAny_pure ⟨plainId_quiet F.plain_max_loop _, ih (j + 1) _ y _ (by omega) lt (wk.frame _ _ _ sj' fun b zb o e => (Heap.get?_update_other _ _ (fun z : B = b => hB (by rw [z]; exact zb))).trans e) (by simp only [argBest, eb, if_true]; exact py) (Heap.get?_update_self _ oB' rfl) fun y' h2 t2 p2 k2 => ?_⟩
      exact fin y' h2 t2 p2 fun b o z1 z2 e => k2 b o z1 z2 ((Heap.get?_update_other _ _ (Ne.symm z2)).trans (kq b o z1 e))
    | false =>
      simp only [Bool.false_eq_true, if_false]
      refine wpAny_bind (wpAny_letGo ?_); rw [loopName]
      refine wpAny_pure ⟨plainId_quiet F.plain_max_loop _, ih (j + 1) _ x c (by omega) lt sj' (by simp only [argBest, eb, Bool.false_eq_true, if_false]; exact px) oB' fun y' h2 t2 p2 k2 => ?_⟩
      exact fin y' h2 t2 p2 fun b o z1 z2 e => k2 b o z1 z2 (kq b o z1 e)
theorem maxD_first (wk : Walks pg w A.in1 it fo wo nn PP SS) (bt : Nat → Nat → Bool) (cm : CmpOf pg w A.in1 .Gt PP bt) (B : Addr) (hB : B ∉ fo) {s : Shared} {c : Nat} (s0 : SS 0 s.heap)
    (oB : s.heap.get? B = some { cls := .type "list", dict := none, data := .seq #[] c, slots := #[] })
    (fin : 0 < nn → ∀ y hq t, PP (argBest bt (nn - 1)) y → (∀ b o, b ∉ wo → b ≠ B → s.heap.get? b = some o → hq.get? b = some o) → RR (.ok (.ret y)) { s with heap := hq, toks := t })
    (fin0 : nn = 0 → ∀ hq t, (∀ b o, b ∉ wo → b ≠ B → s.heap.get? b = some o → hq.get? b = some o) → RR (.ok (.ret dv)) { s with heap := hq, toks := t }) :
    codeAny (model pg w) A (.builtin "max.loop" ⟨[.ref it, .none, .ref B], [(Str.ofString "default", dv)]⟩) RR s := by
  have nB : B ∉ wo := fun z => hB (wk.sub _ z)
  refine codeAny_builtin F.entry_max_loop ?_; rw [Around.under_plainId F.plain_max_loop _]
  show wpAny _ A.in1 (seqItems? (.ref B) >>= _) _ _ s
  refine wpAny_bind (wpAny_seqItems oB rfl ?_)
  show wpAny _ A.in1 (tryCatch (pyNext (.ref it)) _ >>= _) _ _ s
  rcases Nat.eq_zero_or_pos nn with z | z
  · refine wpAny_bind (wpAny_tryCatch (wk.done s _ _ (z ▸ s0) fun hq t kq => ?_))
    refine wpAny_bind (wpAny_rule ?_)
    exact wpAny_pure (fin0 z hq t fun b o z1 z2 e => kq b o z1 e)
  · refine wpAny_bind (wpAny_tryCatch (wk.item 0 s _ _ z s0 fun y hq t py s1 kq => ?_))
    have oB' := kq B _ nB oB
    show wpAny _ A.in1 (updateSeq B (fun _ => #[y, y]) >>= _) _ _ _
    refine wpAny_bind ?_
    refine wpAny_updateSeq oB' rfl ?_; rw [loopName]
    refine wpAny_pure ⟨plainId_quiet F.plain_max_loop _, maxD_go wk bt cm B hB _ 0 _ y _ rfl z (wk.frame _ _ _ s1 fun b zb o e => (Heap.get?_update_other _ _ (fun z : B = b => hB (by rw [z]; exact zb))).trans e) py (Heap.get?_update_self _ oB' rfl) fun y' h2 t2 p2 k2 => ?_⟩
    exact fin z y' h2 t2 p2 fun b o z1 z2 e => k2 b o z1 z2 ((Heap.get?_update_other _ _ (Ne.symm z2)).trans (kq b o z1 e))
end
section
variable {pg : Program} {w : World} {A : Around} {E : Value → Shared → Prop} {s : Shared} {dv : Value}
theorem call_maxD {a : Addr} {its : List Value} {is : List Int} {Q : Value → Shared → Prop} (hh : A.handled = none) (hl : s.heap.IsList a its.toArray) (hi : Vals (is.map V.int) its)
    (h0 : is = [] → ∀ hq t, (∀ b o, s.heap.get? b = some o → hq.get? b = some o) → Q dv { s with heap := hq, toks := t })
    (h1 : ∀ M, M ∈ is → (∀ j ∈ is, j ≤ M) → ∀ u hq t, (∀ b o, s.heap.get? b = some o → hq.get? b = some o) → Q (.int M u) { s with heap := hq, toks := t }) :
    wpAny (model pg w) A (call (.builtin "max") [.ref a] [(Str.ofString "default", dv)]) Q E s := by
  have hlen := hi.length
  rw [List.length_map] at hlen
  have hlt : a < s.heap.objs.size := by obtain ⟨o, e, _⟩ := id hl; exact Heap.lt_size e
  have hval : ∀ (i : Nat) (v : Value), its.toArray[i]? = some v → ∃ t, v = Value.int (is.getD i 0) t := fun i v e => by
    have e' : its[i]? = some v := by simpa using e
    have li : i < is.length := by rw [hlen]; exact (List.getElem?_eq_some_iff.mp e').1
    have ei : (is.map V.int)[i]? = some (V.int is[i]) := by rw [List.getElem?_map, List.getElem?_eq_getElem li]; rfl
    obtain ⟨u, eu, ru⟩ := hi.get ei
    rw [e'] at eu
    cases eu
    obtain ⟨t, rfl⟩ := (show ∃ t, v = Value.int is[i] t from ru)
    exact ⟨t, by rw [List.getD_eq_getElem?_getD, List.getElem?_eq_getElem li]; rfl⟩
  refine kmb_tree F.kind_max F.plain_max F.entry_max (argsD _ _) ?_
  show wpAny _ A.in1 (Builtin.Builtins.bindParams "max" ["key", "default"] 0 ⟨[], [(Str.ofString "default", dv)]⟩ >>= _) _ _ s
  refine wpAny_bind (wpAny_of_eq (show Builtin.Builtins.bindParams "max" ["key", "default"] 0 ⟨[], [(Str.ofString "default", dv)]⟩ = pure [none, some dv] from rfl) ?_)
  refine wpAny_bind (wpAny_pure ?_)
  refine wpAny_bind (wpAny_pyIter_list hl ?_)
  refine wpAny_bind (wpAny_newList ?_ (Nat.zero_le _))
  rw [loopName]
  have hs1 : (s.heap.push { cls := .type "list_iterator", data := .fields #[.ref a, .int 0 0] }).objs.size = s.heap.objs.size + 1 := Heap.size_push ..
  have ne : a ≠ s.heap.objs.size := Nat.ne_of_lt hlt
  have keep : ∀ (hq : Heap), (∀ b o, b ∉ [s.heap.objs.size] → b ≠ (s.heap.push { cls := .type "list_iterator", data := .fields #[.ref a, .int 0 0] }).objs.size → ((s.heap.push { cls := .type "list_iterator", data := .fields #[.ref a, .int 0 0] }).push (seqObj "list" #[] 0)).get? b = some o → hq.get? b = some o) → ∀ b o, s.heap.get? b = some o → hq.get? b = some o := fun hq k b o e => by
    have hb := Heap.lt_size e
    refine k b o (fun z => ?_) (fun z => ?_) (Heap.get?_push_of_some _ (Heap.get?_push_of_some _ e))
    · rw [List.mem_singleton.mp z] at hb
      exact Nat.lt_irrefl _ hb
    · rw [z, hs1] at hb
      exact absurd hb (Nat.not_lt.mpr (Nat.le_succ _))
  refine wpAny_pure ⟨plainId_quiet F.plain_max_loop _, maxD_first (Walks.list (A := A.in1) hh s.heap.objs.size a ne its.toArray) (fun i j => decide (is.getD i 0 > is.getD j 0)) (CmpOf.ints_gt (fun i => is.getD i 0) hval) _ (fun z => ?_) (c := 0) ⟨⟨_, Heap.get?_push_of_some _ (Heap.get?_push_size _ rfl), rfl, rfl⟩, ?_⟩ (Heap.get?_push_size _ rfl) (fun hn y hq t py k => ?_) (fun hn hq t k => ?_)⟩
  · rcases List.mem_cons.mp z with z | z
    · rw [hs1] at z
      exact absurd z (Nat.succ_ne_self _)
    · rw [List.mem_singleton.mp z] at hs1
      rw [← List.mem_singleton.mp z] at hs1
      have e1 : (s.heap.push { cls := .type "list_iterator", data := .fields #[.ref a, .int 0 0] }).objs.size = a := List.mem_singleton.mp z
      have e2 : (s.heap.push { cls := .type "list_iterator", data := .fields #[.ref a, .int 0 0] }).objs.size = s.heap.objs.size + 1 := Heap.size_push ..
      rw [e1] at e2
      rw [e2] at hlt
      exact absurd hlt (Nat.not_lt.mpr (Nat.le_succ _))
  · exact hl.at fun o e => Heap.get?_push_of_some _ (Heap.get?_push_of_some _ e)
  · obtain ⟨t1, rfl⟩ := hval _ _ py
    obtain ⟨m1, m2⟩ := argBest_gt (fun i => is.getD i 0) (its.toArray.size - 1)
    have hn' : 0 < is.length := by rw [hlen]; simpa using hn
    have sz : its.toArray.size = is.length := by rw [hlen]; simp
    refine h1 _ (PySem.getD_mem (by omega)) (fun y hy => ?_) t1 hq t (keep hq k)
    obtain ⟨jj, hj, rfl⟩ := mem_getD hy
    exact m2 jj (by omega)
  · have : is = [] := by
      have : is.length = 0 := by rw [hlen]; simpa using hn
      exact List.length_eq_zero_iff.mp this
    exact h0 this hq t (keep hq k)
end
/-- max(xs, default=d) -/
def rMaxDf (K : PySem.W.Frag) : List V → List V → Hp → VK → Prop := fun vs zs H Q => ∃ (a : Addr) (is : List Int) (d : V), vs = [V.ref a] ∧ zs = [d] ∧ SqL K H a (is.map V.int) ∧ (is = [] → Q d H) ∧ ∀ M, M ∈ is → (∀ j ∈ is, j ≤ M) → Q (.int M) H
theorem cr_maxDf {X : Cx} (hc : X.calm = true) : CallRK X (.builtin "max") [Str.ofString "default"] (rMaxDf X.K) := by
  intro pins s σ H vs zs us ws Q I r rz h
  obtain ⟨a, is, d, rfl, rfl, hs, q0, q1⟩ := h
  obtain rfl := Vals.ref1 r
  obtain ⟨w1, rfl, e1⟩ := vals1 rz
  obtain ⟨its, rv, hl, _⟩ := I.list hs
  exact call_maxD (I.ok.hd hc) hl.isList rv (fun z hq t k => ⟨d, H, I.kept (t' := t) k, e1, q0 z⟩) fun M hM hall u hq t k => ⟨.int M, H, I.kept (t' := t) k, ⟨u, rfl⟩, q1 M hM hall⟩
end Mi
end
namespace Mi
open PySem PySem.Spec PyProof.Rows L2
def eMaxD (a k : AX) : EX := fun ρ L h => (a ρ L h).bind fun xs h1 => (k ρ L h1).bind fun ds h2 => match xs, ds with
  | [x], [d] => (match (lstOf x h2).bind intsD with
    | some [] => .ok d h2
    | some (i :: is) => .ok (.int (is.foldl (fun a b => if b > a then b else a) i)) h2
    | none => .bad)
  | _, _ => .bad
section
variable {X : Cx} {Z : Zx X.K} {e : Expr} {rs rk : AX} {pos p : Pos} {kws : List Keyword}
theorem me_maxD (hc : X.calm = true) (hg : Gl X "max") (hm : X.mg "max" = none) (ha : MA X Z [e] rs) (hk : MK X Z kws rk) (he : backTo pos (starEach [e] X.env) = (false, eval e X.env) :: backTo pos (starEach [] X.env) := by rfl) (hpl : (backTo pos (starEach [e] X.env)).any (·.1) = false := by rfl)
    (hall : (backToKw pos (keywordEach kws X.env)).all (·.1.isSome) = true := by rfl) (hnone : (backToKw pos (keywordEach kws X.env)).any (·.1.isNone) = false := by rfl) (hks : (backToKw pos (keywordEach kws X.env)).filterMap (·.1) = [Str.ofString "default"] := by rfl) : ME X Z (.Call (.Name "max" p) [e] kws pos) (eMaxD rs rk) := by
  refine PE.imp (pe_callBK (cr_maxDf hc) hg hm (by decide +kernel) ha hk (he := he) (hpl := hpl) (hall := hall) (hnone := hnone) (hks := hks)) fun σ H Q ⟨m, L, h, ρ, S, A⟩ => ?_
  refine Rg.bind (RC := rD X.K) S A fun m1 h1 H1 xs vs S1 l1 p1 q1 A1 => ?_
  refine Rg.bind (RC := rD X.K) S1 A1 fun m2 h2 H2 ys us S2 l2 p2 q2 A2 => ?_
  split at A2
  · rename_i x d
    have q1' := q1.mono p2 l2
    obtain ⟨v, rfl, qv⟩ := rds1 q1'
    obtain ⟨u, rfl, qu⟩ := rds1 q2
    split at A2
    · rename_i e1
      rw [Option.bind_eq_some_iff] at e1
      obtain ⟨ys, e2, e3⟩ := e1
      obtain ⟨a, vs, rfl, hs, t⟩ := S2.rh.lst qv e2
      refine ⟨a, [], u, rfl, rfl, by rw [← intsD_ok t e3]; exact hs, fun _ => Aft.ok (RA := rD X.K) S2 A2 qu, fun M hM => (nomatch hM)⟩
    · rename_i i is e1
      rw [Option.bind_eq_some_iff] at e1
      obtain ⟨ys, e2, e3⟩ := e1
      obtain ⟨a, vs, rfl, hs, t⟩ := S2.rh.lst qv e2
      refine ⟨a, i :: is, u, rfl, rfl, by rw [← intsD_ok t e3]; exact hs, fun z => (nomatch z), fun M hM hall => ?_⟩
      obtain ⟨g1, g2⟩ := fold_max is i
      have eM : M = is.foldl (fun a b => if b > a then b else a) i := Int.le_antisymm (g2 M hM) (hall _ g1)
      rw [eM]
      exact Aft.ok (RA := rD X.K) S2 A2 (.int _)
    · exact False.elim A2
  · exact False.elim A2
end
end Mi
end
section
set_option maxHeartbeats 0
namespace Gx_k53
open Mi PySem PySem.Spec PyProof.Rows L2
def top (i : Nat) : Stmt := PySem.Challenge.pw_bestcovers_k53_limits_of_unfolded_trees.main.body.getD i (.Pass ⟨0, 0, 0, 0⟩)
def ns : List Str := ["BadOperators", "BadRows", "TooMany", "Source"]
def fds : List Str := ["value", "at", "limit"]
def G (K : PySem.W.Frag) (w : World) : Gx := gxOf K ns fds w
def N0 : List Str := ["k"]
def p0 : List Str := ["k"]
def d0 : DefM := ⟨aGlo "_wall", "_wall", "_wall", defArgs (top 0), defBody (top 0), defScope (top 0), [], []⟩
def N1 : List Str := ["thing"]
def p1 : List Str := ["thing"]
def d1 : DefM := ⟨aGlo "is_integer", "is_integer", "is_integer", defArgs (top 3), defBody (top 3), defScope (top 3), [], []⟩
def N2 : List Str := ["thing", "char"]
def p2 : List Str := ["thing"]
def d2 : DefM := ⟨aGlo "is_name", "is_name", "is_name", defArgs (top 4), defBody (top 4), defScope (top 4), [], []⟩
def N3 : List Str := ["thing"]
def p3 : List Str := ["thing"]
def d3 : DefM := ⟨aGlo "is_row", "is_row", "is_row", defArgs (top 5), defBody (top 5), defScope (top 5), [], []⟩
def N4 : List Str := ["entry", "kind", "row", "child"]
def p4 : List Str := ["entry"]
def d4 : DefM := ⟨aGlo "checked_entry", "checked_entry", "checked_entry", defArgs (top 13), defBody (top 13), defScope (top 13), [], []⟩
def N5 : List Str := ["operators", "names", "name", "held", "kinds", "entry"]
def p5 : List Str := ["operators"]
def d5 : DefM := ⟨aGlo "checked_operators", "checked_operators", "checked_operators", defArgs (top 14), defBody (top 14), defScope (top 14), [], []⟩
def N6 : List Str := ["held", "kinds", "name", "one", "kind", "row"]
def p6 : List Str := ["held"]
def d6 : DefM := ⟨aGlo "kinds_in", "kinds_in", "kinds_in", defArgs (top 15), defBody (top 15), defScope (top 15), [], []⟩
def N7 : List Str := ["held", "kinds", "best", "turn", "name", "kind", "row", "size", "tree", "child"]
def p7 : List Str := ["held", "kinds"]
def d7 : DefM := ⟨aGlo "least_trees", "least_trees", "least_trees", defArgs (top 16), defBody (top 16), defScope (top 16), [], []⟩
def N8 : List Str := ["held", "thing", "kind", "level", "name", "at", "made", "row", "found"]
def p8 : List Str := ["held", "thing", "kind", "level"]
def d8 : DefM := ⟨aGlo "wrong_path", "wrong_path", "wrong_path", defArgs (top 17), defBody (top 17), defScope (top 17), [], []⟩
def N9 : List Str := ["operators", "kinds", "row", "wanted", "at", "kind", "number"]
def p9 : List Str := ["operators", "kinds", "row"]
def d9 : DefM := ⟨aGlo "fits_row", "fits_row", "fits_row", defArgs (top 22), defBody (top 22), defScope (top 22), [], []⟩
def N10 : List Str := ["source", "rows", "operators", "kinds", "at", "row"]
def p10 : List Str := ["source", "rows"]
def d10 : DefM := ⟨aGlo "first_wrong", "first_wrong", "first_wrong", defArgs (top 23), defBody (top 23), defScope (top 23), [], []⟩
def N11 : List Str := ["source", "thing"]
def p11 : List Str := ["source", "thing"]
def d11 : DefM := ⟨aGlo "is_folded", "is_folded", "is_folded", defArgs (top 24), defBody (top 24), defScope (top 24), [], []⟩
def N12 : List Str := ["source", "rows", "at", "sizes", "levels", "trees", "row", "number"]
def p12 : List Str := ["source", "rows"]
def d12 : DefM := ⟨aGlo "unfolded", "unfolded", "unfolded", defArgs (top 25), defBody (top 25), defScope (top 25), [], []⟩
def N13 : List Str := ["_law_script", "_law_seed", "_law_cell"]
def p13 : List Str := ["_law_script"]
def d13 : DefM := ⟨aGlo "_law_bag", "_law_bag", "_law_bag", defArgs (top 27), defBody (top 27), defScope (top 27), [], []⟩
def N14 : List Str := ["_law_number", "_law_turn", "_law_one", "_law_two", "_law_three"]
def p14 : List Str := ["_law_number", "_law_turn"]
def d14 : DefM := ⟨aGlo "_law_mixed", "_law_mixed", "_law_mixed", defArgs (top 28), defBody (top 28), defScope (top 28), [], []⟩
def N15 : List Str := ["_law_bag_here", "_law_many", "_law_digit", "_law_cell"]
def p15 : List Str := ["_law_bag_here", "_law_many"]
def d15 : DefM := ⟨aGlo "_law_draw", "_law_draw", "_law_draw", defArgs (top 29), defBody (top 29), defScope (top 29), [], []⟩
def N16 : List Str := ["_law_bag_here", "_law_taken", "_law_letters", "_law_size", "_law_name_here", "_law_letter", "_law_k"]
def p16 : List Str := ["_law_bag_here", "_law_taken"]
def d16 : DefM := ⟨aGlo "_law_name", "_law_name", "_law_name", defArgs (top 30), defBody (top 30), defScope (top 30), [], []⟩
def N17 : List Str := ["_law_nodes", "_law_steps", "_law_turn", "_law_at"]
def p17 : List Str := ["_law_nodes"]
def d17 : DefM := ⟨aGlo "_law_steps_to", "_law_steps_to", "_law_steps_to", defArgs (top 31), defBody (top 31), defScope (top 31), [], []⟩
def N18 : List Str := ["_law_script", "_law_bag_here", "_law_names", "_law_k", "_law_kind", "_law_operators", "_law_source", "_law_rows", "_law_sizes", "_law_levels", "_law_step", "_law_told", "wrong", "_law_trees", "_law_row", "_law_steps", "_law_way", "_law_top", "_law_number"]
def p18 : List Str := ["_law_script"]
def d18 : DefM := ⟨aGlo "law", "law", "law", defArgs (top 32), defBody (top 32), defScope (top 32), [], []⟩
def N19 : List Str := ["self", "operators", "root", "held", "kinds"]
def p19 : List Str := ["self", "operators", "root"]
def d19 : DefM := ⟨aMeth "Source" "__init__", "__init__", "Source.__init__", defArgs (inClass (top 18) 0), defBody (inClass (top 18) 0), defScope (inClass (top 18) 0), [], []⟩
def N20 : List Str := ["self"]
def p20 : List Str := ["self"]
def d20 : DefM := ⟨aGet "Source" "kinds", "kinds", "Source.kinds", defArgs (inClass (top 18) 1), defBody (inClass (top 18) 1), defScope (inClass (top 18) 1), [], []⟩
def N21 : List Str := ["self", "name"]
def p21 : List Str := ["self"]
def d21 : DefM := ⟨aGet "Source" "operators", "operators", "Source.operators", defArgs (inClass (top 18) 2), defBody (inClass (top 18) 2), defScope (inClass (top 18) 2), [], []⟩
def N22 : List Str := ["self", "other"]
def p22 : List Str := ["self", "other"]
def d22 : DefM := ⟨aMeth "Source" "__eq__", "__eq__", "Source.__eq__", defArgs (inClass (top 18) 3), defBody (inClass (top 18) 3), defScope (inClass (top 18) 3), [], []⟩
def N23 : List Str := ["self", "thing"]
def p23 : List Str := ["self", "thing"]
def d23 : DefM := ⟨aMeth "Source" "__contains__", "__contains__", "Source.__contains__", defArgs (inClass (top 18) 4), defBody (inClass (top 18) 4), defScope (inClass (top 18) 4), [], []⟩
def N24 : List Str := ["self", "tree"]
def p24 : List Str := ["self", "tree"]
def d24 : DefM := ⟨aMeth "Source" "check", "check", "Source.check", defArgs (inClass (top 18) 5), defBody (inClass (top 18) 5), defScope (inClass (top 18) 5), [], []⟩
def N25 : List Str := ["self", "tree"]
def p25 : List Str := ["self", "tree"]
def d25 : DefM := ⟨aMeth "Source" "kind_of", "kind_of", "Source.kind_of", defArgs (inClass (top 18) 6), defBody (inClass (top 18) 6), defScope (inClass (top 18) 6), [], []⟩
def N26 : List Str := ["self", "tree"]
def p26 : List Str := ["self", "tree"]
def d26 : DefM := ⟨aMeth "Source" "size_of", "size_of", "Source.size_of", defArgs (inClass (top 18) 7), defBody (inClass (top 18) 7), defScope (inClass (top 18) 7), [], []⟩
def N27 : List Str := ["self", "tree"]
def p27 : List Str := ["self", "tree"]
def d27 : DefM := ⟨aMeth "Source" "levels_of", "levels_of", "Source.levels_of", defArgs (inClass (top 18) 8), defBody (inClass (top 18) 8), defScope (inClass (top 18) 8), [], []⟩
def N28 : List Str := ["self", "kind"]
def p28 : List Str := ["self", "kind"]
def d28 : DefM := ⟨aMeth "Source" "least_tree", "least_tree", "Source.least_tree", defArgs (inClass (top 18) 9), defBody (inClass (top 18) 9), defScope (inClass (top 18) 9), [], []⟩
def N29 : List Str := ["self", "kind", "size"]
def p29 : List Str := ["self", "kind", "size"]
def d29 : DefM := ⟨aMeth "Source" "all_trees", "all_trees", "Source.all_trees", defArgs (inClass (top 18) 10), defBody (inClass (top 18) 10), defScope (inClass (top 18) 10), [], []⟩
def dx0 : DefM := ⟨aMeth "BadOperators" "__init__", "__init__", "BadOperators.__init__", defArgs (inClass (top 8) 0), defBody (inClass (top 8) 0), defScope (inClass (top 8) 0), [], []⟩
def dx1 : DefM := ⟨aMeth "BadRows" "__init__", "__init__", "BadRows.__init__", defArgs (inClass (top 9) 0), defBody (inClass (top 9) 0), defScope (inClass (top 9) 0), [], []⟩
def dx2 : DefM := ⟨aMeth "TooMany" "__init__", "__init__", "TooMany.__init__", defArgs (inClass (top 10) 0), defBody (inClass (top 10) 0), defScope (inClass (top 10) 0), [], []⟩
def fn : List DefM := [d0, d1, d2, d3, d4, d5, d6, d7, d8, d9, d10, d11, d12, d13, d14, d15, d16, d17, d18, d19, d20, d21, d22, d23, d24, d25, d26, d27, d28, d29, d19, dx0, dx1, dx2]
def pss : List (Nat × List Str) := [(2, p0), (2, p1), (2, p2), (2, p3), (2, p4), (2, p5), (2, p6), (2, p7), (2, p8), (2, p9), (2, p10), (2, p11), (2, p12), (2, p13), (2, p14), (2, p15), (2, p16), (2, p17), (2, p18), (2, p19), (2, p20), (2, p21), (2, p22), (2, p23), (2, p24), (2, p25), (2, p26), (2, p27), (2, p28), (2, p29), (1, p19)]
def fs : List Fm := [fFree "isinstance",
  fFree "int",
  fFree "bool",
  fFree "str",
  fFree "len",
  fStr_ "LETTERS" "abcdefghijklmnopqrstuvwxyz",
  fFree "list",
  fFree "tuple",
  fGlo "is_row",
  fGlo "is_name",
  fFree "dict",
  fFree "sorted",
  fGlo "checked_entry",
  fGlo "kinds_in",
  fGlo "least_trees",
  fFree "all",
  fFree "sum",
  fFree "range",
  fInt_ "MOST_LEVELS" 200,
  fGlo "wrong_path",
  fGlo "is_integer",
  fFree "enumerate",
  fInt_ "MOST_ROWS" 12000,
  fCls "Source",
  fNoat "Source" "held",
  fGlo "fits_row",
  fGlo "first_wrong",
  fXc "BadRows" "at",
  fGlo "BadRows",
  fInt_ "MOST_NODES" 10000,
  fFree "min",
  fFree "max",
  fXc "TooMany" "limit",
  fGlo "TooMany",
  fGlo "_law_mixed",
  fGlo "_law_draw",
  fGlo "_law_bag",
  fGlo "_law_name",
  fMkr "Source",
  fGlo "Source",
  fGlo "_law_steps_to",
  fGlo "is_folded",
  fGlo "unfolded",
  fAll_ 3 (fExc ns),
  fAll_ 3 (fKit ns "CoverError" (fun _ => true)),
  fGlo "CoverError",
  fAll_ 3 (fExm ns "TooMany" (fun c => Nat.beq c 2)),
  fGlo "checked_operators",
  fXc "BadOperators" "value",
  fGlo "BadOperators",
  fNoat "Source" "root",
  fNoat "Source" "kind_names",
  fIns "Source",
  fKit1 "Source" "Source" true,
  fTyNo "Source",
  fGlo "_wall",
  fGlo "law"]
def nm0 : List Str := ["_wall", "__name__", "LETTERS", "is_integer", "is_name", "is_row", "CoverError", "BadOperators", "BadRows", "TooMany", "MOST_LEVELS", "checked_entry", "checked_operators", "kinds_in", "least_trees", "wrong_path", "Source", "MOST_ROWS", "MOST_NODES", "fits_row", "first_wrong", "is_folded", "unfolded", "_law_bag", "_law_mixed", "_law_draw", "_law_name", "_law_steps_to"]
def nms : List Str := nm0
abbrev R : PySem.W.OpenRow := PySem.W.OpenLaw.row PySem.Challenge.rw_bestcovers_k53_limits_of_unfolded_trees
abbrev hk : PySem.W.Hook := hookM 6 fs fn
end Gx_k53
end
section
set_option maxHeartbeats 0
namespace Gx_k53
open Mi PySem PySem.Spec PyProof.Rows L2
def ob (s : PySem.W.SharedT) : He.AlD := obsMG 6 fs fn (HandSHeadRun.getT s)
theorem ob_eq (s : PySem.W.SharedT) : ob s = hk.obs s.abs := obsMG_eq (HandSHeadRun.getT_eq s)
theorem run (w : World) : HandSHeadRun.RunEq R (PySem.W.view R.prog [32]) hk ob 20000 nms w := by
  intro os
  kernel_rfl
end Gx_k53
end
section
set_option maxHeartbeats 1000000
namespace Mi
open PySem L2
section
variable (d : D) (ρ : Rho) (L : List Nat) (h : Hh) (a b c o : EX) (ra rb : AX) (f g : B2) (u : D → Hh → R D) (q : List D → Hh → R D) (n : Nat) (F : FX) (t t' : TX) (s s' : SX) (i j : Nat) (gx : GX) (lo hi : OX) (ob : Ob) (own : List Nat) (w : List D → Option (List D)) (te : EX)
theorem eC_x : eC d ρ L h = .ok d h := rfl
theorem aNil_x : aNil ρ L h = .ok [] h := rfl
theorem aCons_x : aCons a ra ρ L h = (a ρ L h).bind fun x h1 => (ra ρ L h1).bind fun xs h2 => .ok (x :: xs) h2 := rfl
theorem eBin_x : eBin f a b ρ L h = (a ρ L h).bind fun x h1 => (b ρ L h1).bind fun y h2 => f x y h2 := rfl
theorem eUn_x : eUn u a ρ L h = (a ρ L h).bind fun x h1 => u x h1 := rfl
theorem eCB_x : eCB q ra ρ L h = (ra ρ L h).bind fun xs h1 => q xs h1 := rfl
theorem eTup_x : eTup ra ρ L h = (ra ρ L h).bind fun xs h1 => if xs.length ≤ sizeLine then .ok (.tup xs) h1 else .bad := rfl
theorem eLst_x : eLst ra ρ L h = (ra ρ L h).bind fun xs h1 => if xs.length ≤ sizeLine then .ok (.ref h1.length) (h1 ++ [.lst xs]) else .bad := rfl
theorem eCall_x : eCall n F ra ρ L h = (ra ρ L h).bind fun xs h1 => if xs.length = n then F xs L h1 else .bad := rfl
theorem tBl_x : tBl a ρ L h = (a ρ L h).bind fun x h1 => match x with
  | .bl b => .ok b h1
  | _ => .bad := rfl
theorem tTru_x : tTru a ρ L h = (a ρ L h).bind fun x h1 => match truD x h1 with
  | some b => .ok b h1
  | none => .bad := rfl
theorem xAnd_x : xAnd t t' ρ L h = (t ρ L h).bind fun b h1 => if b then t' ρ L h1 else .ok false h1 := rfl
theorem xOr_x : xOr t t' ρ L h = (t ρ L h).bind fun b h1 => if b then .ok true h1 else t' ρ L h1 := rfl
theorem xNot_x : xNot t ρ L h = (t ρ L h).bind fun b h1 => .ok (!b) h1 := rfl
theorem tYes_x : tYesX ρ L h = .ok true h := rfl
theorem sNil_x : sNil ρ L h = .nx ρ h := rfl
theorem sBrk_x : sBrk ρ L h = .brk ρ h := rfl
theorem sCnt_x : sCnt ρ L h = .cnt ρ h := rfl
theorem sSeq_x : sSeq s s' ρ L h = (s ρ L h).seq fun ρ' h' => s' ρ' L h' := rfl
theorem sAsg_x : sAsg a (gVar i) ρ L h = (a ρ L h).toS ρ fun d h1 => .nx (ρ.set i (some d)) h1 := rfl
theorem sRet_x : sRet a ρ L h = (a ρ L h).toS ρ fun d h' => .ret d h' := rfl
theorem sRetN_x : sRetN ρ L h = .ret .non h := rfl
theorem sDrop_x : sDrop a ρ L h = (a ρ L h).toS ρ fun _ h' => .nx ρ h' := rfl
theorem sIf_x : sIf t s s' ρ L h = (t ρ L h).toS ρ fun c h1 => if c then s ρ L h1 else s' ρ L h1 := rfl
@[simp] theorem gVar_x : gVar i d ρ L h = .ok (ρ.set i (some d)) h := rfl
theorem oNo_x : oNo ρ L h = .ok none h := rfl
theorem eIf_x : eIf t a b ρ L h = (t ρ L h).bind fun c h1 => if c then a ρ L h1 else b ρ L h1 := rfl
theorem eNot_x : eNot a ρ L h = (a ρ L h).bind fun x h1 => match truD x h1 with
  | some b => .ok (.bl (!b)) h1
  | none => .bad := rfl
theorem eAnd_x : eAnd a b ρ L h = (a ρ L h).bind fun x h1 => match truD x h1 with
  | some true => b ρ L h1
  | some false => .ok x h1
  | none => .bad := rfl
theorem eOr_x : eOr a b ρ L h = (a ρ L h).bind fun x h1 => match truD x h1 with
  | some true => .ok x h1
  | some false => b ρ L h1
  | none => .bad := rfl
theorem eCh_x : eCh f g a b c ρ L h = (a ρ L h).bind fun x h1 => (b ρ L h1).bind fun y h2 => (f x y h2).bind fun z h3 => match z with
  | .bl true => (c ρ L h3).bind fun u h4 => g y u h4
  | .bl false => .ok (.bl false) h3
  | _ => .bad := rfl
theorem eSl_x : eSl a lo hi ρ L h = (a ρ L h).bind fun x h1 => (lo ρ L h1).bind fun l h2 => (hi ρ L h2).bind fun u h3 => slD x l u h3 := rfl
theorem oYes_x : oYes a ρ L h = (a ρ L h).bind fun x h1 => match x with
  | .int i => .ok (some i) h1
  | _ => .bad := rfl
theorem sPut_x : sPut o b a ρ L h = (a ρ L h).toS ρ fun d h1 => (o ρ L h1).toS ρ fun x h2 => (b ρ L h2).toS ρ fun y h3 => match setIx x y d L h3 with
  | some h4 => .nx ρ h4
  | none => .bad := rfl
theorem eVar_0 (x : D) (r : Rho) : eVar 0 (some x :: r) L h = .ok x h := rfl
theorem eVar_s (x : Option D) (r : Rho) : eVar (i + 1) (x :: r) L h = eVar i r L h := rfl
theorem eVar_1 (x : Option D) (r : Rho) : eVar 1 (x :: r) L h = eVar 0 r L h := rfl
theorem eVar_2 (x : Option D) (r : Rho) : eVar 2 (x :: r) L h = eVar 1 r L h := rfl
theorem eVar_3 (x : Option D) (r : Rho) : eVar 3 (x :: r) L h = eVar 2 r L h := rfl
theorem eVar_4 (x : Option D) (r : Rho) : eVar 4 (x :: r) L h = eVar 3 r L h := rfl
theorem eVar_5 (x : Option D) (r : Rho) : eVar 5 (x :: r) L h = eVar 4 r L h := rfl
theorem eVar_6 (x : Option D) (r : Rho) : eVar 6 (x :: r) L h = eVar 5 r L h := rfl
theorem eVar_7 (x : Option D) (r : Rho) : eVar 7 (x :: r) L h = eVar 6 r L h := rfl
theorem eVar_8 (x : Option D) (r : Rho) : eVar 8 (x :: r) L h = eVar 7 r L h := rfl
theorem eVar_9 (x : Option D) (r : Rho) : eVar 9 (x :: r) L h = eVar 8 r L h := rfl
theorem eVar_10 (x : Option D) (r : Rho) : eVar 10 (x :: r) L h = eVar 9 r L h := rfl
theorem eVar_11 (x : Option D) (r : Rho) : eVar 11 (x :: r) L h = eVar 10 r L h := rfl
theorem eVar_12 (x : Option D) (r : Rho) : eVar 12 (x :: r) L h = eVar 11 r L h := rfl
@[simp] theorem bSub_x (i j : Int) : bSub (.int i) (.int j) h = .ok (.int (i - j)) h := rfl
@[simp] theorem bAdd_x (i j : Int) : bAdd (.int i) (.int j) h = .ok (.int (i + j)) h := rfl
@[simp] theorem bLt_x (i j : Int) : bLt (.int i) (.int j) h = .ok (.bl (decide (i < j))) h := rfl
@[simp] theorem bLe_x (i j : Int) : bLe (.int i) (.int j) h = .ok (.bl (decide (i ≤ j))) h := rfl
@[simp] theorem bGt_x (i j : Int) : bGt (.int i) (.int j) h = .ok (.bl (decide (j < i))) h := rfl
@[simp] theorem bGe_x (i j : Int) : bGe (.int i) (.int j) h = .ok (.bl (decide (j ≤ i))) h := rfl
@[simp] theorem uNeg_x (i : Int) : uNeg (.int i) h = .ok (.int (-i)) h := rfl
@[simp] theorem fInt_x (i : Int) : fInt [.int i] h = .ok (.int i) h := rfl
@[simp] theorem bEq_int (i j : Int) : bEq (.int i) (.int j) h = .ok (.bl (decide (i = j))) h := rfl
@[simp] theorem bNe_int (i j : Int) : bNe (.int i) (.int j) h = .ok (.bl (!decide (i = j))) h := rfl
@[simp] theorem bEq_str (i j : Str) : bEq (.str i) (.str j) h = .ok (.bl (decide (i = j))) h := rfl
@[simp] theorem bNe_str (i j : Str) : bNe (.str i) (.str j) h = .ok (.bl (!decide (i = j))) h := rfl
@[simp] theorem uIsN_x : uIsN d h = .ok (.bl d.isNon) h := rfl
@[simp] theorem uNotN_x : uNotN d h = .ok (.bl (!d.isNon)) h := rfl
theorem bMod_x {i j : Int} (e : 0 < j) : bMod (.int i) (.int j) h = .ok (.int (i % j)) h := by simp [eC_x, aNil_x, aCons_x, eBin_x, eUn_x, eCB_x, eTup_x, eLst_x, eCall_x, tBl_x, tTru_x, xAnd_x, xOr_x, xNot_x, tYes_x, sNil_x, sBrk_x, sCnt_x, sSeq_x, sAsg_x, sRet_x, sRetN_x, sDrop_x, sIf_x, oNo_x, eIf_x, eNot_x, eAnd_x, eOr_x, eCh_x, eSl_x, oYes_x, sPut_x, eVar_0, eVar_s, eVar_1, eVar_2, eVar_3, eVar_4, eVar_5, eVar_6, eVar_7, eVar_8, eVar_9, eVar_10, eVar_11, eVar_12, bMod, e]
theorem lt9000 {n : Nat} (h : n < 18446744073709551616) : n < 2 ^ 9000 :=
  Nat.lt_of_lt_of_le h (Nat.le_trans (by decide : 18446744073709551616 ≤ 2 ^ 64) (Nat.pow_le_pow_right (by decide) (by decide)))
theorem bDiv_x {i j : Int} (e : 0 < j) (l : j < 18446744073709551616) : bDiv (.int i) (.int j) h = .ok (.int (i / j)) h := by
  have : j.natAbs < 2 ^ 9000 := lt9000 (by omega)
  simp only [bDiv]
  rw [if_pos ⟨e, this⟩]
theorem small_mod {x m : Int} (h0 : 0 < m) (h1 : m ≤ 18446744073709551616) : small64 (x % m) = true := by
  have h2 := Int.emod_nonneg x (by omega : m ≠ 0)
  have h3 := Int.emod_lt_of_pos x h0
  have e : ((2 : Int) ^ 64) = 18446744073709551616 := by decide
  unfold small64
  rw [e]
  exact decide_eq_true ⟨by omega, by omega⟩
theorem bMul_r {i j : Int} (e : small64 j = true) : bMul (.int i) (.int j) h = .ok (.int (i * j)) h := by simp [eC_x, aNil_x, aCons_x, eBin_x, eUn_x, eCB_x, eTup_x, eLst_x, eCall_x, tBl_x, tTru_x, xAnd_x, xOr_x, xNot_x, tYes_x, sNil_x, sBrk_x, sCnt_x, sSeq_x, sAsg_x, sRet_x, sRetN_x, sDrop_x, sIf_x, oNo_x, eIf_x, eNot_x, eAnd_x, eOr_x, eCh_x, eSl_x, oYes_x, sPut_x, eVar_0, eVar_s, eVar_1, eVar_2, eVar_3, eVar_4, eVar_5, eVar_6, eVar_7, eVar_8, eVar_9, eVar_10, eVar_11, eVar_12, bMul, e]
theorem bMul_l {i j : Int} (e : small64 i = true) : bMul (.int i) (.int j) h = .ok (.int (i * j)) h := by simp [eC_x, aNil_x, aCons_x, eBin_x, eUn_x, eCB_x, eTup_x, eLst_x, eCall_x, tBl_x, tTru_x, xAnd_x, xOr_x, xNot_x, tYes_x, sNil_x, sBrk_x, sCnt_x, sSeq_x, sAsg_x, sRet_x, sRetN_x, sDrop_x, sIf_x, oNo_x, eIf_x, eNot_x, eAnd_x, eOr_x, eCh_x, eSl_x, oYes_x, sPut_x, eVar_0, eVar_s, eVar_1, eVar_2, eVar_3, eVar_4, eVar_5, eVar_6, eVar_7, eVar_8, eVar_9, eVar_10, eVar_11, eVar_12, bMul, e]
end
def mixedB : SX :=
  (sSeq (sAsg (eBin bMod (eCB fInt (aCons (eBin bMul (eBin bAdd (eBin bAdd (eBin bMod (eCB fInt (aCons (eVar 0) aNil)) (eC (.int 2147483647))) (eBin bMul (eC (.int 7919)) (eVar 1))) (eC (.int 1))) (eC (.int 48271))) aNil)) (eC (.int 2147483647))) (gVar 2))
    (sSeq (sAsg (eBin bMod (eCB fInt (aCons (eBin bMul (eVar 2) (eBin bAdd (eBin bDiv (eVar 2) (eC (.int 1009))) (eC (.int 69621)))) aNil)) (eC (.int 2147483647))) (gVar 3))
    (sSeq (sAsg (eBin bMod (eCB fInt (aCons (eBin bMul (eVar 3) (eBin bAdd (eBin bDiv (eVar 3) (eC (.int 2003))) (eC (.int 40692)))) aNil)) (eC (.int 2147483399))) (gVar 4))
    (sRet (eBin bDiv (eVar 4) (eC (.int 16)))))))
theorem mixed_ok (a t : Int) (L : List Nat) (h : Hh) : ∃ v, 0 ≤ v ∧ bodyX 5 mixedB [.int a, .int t] L h = .ok (.int v) h := by
  have e : ∃ x : Int, bodyX 5 mixedB [.int a, .int t] L h = .ok (.int (x % 2147483399 / 16)) h := by
    simp [eC_x, aNil_x, aCons_x, eBin_x, eUn_x, eCB_x, eTup_x, eLst_x, eCall_x, tBl_x, tTru_x, xAnd_x, xOr_x, xNot_x, tYes_x, sNil_x, sBrk_x, sCnt_x, sSeq_x, sAsg_x, sRet_x, sRetN_x, sDrop_x, sIf_x, oNo_x, eIf_x, eNot_x, eAnd_x, eOr_x, eCh_x, eSl_x, oYes_x, sPut_x, eVar_0, eVar_s, eVar_1, eVar_2, eVar_3, eVar_4, eVar_5, eVar_6, eVar_7, eVar_8, eVar_9, eVar_10, eVar_11, eVar_12, bodyX, mixedB, bMul_l _ (i := 7919) (by decide), bMul_r _ (j := 48271) (by decide), bMul_l _ (small_mod (m := 2147483647) (by decide) (by decide)), bDiv_x _ (j := 1009) (by decide) (by decide), bDiv_x _ (j := 2003) (by decide) (by decide), bDiv_x _ (j := 16) (by decide) (by decide), bMod_x _ (j := 2147483647) (by decide), bMod_x _ (j := 2147483399) (by decide)]
    exact ⟨_, rfl⟩
  obtain ⟨x, e⟩ := e
  exact ⟨_, Int.ediv_nonneg (Int.emod_nonneg _ (by decide)) (by decide), e⟩
theorem bPow_x {i j : Int} {h : Hh} (e : 0 ≤ j ∧ j ≤ 1000000 ∧ i.natAbs < 2 ^ 64) : bPow (.int i) (.int j) h = .ok (.int (i ^ j.toNat)) h := by
  simp only [bPow]
  rw [if_pos e]
theorem bIx_lst {n : Nat} {i : Int} {xs : List D} {h : Hh} {d : D} (e : h[n]? = some (.lst xs)) (a : atI xs i = some d) : bIx (.ref n) (.int i) h = .ok d h := by
  simp [eC_x, aNil_x, aCons_x, eBin_x, eUn_x, eCB_x, eTup_x, eLst_x, eCall_x, tBl_x, tTru_x, xAnd_x, xOr_x, xNot_x, tYes_x, sNil_x, sBrk_x, sCnt_x, sSeq_x, sAsg_x, sRet_x, sRetN_x, sDrop_x, sIf_x, oNo_x, eIf_x, eNot_x, eAnd_x, eOr_x, eCh_x, eSl_x, oYes_x, sPut_x, eVar_0, eVar_s, eVar_1, eVar_2, eVar_3, eVar_4, eVar_5, eVar_6, eVar_7, eVar_8, eVar_9, eVar_10, eVar_11, eVar_12, bIx, seqOf, lstOf, e, a]
theorem put_lst {n j : Nat} {i : Int} {xs : List D} {h : Hh} {d : D} {L : List Nat} (hL : n ∉ L) (e : h[n]? = some (.lst xs)) (a : ixN xs.length i = some j) : setIx (.ref n) (.int i) d L h = some (h.set n (.lst (xs.set j d))) := by
  simp [eC_x, aNil_x, aCons_x, eBin_x, eUn_x, eCB_x, eTup_x, eLst_x, eCall_x, tBl_x, tTru_x, xAnd_x, xOr_x, xNot_x, tYes_x, sNil_x, sBrk_x, sCnt_x, sSeq_x, sAsg_x, sRet_x, sRetN_x, sDrop_x, sIf_x, oNo_x, eIf_x, eNot_x, eAnd_x, eOr_x, eCh_x, eSl_x, oYes_x, sPut_x, eVar_0, eVar_s, eVar_1, eVar_2, eVar_3, eVar_4, eVar_5, eVar_6, eVar_7, eVar_8, eVar_9, eVar_10, eVar_11, eVar_12, setIx, hL, e, a]
theorem fLen_lst {n : Nat} {xs : List D} {h : Hh} (e : h[n]? = some (.lst xs)) : fLen [.ref n] h = .ok (.int xs.length) h := by
  simp [eC_x, aNil_x, aCons_x, eBin_x, eUn_x, eCB_x, eTup_x, eLst_x, eCall_x, tBl_x, tTru_x, xAnd_x, xOr_x, xNot_x, tYes_x, sNil_x, sBrk_x, sCnt_x, sSeq_x, sAsg_x, sRet_x, sRetN_x, sDrop_x, sIf_x, oNo_x, eIf_x, eNot_x, eAnd_x, eOr_x, eCh_x, eSl_x, oYes_x, sPut_x, eVar_0, eVar_s, eVar_1, eVar_2, eVar_3, eVar_4, eVar_5, eVar_6, eVar_7, eVar_8, eVar_9, eVar_10, eVar_11, eVar_12, fLen, e]
/-- a bag of draws: at b, its cells at c -/
structure Bag (h : Hh) (b c : Nat) : Prop where
  ne : b ≠ c
  ex : ∃ (ns : List Int) (p q n s : Int), h[b]? = some (.lst [.ref c, .int p, .int q, .int n, .int s]) ∧ h[c]? = some (.lst (ns.map D.int)) ∧ 0 ≤ p
theorem Bag.lt {h : Hh} {b c : Nat} (B : Bag h b c) : b < h.length := by
  obtain ⟨_, _, _, _, _, e, _⟩ := B.ex
  exact (List.getElem?_eq_some_iff.mp e).1
theorem set_get {h : Hh} {b : Nat} {o : Ob} (l : b < h.length) : (h.set b o)[b]? = some o := List.getElem?_set_self l
theorem set_getN {h : Hh} {b c : Nat} {o : Ob} (l : b ≠ c) : (h.set b o)[c]? = h[c]? := List.getElem?_set_ne l
theorem Bag.mk_set {h : Hh} {b c : Nat} {ns : List Int} {p q n s : Int} (l : b < h.length) (ne : b ≠ c) (e : h[c]? = some (.lst (ns.map D.int))) (hp : 0 ≤ p) : Bag (h.set b (.lst [.ref c, .int p, .int q, .int n, .int s])) b c :=
  ⟨ne, ns, p, q, n, s, set_get l, by rw [set_getN ne]; exact e, hp⟩
def drawB (m : FX) : SX :=
  (sSeq (sPut (eVar 0) (eC (.int 3)) (eBin bAdd (eBin bIx (eVar 0) (eC (.int 3))) (eC (.int 1))))
    (sSeq (sIf (tBl (eBin bEq (eBin bIx (eVar 0) (eC (.int 2))) (eC (.int 0)))) (sSeq (sIf (tBl (eBin bGe (eBin bIx (eVar 0) (eC (.int 1))) (eCB fLen (aCons (eBin bIx (eVar 0) (eC (.int 0))) aNil)))) (sRet (eBin bMod (eCB fInt (aCons (eCall 2 m (aCons (eBin bIx (eVar 0) (eC (.int 4))) (aCons (eBin bIx (eVar 0) (eC (.int 3))) aNil))) aNil)) (eVar 1))) sNil)
    (sSeq (sAsg (eBin bIx (eBin bIx (eVar 0) (eC (.int 0))) (eBin bIx (eVar 0) (eC (.int 1)))) (gVar 3))
    (sSeq (sPut (eVar 0) (eC (.int 1)) (eBin bAdd (eBin bIx (eVar 0) (eC (.int 1))) (eC (.int 1))))
    (sSeq (sIf (tBl (eBin bLt (eVar 3) (eBin bPow (eC (.int 10)) (eC (.int 18))))) (sRet (eBin bMod (eCB fInt (aCons (eCall 2 m (aCons (eVar 3) (aCons (eBin bIx (eVar 0) (eC (.int 3))) aNil))) aNil)) (eVar 1))) sNil)
    (sPut (eVar 0) (eC (.int 2)) (eVar 3)))))) sNil)
    (sSeq (sAsg (eBin bMod (eCB fInt (aCons (eBin bIx (eVar 0) (eC (.int 2))) aNil)) (eVar 1)) (gVar 2))
    (sSeq (sPut (eVar 0) (eC (.int 2)) (eBin bDiv (eBin bIx (eVar 0) (eC (.int 2))) (eVar 1)))
    (sRet (eVar 2))))))
section
variable {m : FX} {h : Hh} {b c : Nat} {L : List Nat} {many : Int}
theorem mod_in {x : Int} (h0 : 0 < many) : 0 ≤ x % many ∧ x % many < many := ⟨Int.emod_nonneg _ (by omega), Int.emod_lt_of_pos _ h0⟩
/-- the last part of a draw -/
theorem draw_tail {p q n s : Int} {ns : List Int} {z w : Option D} (h0 : 0 < many) (h1 : many < 18446744073709551616) (ne : b ≠ c) (hL : b ∉ L) (e1 : h[b]? = some (.lst [.ref c, .int p, .int q, .int n, .int s])) (e2 : h[c]? = some (.lst (ns.map D.int))) (hp : 0 ≤ p) :
    ∃ v o, 0 ≤ v ∧ v < many ∧ (sSeq (sAsg (eBin bMod (eCB fInt (aCons (eBin bIx (eVar 0) (eC (.int 2))) aNil)) (eVar 1)) (gVar 2)) (sSeq (sPut (eVar 0) (eC (.int 2)) (eBin bDiv (eBin bIx (eVar 0) (eC (.int 2))) (eVar 1))) (sRet (eVar 2)))) [some (.ref b), some (.int many), z, w] L h = .ret (.int v) (h.set b o) ∧ Bag (h.set b o) b c := by
  have l : b < h.length := (List.getElem?_eq_some_iff.mp e1).1
  refine ⟨q % many, .lst [.ref c, .int p, .int (q / many), .int n, .int s], (mod_in h0).1, (mod_in h0).2, ?_, Bag.mk_set l ne e2 hp⟩
  simp [eC_x, aNil_x, aCons_x, eBin_x, eUn_x, eCB_x, eTup_x, eLst_x, eCall_x, tBl_x, tTru_x, xAnd_x, xOr_x, xNot_x, tYes_x, sNil_x, sBrk_x, sCnt_x, sSeq_x, sAsg_x, sRet_x, sRetN_x, sDrop_x, sIf_x, oNo_x, eIf_x, eNot_x, eAnd_x, eOr_x, eCh_x, eSl_x, oYes_x, sPut_x, eVar_0, eVar_s, eVar_1, eVar_2, eVar_3, eVar_4, eVar_5, eVar_6, eVar_7, eVar_8, eVar_9, eVar_10, eVar_11, eVar_12, bIx_lst e1 (i := 2) (d := .int q) rfl, bMod_x h h0, bDiv_x h h0 h1, put_lst hL e1 (i := 2) (j := 2) rfl]
theorem draw_ok (hm : ∀ a t L h, ∃ v, 0 ≤ v ∧ m [.int a, .int t] L h = .ok (.int v) h) (h0 : 0 < many) (h1 : many < 18446744073709551616) (B : Bag h b c) (hL : b ∉ L) : ∃ v o, 0 ≤ v ∧ v < many ∧ bodyX 4 (drawB m) [.ref b, .int many] L h = .ok (.int v) (h.set b o) ∧ Bag (h.set b o) b c := by
  obtain ⟨ne, ns, p, q, n, s, e1, e2, hp⟩ := B
  have l : b < h.length := (List.getElem?_eq_some_iff.mp e1).1
  have l1 : ∀ o, b < (h.set b o).length := fun o => by rw [List.length_set]; exact l
  have f1 : (h.set b (.lst [.ref c, .int p, .int q, .int (n + 1), .int s]))[b]? = some (.lst [.ref c, .int p, .int q, .int (n + 1), .int s]) := set_get l
  have f2 : (h.set b (.lst [.ref c, .int p, .int q, .int (n + 1), .int s]))[c]? = some (.lst (ns.map D.int)) := by rw [set_getN ne]; exact e2
  have st : (sPut (eVar 0) (eC (.int 3)) (eBin bAdd (eBin bIx (eVar 0) (eC (.int 3))) (eC (.int 1)))) [some (.ref b), some (.int many), none, none] L h = .nx [some (.ref b), some (.int many), none, none] (h.set b (.lst [.ref c, .int p, .int q, .int (n + 1), .int s])) := by
    simp [eC_x, aNil_x, aCons_x, eBin_x, eUn_x, eCB_x, eTup_x, eLst_x, eCall_x, tBl_x, tTru_x, xAnd_x, xOr_x, xNot_x, tYes_x, sNil_x, sBrk_x, sCnt_x, sSeq_x, sAsg_x, sRet_x, sRetN_x, sDrop_x, sIf_x, oNo_x, eIf_x, eNot_x, eAnd_x, eOr_x, eCh_x, eSl_x, oYes_x, sPut_x, eVar_0, eVar_s, eVar_1, eVar_2, eVar_3, eVar_4, eVar_5, eVar_6, eVar_7, eVar_8, eVar_9, eVar_10, eVar_11, eVar_12, bIx_lst e1 (i := 3) (d := .int n) rfl, put_lst hL e1 (i := 3) (j := 3) rfl]
  have r0 : bodyX 4 (drawB m) [.ref b, .int many] L h = (drawB m [some (.ref b), some (.int many), none, none] L h).fin := rfl
  rw [r0]
  unfold drawB
  rw [sSeq_x, st, SR.seq_nx, sSeq_x, sIf_x]
  by_cases hq : q = 0
  · subst hq
    simp only [tBl_x, eBin_x, eVar_0, R.bind_ok, eC_x, bIx_lst f1 (i := 2) (d := .int 0) rfl, bEq_int, R.toS_ok, decide_true, if_true]
    rw [sSeq_x, sIf_x]
    simp only [tBl_x, eBin_x, eVar_0, R.bind_ok, eC_x, bIx_lst f1 (i := 1) (d := .int p) rfl, bIx_lst f1 (i := 0) (d := .ref c) rfl, eCB_x, aCons_x, aNil_x, fLen_lst f2, bGe_x, R.toS_ok, List.length_map]
    by_cases hlen : (ns.length : Int) ≤ p
    · obtain ⟨v, hv, em⟩ := hm s (n + 1) L (h.set b (.lst [.ref c, .int p, .int 0, .int (n + 1), .int s]))
      rw [decide_eq_true hlen, if_pos rfl]
      refine ⟨v % many, _, (mod_in h0).1, (mod_in h0).2, ?_, Bag.mk_set (p := p) (q := 0) (n := n + 1) (s := s) l ne e2 hp⟩
      simp [eC_x, aNil_x, aCons_x, eBin_x, eUn_x, eCB_x, eTup_x, eLst_x, eCall_x, tBl_x, tTru_x, xAnd_x, xOr_x, xNot_x, tYes_x, sNil_x, sBrk_x, sCnt_x, sSeq_x, sAsg_x, sRet_x, sRetN_x, sDrop_x, sIf_x, oNo_x, eIf_x, eNot_x, eAnd_x, eOr_x, eCh_x, eSl_x, oYes_x, sPut_x, eVar_0, eVar_s, eVar_1, eVar_2, eVar_3, eVar_4, eVar_5, eVar_6, eVar_7, eVar_8, eVar_9, eVar_10, eVar_11, eVar_12, bIx_lst f1 (i := 4) (d := .int s) rfl, bIx_lst f1 (i := 3) (d := .int (n + 1)) rfl, em, bMod_x _ h0]
    · rw [decide_eq_false hlen, if_neg (by decide)]
      obtain ⟨cell, hcell⟩ : ∃ cell, ns[p.toNat]? = some cell := ⟨_, List.getElem?_eq_getElem (by omega)⟩
      have ha : atI (ns.map D.int) p = some (.int cell) := by
        unfold atI ixN
        rw [if_pos hp, if_pos (by rw [List.length_map]; omega)]
        show (ns.map D.int)[p.toNat]? = _
        rw [List.getElem?_map, hcell]; rfl
      simp only [sNil_x, SR.seq_nx, sSeq_x, sAsg_x, eBin_x, eVar_0, R.bind_ok, eC_x, bIx_lst f1 (i := 1) (d := .int p) rfl, bIx_lst f1 (i := 0) (d := .ref c) rfl, bIx_lst f2 ha, R.toS_ok, sPut_x, bAdd_x, put_lst hL f1 (i := 1) (j := 1) rfl, List.set_set, List.set_cons_succ, List.set_cons_zero]
      have g1 : (h.set b (.lst [.ref c, .int (p + 1), .int 0, .int (n + 1), .int s]))[b]? = some (.lst [.ref c, .int (p + 1), .int 0, .int (n + 1), .int s]) := set_get l
      have g2 : (h.set b (.lst [.ref c, .int (p + 1), .int 0, .int (n + 1), .int s]))[c]? = some (.lst (ns.map D.int)) := by rw [set_getN ne]; exact e2
      rw [sIf_x]
      simp only [tBl_x, eBin_x, eVar_0, eVar_s, eVar_3, eVar_2, eVar_1, R.bind_ok, eC_x, bPow_x (i := 10) (j := 18) (by decide), bLt_x, R.toS_ok]
      by_cases hc : cell < (10 : Int) ^ (18 : Int).toNat
      · obtain ⟨v, hv, em⟩ := hm cell (n + 1) L (h.set b (.lst [.ref c, .int (p + 1), .int 0, .int (n + 1), .int s]))
        rw [decide_eq_true hc, if_pos rfl]
        refine ⟨v % many, _, (mod_in h0).1, (mod_in h0).2, ?_, Bag.mk_set (p := p + 1) (q := 0) (n := n + 1) (s := s) l ne e2 (by omega)⟩
        simp [eC_x, aNil_x, aCons_x, eBin_x, eUn_x, eCB_x, eTup_x, eLst_x, eCall_x, tBl_x, tTru_x, xAnd_x, xOr_x, xNot_x, tYes_x, sNil_x, sBrk_x, sCnt_x, sSeq_x, sAsg_x, sRet_x, sRetN_x, sDrop_x, sIf_x, oNo_x, eIf_x, eNot_x, eAnd_x, eOr_x, eCh_x, eSl_x, oYes_x, sPut_x, eVar_0, eVar_s, eVar_1, eVar_2, eVar_3, eVar_4, eVar_5, eVar_6, eVar_7, eVar_8, eVar_9, eVar_10, eVar_11, eVar_12, bIx_lst g1 (i := 3) (d := .int (n + 1)) rfl, em, bMod_x _ h0]
      · rw [decide_eq_false hc, if_neg (by decide)]
        simp only [sNil_x, SR.seq_nx, sPut_x, eVar_0, eVar_3, eVar_2, eVar_1, eC_x, R.toS_ok, put_lst hL g1 (i := 2) (j := 2) rfl, List.set_set, List.set_cons_succ, List.set_cons_zero]
        have k1 : (h.set b (.lst [.ref c, .int (p + 1), .int cell, .int (n + 1), .int s]))[b]? = some (.lst [.ref c, .int (p + 1), .int cell, .int (n + 1), .int s]) := set_get l
        have k2 : (h.set b (.lst [.ref c, .int (p + 1), .int cell, .int (n + 1), .int s]))[c]? = some (.lst (ns.map D.int)) := by rw [set_getN ne]; exact e2
        obtain ⟨v, o, v0, v1, ev, B'⟩ := draw_tail (z := none) (w := some (.int cell)) h0 h1 ne hL k1 k2 (by omega)
        refine ⟨v, o, v0, v1, ?_, ?_⟩
        · rw [List.set_set] at ev
          exact congrArg SR.fin ev
        · rw [List.set_set] at B'
          exact B'
  · simp only [tBl_x, eBin_x, eVar_0, R.bind_ok, eC_x, bIx_lst f1 (i := 2) (d := .int q) rfl, bEq_int, R.toS_ok, decide_eq_false hq, sNil_x, SR.seq_nx]
    rw [if_neg (by decide)]
    obtain ⟨v, o, v0, v1, ev, B'⟩ := draw_tail (z := none) (w := none) h0 h1 ne hL f1 f2 hp
    refine ⟨v, o, v0, v1, ?_, ?_⟩
    · rw [List.set_set] at ev
      rw [SR.seq_nx, ev]
      rfl
    · rw [List.set_set] at B'
      exact B'
end
end Mi
end
section
set_option maxHeartbeats 1000000
namespace Mi
open PySem L2
/-- one turn of a loop -/
def turn (g : GX) (b : SX) (x : D) : SX := fun ρ L h => (g x ρ L h).toS ρ fun ρ1 h1 => b ρ1 L h1
theorem turn_var (i : Nat) (b : SX) (x : D) (ρ : Rho) (L : List Nat) (h : Hh) : turn (gVar i) b x ρ L h = b (ρ.set i (some x)) L h := rfl
/-- what a turn may come to -/
def TurnOk (P : Rho → Hh → Prop) (B : SR → Prop) (r : SR) : Prop := match r with
  | .nx ρ h => P ρ h
  | .cnt ρ h => P ρ h
  | .brk ρ h => B (.nx ρ h)
  | r => B r
section
variable {g : GX} {b : SX} {L : List Nat} {P : Nat → Rho → Hh → Prop} {B : SR → Prop}
theorem loopV_inv {xs : List D} (step : ∀ i x ρ h, xs[i]? = some x → P i ρ h → TurnOk (P (i + 1)) B (turn g b x ρ L h)) :
    ∀ (k i : Nat) (ρ : Rho) (h : Hh), xs.length - i = k → i ≤ xs.length → P i ρ h → (∃ ρ' h', loopV g b (xs.drop i) ρ L h = .nx ρ' h' ∧ P xs.length ρ' h') ∨ B (loopV g b (xs.drop i) ρ L h)
  | 0, i, ρ, h, e, hi, p => by
    have : i = xs.length := by omega
    subst this
    rw [List.drop_length]
    exact .inl ⟨ρ, h, rfl, p⟩
  | k + 1, i, ρ, h, e, hi, p => by
    have hl : i < xs.length := by omega
    rw [List.drop_eq_getElem_cons hl]
    have st := step i xs[i] ρ h (List.getElem?_eq_getElem hl) p
    unfold turn at st
    unfold loopV
    generalize (g xs[i] ρ L h).toS ρ (fun ρ1 h1 => b ρ1 L h1) = r at st
    cases r with
    | nx ρ2 h2 => exact loopV_inv step k (i + 1) ρ2 h2 (by omega) hl st
    | cnt ρ2 h2 => exact loopV_inv step k (i + 1) ρ2 h2 (by omega) hl st
    | brk ρ2 h2 => exact .inr st
    | ret d h2 => exact .inr st
    | exc c q ρ2 h2 => exact .inr st
    | bad => exact .inr st
theorem loopV_ok {xs : List D} {ρ : Rho} {h : Hh} (step : ∀ i x ρ h, xs[i]? = some x → P i ρ h → TurnOk (P (i + 1)) B (turn g b x ρ L h)) (p : P 0 ρ h) : (∃ ρ' h', loopV g b xs ρ L h = .nx ρ' h' ∧ P xs.length ρ' h') ∨ B (loopV g b xs ρ L h) :=
  loopV_inv step xs.length 0 ρ h (by omega) (Nat.zero_le _) p
theorem loopL_inv {xs : List D} {n : Nat} (hn : ∀ i ρ h, P i ρ h → h[n]? = some (.lst xs)) (step : ∀ i x ρ h, xs[i]? = some x → P i ρ h → TurnOk (P (i + 1)) B (turn g b x ρ L h)) :
    ∀ (f i : Nat) (ρ : Rho) (h : Hh), xs.length - i < f → i ≤ xs.length → P i ρ h → (∃ ρ' h', loopL g b n f i ρ L h = .nx ρ' h' ∧ P xs.length ρ' h') ∨ B (loopL g b n f i ρ L h)
  | 0, i, ρ, h, e, hi, p => by omega
  | f + 1, i, ρ, h, e, hi, p => by
    unfold loopL
    simp only [hn i ρ h p]
    by_cases hl : i < xs.length
    · have st := step i xs[i] ρ h (List.getElem?_eq_getElem hl) p
      unfold turn at st
      rw [List.getElem?_eq_getElem hl]
      simp only
      generalize (g xs[i] ρ L h).toS ρ (fun ρ1 h1 => b ρ1 L h1) = r at st
      cases r with
      | nx ρ2 h2 => exact loopL_inv hn step f (i + 1) ρ2 h2 (by omega) hl st
      | cnt ρ2 h2 => exact loopL_inv hn step f (i + 1) ρ2 h2 (by omega) hl st
      | brk ρ2 h2 => exact .inr st
      | ret d h2 => exact .inr st
      | exc c q ρ2 h2 => exact .inr st
      | bad => exact .inr st
    · have : i = xs.length := by omega
      subst this
      simp only [List.getElem?_eq_none (Nat.le_refl _)]
      exact .inl ⟨ρ, h, rfl, p⟩
theorem loopL_ok {xs : List D} {n : Nat} {ρ : Rho} {h : Hh} (hl : xs.length < 100000) (hn : ∀ i ρ h, P i ρ h → h[n]? = some (.lst xs)) (step : ∀ i x ρ h, xs[i]? = some x → P i ρ h → TurnOk (P (i + 1)) B (turn g b x ρ L h)) (p : P 0 ρ h) :
    (∃ ρ' h', loopL g b n fuel 0 ρ L h = .nx ρ' h' ∧ P xs.length ρ' h') ∨ B (loopL g b n fuel 0 ρ L h) := loopL_inv hn step fuel 0 ρ h (by unfold fuel; omega) (Nat.zero_le _) p
end
section
variable {g : GX} {tt : TX} {te : EX} {n : Nat} {ρ : Rho} {L : List Nat} {P : Nat → List D → Hh → Prop}
/-- one item of a comprehension -/
def ItemOk (g : GX) (tt : TX) (te : EX) (n : Nat) (ρ : Rho) (L : List Nat) (P : List D → Hh → Prop) (x : D) (acc : List D) (h : Hh) : Prop := ∃ ρ1 h1, g x ρ L h = .ok ρ1 h1 ∧ ((∃ h2, tt ρ1 L h1 = .ok false h2 ∧ P acc h2) ∨
  ∃ h2 y h3, tt ρ1 L h1 = .ok true h2 ∧ te ρ1 L h2 = .ok y h3 ∧ h3[n]? = some (.lst acc) ∧ acc.length < sizeLine ∧ P (acc ++ [y]) (h3.set n (.lst (acc ++ [y]))))
theorem compV_inv {xs : List D} (step : ∀ i x acc h, xs[i]? = some x → P i acc h → ItemOk g tt te n ρ L (P (i + 1)) x acc h) :
    ∀ (k i : Nat) (acc : List D) (h : Hh), xs.length - i = k → i ≤ xs.length → P i acc h → ∃ acc' h', compV g tt te n (xs.drop i) ρ L h = .ok (.ref n) h' ∧ P xs.length acc' h'
  | 0, i, acc, h, e, hi, p => by
    have : i = xs.length := by omega
    subst this
    rw [List.drop_length]
    exact ⟨acc, h, rfl, p⟩
  | k + 1, i, acc, h, e, hi, p => by
    have hl : i < xs.length := by omega
    rw [List.drop_eq_getElem_cons hl]
    obtain ⟨ρ1, h1, e1, ⟨h2, e2, p2⟩ | ⟨h2, y, h3, e2, e3, e4, e5, p2⟩⟩ := step i xs[i] acc h (List.getElem?_eq_getElem hl) p
    · unfold compV
      simp only [e1, R.noExc_ok, R.bind_ok, e2]
      exact compV_inv step k (i + 1) acc h2 (by omega) hl p2
    · unfold compV
      simp only [e1, R.noExc_ok, R.bind_ok, e2, if_true, e3, e4, if_pos e5]
      exact compV_inv step k (i + 1) (acc ++ [y]) _ (by omega) hl p2
theorem compV_ok {xs : List D} {acc : List D} {h : Hh} (step : ∀ i x acc h, xs[i]? = some x → P i acc h → ItemOk g tt te n ρ L (P (i + 1)) x acc h) (p : P 0 acc h) : ∃ acc' h', compV g tt te n xs ρ L h = .ok (.ref n) h' ∧ P xs.length acc' h' := compV_inv step xs.length 0 acc h (by omega) (Nat.zero_le _) p
theorem compL_inv {xs : List D} {k : Nat} (hk : ∀ i acc h, P i acc h → h[k]? = some (.lst xs)) (step : ∀ i x acc h, xs[i]? = some x → P i acc h → ItemOk g tt te n ρ L (P (i + 1)) x acc h) :
    ∀ (f i : Nat) (acc : List D) (h : Hh), xs.length - i < f → i ≤ xs.length → P i acc h → ∃ acc' h', compL g tt te n k f i ρ L h = .ok (.ref n) h' ∧ P xs.length acc' h'
  | 0, i, acc, h, e, hi, p => by omega
  | f + 1, i, acc, h, e, hi, p => by
    by_cases hl : i < xs.length
    · obtain ⟨ρ1, h1, e1, ⟨h2, e2, p2⟩ | ⟨h2, y, h3, e2, e3, e4, e5, p2⟩⟩ := step i xs[i] acc h (List.getElem?_eq_getElem hl) p
      · unfold compL
        rw [hk i acc h p]
        simp only [List.getElem?_eq_getElem hl, e1, R.noExc_ok, R.bind_ok, e2]
        exact compL_inv hk step f (i + 1) acc h2 (by omega) hl p2
      · unfold compL
        rw [hk i acc h p]
        simp only [List.getElem?_eq_getElem hl, e1, R.noExc_ok, R.bind_ok, e2, if_true, e3, e4, if_pos e5]
        exact compL_inv hk step f (i + 1) (acc ++ [y]) _ (by omega) hl p2
    · have : i = xs.length := by omega
      subst this
      unfold compL
      simp only [hk _ acc h p, List.getElem?_eq_none (Nat.le_refl _)]
      exact ⟨acc, h, rfl, p⟩
theorem compL_ok {xs : List D} {k : Nat} {acc : List D} {h : Hh} (hl : xs.length < 100000) (hk : ∀ i acc h, P i acc h → h[k]? = some (.lst xs)) (step : ∀ i x acc h, xs[i]? = some x → P i acc h → ItemOk g tt te n ρ L (P (i + 1)) x acc h) (p : P 0 acc h) :
    ∃ acc' h', compL g tt te n k fuel 0 ρ L h = .ok (.ref n) h' ∧ P xs.length acc' h' := compL_inv hk step fuel 0 acc h (by unfold fuel; omega) (Nat.zero_le _) p
end
structure Ext (b : Nat) (h h' : Hh) : Prop where
  len : h.length ≤ h'.length
  get : ∀ n, n ≠ b → n < h.length → h'[n]? = h[n]?
theorem Ext.trans {b : Nat} {h h1 h2 : Hh} (a : Ext b h h1) (c : Ext b h1 h2) : Ext b h h2 := ⟨Nat.le_trans a.len c.len, fun n h1 h2 => (c.get n h1 (Nat.lt_of_lt_of_le h2 a.len)).trans (a.get n h1 h2)⟩
theorem Ext.set {b : Nat} {h : Hh} {o : Ob} : Ext b h (h.set b o) := ⟨by rw [List.length_set]; exact Nat.le_refl _, fun n h1 _ => set_getN (Ne.symm h1)⟩
theorem Ext.app {b : Nat} {h : Hh} {os : List Ob} : Ext b h (h ++ os) := ⟨by rw [List.length_append]; omega, fun n _ h2 => List.getElem?_append_left h2⟩
/-- something new is changed -/
theorem Ext.put {b n : Nat} {h h1 : Hh} {o : Ob} (a : Ext b h h1) (hn : h.length ≤ n) : Ext b h (h1.set n o) := ⟨by rw [List.length_set]; exact a.len, fun k h2 h3 => by rw [List.getElem?_set_ne (by omega)]; exact a.get k h2 h3⟩
theorem Ext.at_ {b n : Nat} {h h1 : Hh} {o : Ob} (a : Ext b h h1) (hn : n ≠ b) (e : h[n]? = some o) : h1[n]? = some o := (a.get n hn (List.getElem?_eq_some_iff.mp e).1).trans e
theorem Bag.cell {h : Hh} {b c : Nat} (B : Bag h b c) : c < h.length := by
  obtain ⟨_, _, _, _, _, _, e, _⟩ := B.ex
  exact (List.getElem?_eq_some_iff.mp e).1
/-- a bag stays where nothing of it is changed -/
theorem Bag.keep {h h' : Hh} {b c : Nat} (B : Bag h b c) (e1 : h'[b]? = h[b]?) (e2 : h'[c]? = h[c]?) : Bag h' b c := by
  obtain ⟨ne, ns, p, q, n, s, f1, f2, hp⟩ := B
  exact ⟨ne, ns, p, q, n, s, e1.trans f1, e2.trans f2, hp⟩
theorem Bag.app {h : Hh} {b c : Nat} {os : List Ob} (B : Bag h b c) : Bag (h ++ os) b c := B.keep (List.getElem?_append_left B.lt) (List.getElem?_append_left B.cell)
theorem Bag.put {h : Hh} {b c n : Nat} {o : Ob} (B : Bag h b c) (h1 : n ≠ b) (h2 : n ≠ c) : Bag (h.set n o) b c := B.keep (set_getN h1) (set_getN h2)
/-- a drawing def's promise -/
def Draws (dr : FX) : Prop := ∀ (h : Hh) (b c : Nat) (L : List Nat) (many : Int), 0 < many → many < 18446744073709551616 → Bag h b c → b ∉ L → ∃ v h', 0 ≤ v ∧ v < many ∧ dr [.ref b, .int many] L h = .ok (.int v) h' ∧ Bag h' b c ∧ Ext b h h' ∧ h'.length = h.length
theorem draws_of {m : FX} (hm : ∀ a t L h, ∃ v, 0 ≤ v ∧ m [.int a, .int t] L h = .ok (.int v) h) : Draws (bodyX 4 (drawB m)) := fun h b c L many h0 h1 B hL => by
  obtain ⟨v, o, v0, v1, e, B'⟩ := draw_ok hm h0 h1 B hL
  exact ⟨v, _, v0, v1, e, B', Ext.set, List.length_set ..⟩
end Mi
end
section
set_option maxHeartbeats 1000000
namespace Mi
open PySem L2
/-- a name that a law draws -/
structure IsName (s : Str) : Prop where
  lo : 1 ≤ s.cps.size
  hi : s.cps.size ≤ 12
  az : ∀ c ∈ s.cps.toList, 97 ≤ c ∧ c ≤ 122
def nameB (dr : FX) : SX :=
  (sSeq (sAsg (eC (.str "abcdefghijklmnopqrstuvwxyz")) (gVar 2))
    (sSeq (sAsg (eBin bIx (eLst (aCons (eC (.int 1)) (aCons (eC (.int 2)) (aCons (eC (.int 3)) (aCons (eC (.int 4)) (aCons (eC (.int 2)) (aCons (eC (.int 3)) (aCons (eC (.int 8)) (aCons (eC (.int 12)) aNil))))))))) (eCall 2 dr (aCons (eVar 0) (aCons (eC (.int 8)) aNil)))) (gVar 3))
    (sSeq (sAsg (eJoin (eC (.str "")) (eCompR rng1 [6] (aCons (eVar 3) aNil) (gVar 6) tYesX (eBin bIx (eVar 2) (eCall 2 dr (aCons (eVar 0) (aCons (eC (.int 26)) aNil)))))) (gVar 4))
    (sSeq (sIf (tBl (eBin bNotIn (eVar 4) (eVar 1))) (sRet (eVar 4)) sNil)
    (sSeq (sFor (eVar 2) (gVar 5) (sIf (tBl (eBin bNotIn (eBin bAdd (eSl (eVar 4) oNo (oYes (eC (.int 11)))) (eVar 5)) (eVar 1))) (sRet (eBin bAdd (eSl (eVar 4) oNo (oYes (eC (.int 11)))) (eVar 5))) sNil))
    (sRet (eVar 4)))))))
theorem az_eq : ("abcdefghijklmnopqrstuvwxyz" : Str).cps.toList = (List.range 26).map fun i => 97 + i := by decide +kernel
theorem az_len : ("abcdefghijklmnopqrstuvwxyz" : Str).length = 26 := by decide +kernel
theorem atI_nat {α : Type} {xs : List α} {i : Int} {j : Nat} {x : α} (e : i = j) (h : xs[j]? = some x) : atI xs i = some x := by
  subst e
  have hl : j < xs.length := (List.getElem?_eq_some_iff.mp h).1
  unfold atI ixN
  rw [if_pos (by omega), if_pos (by omega)]
  show xs[(j : Int).toNat]? = _
  rw [Int.toNat_natCast]; exact h
theorem join0 (cs : List Nat) : Txt.join "" (cs.map fun c => (⟨#[c]⟩ : Str)) = ⟨cs.toArray⟩ := by
  rw [TL.join_eq]
  have e : ∀ cs : List Nat, TL.joinL [] (cs.map fun c => [c]) = cs := by
    intro cs
    induction cs with
    | nil => rfl
    | cons c r ih =>
      cases r with
      | nil => rfl
      | cons d r => show [c] ++ ([] ++ TL.joinL [] ((d :: r).map fun c => [c])) = _; rw [ih]; rfl
  have h := TL.tl_join "" (cs.map fun c => (⟨#[c]⟩ : Str))
  rw [List.map_map] at h
  have h2 : TL.tl (Str.join "" (cs.map fun c => (⟨#[c]⟩ : Str))) = cs := by
    rw [h]
    exact e cs
  have h3 : ∀ s : Str, TL.tl s = cs → s = ⟨cs.toArray⟩ := fun s hs => by
    obtain ⟨a⟩ := s
    congr 1
    exact Array.toList_inj.mp (by rw [← hs])
  exact h3 _ h2
theorem strsD_map (ss : List Str) : strsD (ss.map D.str) = some ss := by
  induction ss with
  | nil => rfl
  | cons s r ih => simp [strsD, ih]
/-- what stands in the list of names taken -/
theorem notIn_strs {t : Nat} {s : Str} {ts : List Str} {h : Hh} (e : h[t]? = some (.lst (ts.map D.str))) : bNotIn (.str s) (.ref t) h = .ok (.bl (!decide (s ∈ ts))) h := by
  have e1 : inD (.str s) (.ref t) h = some (decide (s ∈ ts)) := by
    unfold inD
    have e0 : dGet (.ref t) (.str s) h = none := by simp [dGet, e]
    rw [e0]
    have f : (ts.map D.str).all flatD = true := by simp [flatD]
    simp only [seqOf, lstOf, e, flatD, f, Bool.and_self, if_true]
    congr 1
    have g : ((ts.map D.str).any fun z => eqF z (.str s)) = decide (s ∈ ts) := by
      rw [List.any_map]
      by_cases hm : s ∈ ts
      · rw [decide_eq_true hm]
        exact List.any_eq_true.mpr ⟨s, hm, by simp [eqF]⟩
      · rw [decide_eq_false hm]
        exact List.any_eq_false.mpr fun x hx => by
          have : x ≠ s := fun z => hm (z ▸ hx)
          simp [eqF, this]
    exact g
  simp [bNotIn, e1]
theorem small62 (s : Nat) (hs : s < 4611686018427387904) : sm62 (s : Int) = true := by
  have e : (2 : Int) ^ 62 = 4611686018427387904 := by decide +kernel
  unfold sm62
  rw [e]
  exact decide_eq_true ⟨by omega, by omega⟩
theorem letter_at {v : Int} {h : Hh} (v0 : 0 ≤ v) (v1 : v < 26) : bIx (.str "abcdefghijklmnopqrstuvwxyz") (.int v) h = .ok (.str ⟨#[97 + v.toNat]⟩) h := by
  have ha : atI ("abcdefghijklmnopqrstuvwxyz" : Str).cps.toList v = some (97 + v.toNat) := by
    rw [az_eq]
    refine atI_nat (j := v.toNat) (by omega) ?_
    rw [List.getElem?_map, List.getElem?_range (by omega)]; rfl
  simp only [bIx, az_len, ha]
  rw [if_pos (by decide)]
theorem lt_size {n : Nat} (h : n ≤ 1000) : n < sizeLine := Nat.lt_of_le_of_lt h (by decide)
theorem join_small (cs : List Nat) (h : cs.length ≤ 16777216) : ((cs.map fun x => (⟨#[x]⟩ : Str)).map (·.length)).sum + (cs.map fun x => (⟨#[x]⟩ : Str)).length * ("" : Str).length ≤ 16777216 := by
  have z : ("" : Str).length = 0 := by decide +kernel
  have q : ∀ cs : List Nat, ((cs.map fun x => (⟨#[x]⟩ : Str)).map (·.length)).sum = cs.length := fun cs => by
    induction cs with
    | nil => rfl
    | cons x r ih =>
      rw [List.map_cons, List.map_cons, List.sum_cons, ih, List.length_cons]
      exact Nat.add_comm 1 _
  rw [z, Nat.mul_zero, Nat.add_zero, q cs]
  exact h
theorem eJoin_ok {o a : EX} {ρ : Rho} {L : List Nat} {h h1 h2 : Hh} {s : Str} {y : D} {ss : List Str} (e1 : o ρ L h = .ok (.str s) h1) (e2 : a ρ L h1 = .ok y h2) (e3 : (seqOf y h2).bind strsD = some ss) (e4 : (ss.map (·.length)).sum + ss.length * s.length ≤ 16777216) : eJoin o a ρ L h = .ok (.str (Txt.join s ss)) h2 := by
  unfold eJoin
  rw [e1, R.bind_ok]
  simp only
  rw [e2, R.bind_ok, e3]
  simp only
  rw [if_pos e4]
theorem eCompR_ok {w : List D → Option (List D)} {own : List Nat} {a : AX} {g : GX} {tt : TX} {te : EX} {ρ : Rho} {L : List Nat} {h h1 : Hh} {xs ys : List D} (e1 : a ρ L h = .ok xs h1) (e2 : w xs = some ys) : eCompR w own a g tt te ρ L h = (compV g tt te h1.length ys (wipeR ρ own) L (h1 ++ [.lst []])).noExc := by
  unfold eCompR
  rw [e1, R.bind_ok, e2]
theorem eComp_ok {own : List Nat} {a : EX} {g : GX} {tt : TX} {te : EX} {ρ : Rho} {L : List Nat} {h h1 : Hh} {x : D} (e1 : a ρ L h = .ok x h1) : eComp own a g tt te ρ L h = (compD g tt te x (wipeR ρ own) L h1).noExc := by
  unfold eComp
  rw [e1, R.bind_ok]
def LetOk (c : Nat) : Prop := 97 ≤ c ∧ c ≤ 122
/-- the letters drawn -/
theorem letters_ok {dr : FX} (hd : Draws dr) {h : Hh} {b c : Nat} {L : List Nat} {x1 x3 x4 x5 x6 : Option D} (B : Bag h b c) (hL : b ∉ L) (s : Nat) (hs : s ≤ 12) :
    ∃ (cs : List Nat) (h' : Hh), (eJoin (eC (.str "")) (eCompR rng1 [6] (aCons (eVar 3) aNil) (gVar 6) tYesX (eBin bIx (eVar 2) (eCall 2 dr (aCons (eVar 0) (aCons (eC (.int 26)) aNil)))))) [some (.ref b), x1, some (.str "abcdefghijklmnopqrstuvwxyz"), some (.int s), x4, x5, x6] L h = .ok (.str ⟨cs.toArray⟩) h' ∧ cs.length = s ∧ (∀ x ∈ cs, LetOk x) ∧ Bag h' b c ∧ Ext b h h' := by
  have hr : rng1 [.int (s : Int)] = some (rngD 0 s) := by
    have := small62 s (by omega)
    simp [rng1, this]
  have hlen : (rngD 0 (s : Int)).length = s := by simp [rngD]
  let P : Nat → List D → Hh → Prop := fun i acc h1 => Bag h1 b c ∧ Ext b h h1 ∧ h1[h.length]? = some (.lst acc) ∧ ∃ cs : List Nat, acc = cs.map (fun x => D.str ⟨#[x]⟩) ∧ cs.length = i ∧ ∀ x ∈ cs, LetOk x
  have nb : h.length ≠ b := by have := B.lt; omega
  have nc : h.length ≠ c := by have := B.cell; omega
  have C := compV_ok (g := gVar 6) (tt := tYesX) (te := eBin bIx (eVar 2) (eCall 2 dr (aCons (eVar 0) (aCons (eC (.int 26)) aNil)))) (n := h.length) (ρ := [some (.ref b), x1, some (.str "abcdefghijklmnopqrstuvwxyz"), some (.int s), x4, x5, none]) (L := L) (P := P) (xs := rngD 0 s) (acc := []) (h := h ++ [.lst []])
    (fun i x acc h1 hx ⟨B1, E1, e1, cs, ea, el, ec⟩ => by
      obtain ⟨v, h2, v0, v1, ev, B2, E2, l2⟩ := hd h1 b c L 26 (by decide) (by decide) B1 hL
      refine ⟨_, h1, rfl, .inr ⟨h1, .str ⟨#[97 + v.toNat]⟩, h2, rfl, ?_, ?_, ?_, ?_⟩⟩
      · simp [eC_x, aNil_x, aCons_x, eBin_x, eUn_x, eCB_x, eTup_x, eLst_x, eCall_x, tBl_x, tTru_x, xAnd_x, xOr_x, xNot_x, tYes_x, sNil_x, sBrk_x, sCnt_x, sSeq_x, sAsg_x, sRet_x, sRetN_x, sDrop_x, sIf_x, oNo_x, eIf_x, eNot_x, eAnd_x, eOr_x, eCh_x, eSl_x, oYes_x, sPut_x, eVar_0, eVar_s, eVar_1, eVar_2, eVar_3, eVar_4, eVar_5, eVar_6, eVar_7, eVar_8, eVar_9, eVar_10, eVar_11, eVar_12, ev, letter_at v0 v1]
      · exact E2.at_ nb e1
      · rw [ea, List.length_map, el]
        have : i < s := by
          have := (List.getElem?_eq_some_iff.mp hx).1
          rw [hlen] at this; exact this
        exact lt_size (by omega)
      · refine ⟨B2.put nb nc, (E1.trans E2).put (Nat.le_refl _), ?_, cs ++ [97 + v.toNat], by simp [ea], by simp [el], fun x hx => ?_⟩
        · refine set_get ?_
          have := (List.getElem?_eq_some_iff.mp e1).1
          omega
        · rcases List.mem_append.mp hx with hx | hx
          · exact ec x hx
          · rw [List.mem_singleton.mp hx]; exact ⟨by omega, by omega⟩)
    ⟨B.app, Ext.app, by simp, [], rfl, rfl, fun x hx => by simp at hx⟩
  obtain ⟨acc, h', e', B', E', e2, cs, ea, el, ec⟩ := C
  refine ⟨cs, h', ?_, by rw [el, hlen], ec, B', E'⟩
  have ess : (acc : List D) = (cs.map fun x => (⟨#[x]⟩ : Str)).map D.str := by rw [ea, List.map_map]; rfl
  have hsd : (seqOf (.ref h.length) h').bind strsD = some (cs.map fun x => (⟨#[x]⟩ : Str)) := by
    simp only [seqOf, lstOf, e2, Option.bind_some]
    rw [ess, strsD_map]
  have e1 := eCompR_ok (w := rng1) (own := [6]) (g := gVar 6) (tt := tYesX) (te := eBin bIx (eVar 2) (eCall 2 dr (aCons (eVar 0) (aCons (eC (.int 26)) aNil)))) (a := aCons (eVar 3) aNil) (ρ := [some (D.ref b), x1, some (D.str "abcdefghijklmnopqrstuvwxyz"), some (D.int s), x4, x5, x6]) (L := L) (h := h) rfl hr
  have ew : wipeR [some (D.ref b), x1, some (D.str "abcdefghijklmnopqrstuvwxyz"), some (D.int s), x4, x5, x6] [6] = [some (D.ref b), x1, some (D.str "abcdefghijklmnopqrstuvwxyz"), some (D.int s), x4, x5, none] := rfl
  rw [ew, e', R.noExc_ok] at e1
  have e3 := eJoin_ok (o := eC (.str "")) rfl e1 hsd (join_small cs (by omega))
  rw [join0] at e3
  exact e3
end Mi
end
section
set_option maxHeartbeats 1000000
namespace Mi
open PySem L2
theorem str_ext {a b : Str} (h : a.cps.toList = b.cps.toList) : a = b := by
  obtain ⟨x⟩ := a
  obtain ⟨y⟩ := b
  congr 1
  exact Array.toList_inj.mp h
/-- the name cut, another letter behind -/
def cut11 (z : Str) (c : Nat) : Str := ⟨(z.cps.toList.take 11 ++ [c]).toArray⟩
theorem cut11_eq (z : Str) (c : Nat) : cutS z none (some 11) ++ (⟨#[c]⟩ : Str) = cut11 z c := by
  apply str_ext
  show (((z.cps.toList.drop 0).take (HT.sIx z.length z.length (some 11) - 0)).toArray ++ #[c]).toList = _
  have e : HT.sIx z.length z.length (some 11) = min 11 z.length := HT.sIx_nat _ _ 11
  rw [e, Array.toList_append, List.drop_zero, Nat.sub_zero]
  show z.cps.toList.take (min 11 z.length) ++ [c] = _
  unfold cut11
  have e2 : z.cps.toList.take (min 11 z.length) = z.cps.toList.take 11 := by
    have hl : z.cps.toList.length = z.length := Array.length_toList
    by_cases h : 11 ≤ z.length
    · rw [Nat.min_eq_left h]
    · rw [Nat.min_eq_right (by omega), List.take_of_length_le (by omega), List.take_of_length_le (by omega)]
  rw [e2]
theorem cut11_name {z : Str} {c : Nat} (hz : IsName z) (hc : LetOk c) : IsName (cut11 z c) := by
  have hl : z.cps.toList.length = z.cps.size := Array.length_toList
  have h1 := hz.lo
  refine ⟨?_, ?_, fun x hx => ?_⟩
  · show 1 ≤ (z.cps.toList.take 11 ++ [c]).length
    rw [List.length_append]; exact Nat.le_add_left _ _
  · show (z.cps.toList.take 11 ++ [c]).length ≤ 12
    rw [List.length_append, List.length_take]
    show min 11 _ + 1 ≤ 12
    omega
  · rcases List.mem_append.mp (show x ∈ z.cps.toList.take 11 ++ [c] from hx) with h | h
    · exact hz.az x (List.mem_of_mem_take h)
    · rw [List.mem_singleton.mp h]; exact hc
theorem cut11_len {z : Str} {c : Nat} (h : z.length ≠ 6 ∧ z.length ≠ 9) : (cut11 z c).length ≠ 7 ∧ (cut11 z c).length ≠ 10 := by
  have hl : z.cps.toList.length = z.length := Array.length_toList
  show (z.cps.toList.take 11 ++ [c]).length ≠ 7 ∧ (z.cps.toList.take 11 ++ [c]).length ≠ 10
  rw [List.length_append, List.length_take, hl, List.length_singleton]
  omega
theorem cut11_inj {z : Str} {c d : Nat} (h : cut11 z c = cut11 z d) : c = d := by
  have e : z.cps.toList.take 11 ++ [c] = z.cps.toList.take 11 ++ [d] := by
    have := congrArg (fun s : Str => s.cps.toList) h
    exact this
  exact List.cons.inj (List.append_cancel_left e) |>.1
theorem IsName.len {s : Str} (h : IsName s) : s.length ≤ 12 := h.hi
/-- names[:11] + letter by the program -/
theorem cut_step {z : Str} {c : Nat} {h : Hh} {L : List Nat} {x0 x1 x2 x3 x6 : Option D} (hz : IsName z) :
    (eBin bAdd (eSl (eVar 4) oNo (oYes (eC (.int 11)))) (eVar 5)) [x0, x1, x2, x3, some (.str z), some (.str ⟨#[c]⟩), x6] L h = .ok (.str (cut11 z c)) h := by
  have hl : z.length ≤ sizeLine := Nat.le_trans hz.hi (by decide)
  have e1 : slD (.str z) none (some 11) h = .ok (.str (cutS z none (some 11))) h := by
    simp only [slD]
    rw [if_pos hl]
  have e2 : (cutS z none (some 11)).length + (⟨#[c]⟩ : Str).length ≤ sizeLine := by
    have e3 : (cutS z none (some 11) ++ (⟨#[c]⟩ : Str)).length = (cutS z none (some 11)).length + (⟨#[c]⟩ : Str).length := Array.size_append
    rw [← e3, cut11_eq]
    show (z.cps.toList.take 11 ++ [c]).length ≤ _
    rw [List.length_append, List.length_take]
    exact Nat.le_trans (Nat.add_le_add_right (Nat.min_le_left _ _) 1) (by decide)
  simp only [eBin_x, eSl_x, eVar_4, eVar_3, eVar_2, eVar_1, eVar_0, R.bind_ok, oNo_x, oYes_x, eC_x, e1, eVar_5]
  simp only [bAdd]
  rw [if_pos e2, cut11_eq]
/-- a naming def's promise -/
def Names (nm : FX) : Prop := ∀ (h : Hh) (b c : Nat) (L : List Nat) (t : Nat) (ts : List Str), Bag h b c → b ∉ L → t ≠ b → h[t]? = some (.lst (ts.map D.str)) → ∃ s h', nm [.ref b, .ref t] L h = .ok (.str s) h' ∧ (IsName s ∧ s.length ≠ 7 ∧ s.length ≠ 10) ∧ (ts.length < 26 → s ∉ ts) ∧ Bag h' b c ∧ Ext b h h'
theorem sizes_ok {v : Int} (v0 : 0 ≤ v) (v1 : v < 8) : ∃ s : Nat, atI [D.int 1, .int 2, .int 3, .int 4, .int 2, .int 3, .int 8, .int 12] v = some (.int s) ∧ 1 ≤ s ∧ s ≤ 12 ∧ s ≠ 6 ∧ s ≠ 7 ∧ s ≠ 9 ∧ s ≠ 10 := by
  have e : v = 0 ∨ v = 1 ∨ v = 2 ∨ v = 3 ∨ v = 4 ∨ v = 5 ∨ v = 6 ∨ v = 7 := by omega
  rcases e with rfl | rfl | rfl | rfl | rfl | rfl | rfl | rfl
  · exact ⟨1, rfl, by decide, by decide, by decide, by decide, by decide, by decide⟩
  · exact ⟨2, rfl, by decide, by decide, by decide, by decide, by decide, by decide⟩
  · exact ⟨3, rfl, by decide, by decide, by decide, by decide, by decide, by decide⟩
  · exact ⟨4, rfl, by decide, by decide, by decide, by decide, by decide, by decide⟩
  · exact ⟨2, rfl, by decide, by decide, by decide, by decide, by decide, by decide⟩
  · exact ⟨3, rfl, by decide, by decide, by decide, by decide, by decide, by decide⟩
  · exact ⟨8, rfl, by decide, by decide, by decide, by decide, by decide, by decide⟩
  · exact ⟨12, rfl, by decide, by decide, by decide, by decide, by decide, by decide⟩
/-- the size drawn -/
theorem size_step {dr : FX} (hd : Draws dr) {h : Hh} {b c : Nat} {L : List Nat} {r : Rho} (B : Bag h b c) (hL : b ∉ L) :
    ∃ (s : Nat) (h' : Hh), (eBin bIx (eLst (aCons (eC (.int 1)) (aCons (eC (.int 2)) (aCons (eC (.int 3)) (aCons (eC (.int 4)) (aCons (eC (.int 2)) (aCons (eC (.int 3)) (aCons (eC (.int 8)) (aCons (eC (.int 12)) aNil))))))))) (eCall 2 dr (aCons (eVar 0) (aCons (eC (.int 8)) aNil)))) (some (.ref b) :: r) L h = .ok (.int s) h' ∧ 1 ≤ s ∧ s ≤ 12 ∧ (s ≠ 6 ∧ s ≠ 7 ∧ s ≠ 9 ∧ s ≠ 10) ∧ Bag h' b c ∧ Ext b h h' := by
  obtain ⟨v, h2, v0, v1, ev, B2, E2, _⟩ := hd (h ++ [.lst [.int 1, .int 2, .int 3, .int 4, .int 2, .int 3, .int 8, .int 12]]) b c L 8 (by decide) (by decide) B.app hL
  obtain ⟨s, hs, s1, s2, s67⟩ := sizes_ok v0 v1
  have nb : h.length ≠ b := by have := B.lt; omega
  have e1 : h2[h.length]? = some (.lst [.int 1, .int 2, .int 3, .int 4, .int 2, .int 3, .int 8, .int 12]) := E2.at_ nb (by simp)
  refine ⟨s, h2, ?_, s1, s2, s67, B2, Ext.app.trans E2⟩
  have k : ([D.int 1, .int 2, .int 3, .int 4, .int 2, .int 3, .int 8, .int 12] : List D).length ≤ sizeLine := by decide
  simp only [eBin_x, eLst_x, aCons_x, aNil_x, eC_x, R.bind_ok, if_pos k, eCall_x, eVar_0, ev]
  simp only [List.length_cons, List.length_nil, if_true, R.bind_ok, bIx_lst e1 hs]
theorem name_ok {dr : FX} (hd : Draws dr) : Names (bodyX 7 (nameB dr)) := by
  intro h b c L t ts B hL tb et
  have r0 : bodyX 7 (nameB dr) [.ref b, .ref t] L h = (nameB dr [some (.ref b), some (.ref t), none, none, none, none, none] L h).fin := rfl
  rw [r0]
  obtain ⟨s, h1, e1, s1, s2, s67, B1, E1⟩ := size_step (r := [some (.ref t), some (.str "abcdefghijklmnopqrstuvwxyz"), none, none, none, none]) hd B hL
  obtain ⟨cs, h2, e2, l2, a2, B2, E2⟩ := letters_ok (x1 := some (.ref t)) (x3 := some (.int s)) (x4 := none) (x5 := none) (x6 := none) hd B1 hL s s2
  have et2 : h2[t]? = some (.lst (ts.map D.str)) := (E1.trans E2).at_ tb et
  have nl : ((⟨cs.toArray⟩ : Str).length ≠ 7 ∧ (⟨cs.toArray⟩ : Str).length ≠ 10) ∧ ((⟨cs.toArray⟩ : Str).length ≠ 6 ∧ (⟨cs.toArray⟩ : Str).length ≠ 9) := ⟨⟨by show cs.length ≠ 7; omega, by show cs.length ≠ 10; omega⟩, ⟨by show cs.length ≠ 6; omega, by show cs.length ≠ 9; omega⟩⟩
  have nm : IsName ⟨cs.toArray⟩ := ⟨by show 1 ≤ cs.length; omega, by show cs.length ≤ 12; omega, fun x hx => a2 x hx⟩
  unfold nameB
  rw [sSeq_x, sAsg_x, eC_x, R.toS_ok, SR.seq_nx, sSeq_x, sAsg_x]
  have w1 : ([some (.ref b), some (.ref t), none, none, none, none, none] : Rho).set 2 (some (.str "abcdefghijklmnopqrstuvwxyz")) = [some (.ref b), some (.ref t), some (.str "abcdefghijklmnopqrstuvwxyz"), none, none, none, none] := rfl
  rw [w1, e1, R.toS_ok, SR.seq_nx, sSeq_x, sAsg_x]
  have w2 : ([some (.ref b), some (.ref t), some (.str "abcdefghijklmnopqrstuvwxyz"), none, none, none, none] : Rho).set 3 (some (.int s)) = [some (.ref b), some (.ref t), some (.str "abcdefghijklmnopqrstuvwxyz"), some (.int s), none, none, none] := rfl
  rw [w2, e2, R.toS_ok, SR.seq_nx, sSeq_x, sIf_x]
  have w3 : ([some (.ref b), some (.ref t), some (.str "abcdefghijklmnopqrstuvwxyz"), some (.int s), none, none, none] : Rho).set 4 (some (.str ⟨cs.toArray⟩)) = [some (.ref b), some (.ref t), some (.str "abcdefghijklmnopqrstuvwxyz"), some (.int s), some (.str ⟨cs.toArray⟩), none, none] := rfl
  rw [w3]
  simp only [tBl_x, eBin_x, eVar_4, eVar_3, eVar_2, eVar_1, eVar_0, R.bind_ok, notIn_strs et2, R.toS_ok]
  by_cases hm : (⟨cs.toArray⟩ : Str) ∈ ts
  · rw [decide_eq_true hm]
    simp only [Bool.not_true, Bool.false_eq_true, if_false, sNil_x, SR.seq_nx]
    rw [sSeq_x]
    unfold sFor
    simp only [eVar_2, eVar_1, eVar_0, R.toS_ok, forD]
    have st : ∀ i x ρ h', (strsOf "abcdefghijklmnopqrstuvwxyz")[i]? = some x → (h' = h2 ∧ (∃ x5, ρ = [some (.ref b), some (.ref t), some (.str "abcdefghijklmnopqrstuvwxyz"), some (.int s), some (.str ⟨cs.toArray⟩), x5, none]) ∧ ∀ j, j < i → cut11 ⟨cs.toArray⟩ (97 + j) ∈ ts) →
        TurnOk (fun ρ h' => h' = h2 ∧ (∃ x5, ρ = [some (.ref b), some (.ref t), some (.str "abcdefghijklmnopqrstuvwxyz"), some (.int s), some (.str ⟨cs.toArray⟩), x5, none]) ∧ ∀ j, j < i + 1 → cut11 ⟨cs.toArray⟩ (97 + j) ∈ ts) (fun r => ∃ z, r = .ret (.str z) h2 ∧ (IsName z ∧ z.length ≠ 7 ∧ z.length ≠ 10) ∧ z ∉ ts)
          (turn (gVar 5) (sIf (tBl (eBin bNotIn (eBin bAdd (eSl (eVar 4) oNo (oYes (eC (.int 11)))) (eVar 5)) (eVar 1))) (sRet (eBin bAdd (eSl (eVar 4) oNo (oYes (eC (.int 11)))) (eVar 5))) sNil) x ρ L h') := by
      intro i x ρ h' hx ⟨eh, ⟨x5, er⟩, hj⟩
      subst eh er
      have hi : i < 26 := by
        have := (List.getElem?_eq_some_iff.mp hx).1
        unfold strsOf at this
        rw [List.length_map, az_eq] at this
        simpa using this
      have ex : x = .str ⟨#[97 + i]⟩ := by
        unfold strsOf at hx
        rw [az_eq, List.getElem?_map, List.getElem?_map, List.getElem?_range hi] at hx
        exact (Option.some.inj hx).symm
      subst ex
      rw [turn_var, sIf_x, tBl_x]
      have w5 : ([some (.ref b), some (.ref t), some (.str "abcdefghijklmnopqrstuvwxyz"), some (.int s), some (.str ⟨cs.toArray⟩), x5, none] : Rho).set 5 (some (.str ⟨#[97 + i]⟩)) = [some (.ref b), some (.ref t), some (.str "abcdefghijklmnopqrstuvwxyz"), some (.int s), some (.str ⟨cs.toArray⟩), some (.str ⟨#[97 + i]⟩), none] := rfl
      rw [w5, eBin_x, cut_step nm]
      simp only [R.bind_ok, eVar_1, eVar_0, notIn_strs et2, R.toS_ok]
      by_cases hc : cut11 ⟨cs.toArray⟩ (97 + i) ∈ ts
      · rw [decide_eq_true hc]
        refine ⟨rfl, ⟨_, rfl⟩, fun j h3 => ?_⟩
        rcases Nat.lt_or_eq_of_le (Nat.le_of_lt_succ h3) with h4 | h4
        · exact hj j h4
        · rw [h4]; exact hc
      · rw [decide_eq_false hc]
        simp only [Bool.not_false, if_true]
        rw [sRet_x, cut_step nm]
        exact ⟨_, rfl, ⟨cut11_name nm ⟨by omega, by omega⟩, cut11_len nl.2⟩, hc⟩
    have C := loopV_ok (P := fun i ρ h' => h' = h2 ∧ (∃ x5, ρ = [some (.ref b), some (.ref t), some (.str "abcdefghijklmnopqrstuvwxyz"), some (.int s), some (.str ⟨cs.toArray⟩), x5, none]) ∧ ∀ j, j < i → cut11 ⟨cs.toArray⟩ (97 + j) ∈ ts) (L := L) st ⟨rfl, ⟨none, rfl⟩, fun j hj => by omega⟩
    rcases C with ⟨ρ', h', ec, eh, ⟨x5, er⟩, hall⟩ | ⟨z, ez, hz1, hz2⟩
    · subst eh er
      rw [ec, SR.seq_nx, sRet_x]
      refine ⟨_, _, rfl, ⟨nm, nl.1⟩, fun hlt => ?_, B2, E1.trans E2⟩
      exfalso
      have hn : ((List.range 26).map fun j => cut11 ⟨cs.toArray⟩ (97 + j)).Nodup := by
        refine List.pairwise_map.mpr (List.Pairwise.imp ?_ (List.nodup_range (n := 26)))
        intro a b hab e
        have := cut11_inj e
        omega
      have hs : ((List.range 26).map fun j => cut11 ⟨cs.toArray⟩ (97 + j)) ⊆ ts := fun x hx => by
        obtain ⟨j, hj, e⟩ := List.mem_map.mp hx
        rw [← e]
        refine hall j ?_
        unfold strsOf
        rw [List.length_map, az_eq]
        simpa using hj
      have := hn.length_le_of_subset hs
      simp at this
      omega
    · rw [ez]
      exact ⟨z, _, rfl, hz1, fun _ => hz2, B2, E1.trans E2⟩
  · rw [decide_eq_false hm]
    simp only [Bool.not_false, if_true, sRet_x, eVar_4, eVar_3, eVar_2, eVar_1, eVar_0, R.toS_ok, SR.seq_ret]
    exact ⟨_, _, rfl, ⟨nm, nl.1⟩, fun _ => hm, B2, E1.trans E2⟩
end Mi
end
section
set_option maxHeartbeats 1000000
namespace Mi
open PySem L2
def bagB : SX :=
  (sSeq (sAsg (eC (.int 5)) (gVar 1))
    (sSeq (sFor (eSl (eVar 0) oNo (oYes (eC (.int 63)))) (gVar 2) (sAsg (eBin bMod (eCB fInt (aCons (eBin bAdd (eBin bAdd (eBin bMul (eVar 1) (eC (.int 31))) (eBin bMod (eCB fInt (aCons (eVar 2) aNil)) (eC (.int 2147483629)))) (eC (.int 7))) aNil)) (eC (.int 2147483629))) (gVar 1)))
    (sRet (eLst (aCons (eComp [2] (eSl (eVar 0) oNo (oYes (eC (.int 63)))) (gVar 2) tYesX (eCB fInt (aCons (eVar 2) aNil))) (aCons (eC (.int 0)) (aCons (eC (.int 0)) (aCons (eC (.int 0)) (aCons (eVar 1) aNil)))))))))
theorem cutD_map {α β : Type} (f : α → β) (xs : List α) (lo hi : Option Int) : cutD (xs.map f) lo hi = (cutD xs lo hi).map f := by
  unfold cutD
  rw [List.length_map, List.map_take, List.map_drop]
theorem cut_frl {ns : List Int} {r : Rho} {L : List Nat} {h : Hh} : eSl (eVar 0) oNo (oYes (eC (.int 63))) (some (.frl (ns.map D.int)) :: r) L h = .ok (.ref h.length) (h ++ [.lst ((cutD ns none (some 63)).map D.int)]) := by
  simp only [eSl_x, eVar_0, R.bind_ok, oNo_x, oYes_x, eC_x, slD, lstOf, new]
  rw [cutD_map]
theorem cut_len (ns : List Int) : (cutD ns none (some 63)).length ≤ 63 := by
  have e : HT.sIx ns.length ns.length (some 63) = min 63 ns.length := HT.sIx_nat _ _ 63
  unfold cutD
  rw [List.length_take, e]
  show min (min 63 ns.length - 0) _ ≤ 63
  omega
theorem bag_ok (ns : List Int) (L : List Nat) : ∃ h, bodyX 3 bagB [.frl (ns.map D.int)] L [] = .ok (.ref 3) h ∧ Bag h 3 2 ∧ h.length = 4 := by
  have r0 : bodyX 3 bagB [.frl (ns.map D.int)] L [] = (bagB [some (.frl (ns.map D.int)), none, none] L []).fin := rfl
  rw [r0]
  generalize hm : cutD ns none (some 63) = ms
  have hl : ms.length ≤ 63 := hm ▸ cut_len ns
  unfold bagB
  rw [sSeq_x, sAsg_x, eC_x, R.toS_ok, SR.seq_nx, sSeq_x]
  unfold sFor
  have w1 : ([some (.frl (ns.map D.int)), none, none] : Rho).set 1 (some (.int 5)) = [some (.frl (ns.map D.int)), some (.int 5), none] := rfl
  rw [w1, cut_frl, hm, R.toS_ok]
  simp only [forD, List.nil_append, List.length_nil]
  have C := loopL_ok (g := gVar 2) (b := sAsg (eBin bMod (eCB fInt (aCons (eBin bAdd (eBin bAdd (eBin bMul (eVar 1) (eC (.int 31))) (eBin bMod (eCB fInt (aCons (eVar 2) aNil)) (eC (.int 2147483629)))) (eC (.int 7))) aNil)) (eC (.int 2147483629))) (gVar 1)) (L := L)
    (P := fun _ ρ h => h = [.lst (ms.map D.int)] ∧ ∃ (s : Int) (x : Option D), ρ = [some (.frl (ns.map D.int)), some (.int s), x]) (B := fun _ => False) (xs := ms.map D.int) (n := 0) (ρ := [some (.frl (ns.map D.int)), some (.int 5), none]) (h := [.lst (ms.map D.int)]) (by rw [List.length_map]; omega)
    (fun i ρ h ⟨e, _⟩ => by rw [e]; rfl)
    (fun i x ρ h hx ⟨e, s, y, er⟩ => by
      subst e er
      obtain ⟨z, rfl⟩ : ∃ z, x = D.int z := by
        rw [List.getElem?_map] at hx
        cases e2 : ms[i]? with
        | none => rw [e2] at hx; cases hx
        | some z => rw [e2] at hx; exact ⟨z, (Option.some.inj hx).symm⟩
      rw [turn_var]
      have e3 : ∀ r : Rho, r = [some (.frl (ns.map D.int)), some (.int s), some (.int z)] → ∃ v : Int, (sAsg (eBin bMod (eCB fInt (aCons (eBin bAdd (eBin bAdd (eBin bMul (eVar 1) (eC (.int 31))) (eBin bMod (eCB fInt (aCons (eVar 2) aNil)) (eC (.int 2147483629)))) (eC (.int 7))) aNil)) (eC (.int 2147483629))) (gVar 1)) r L [.lst (ms.map D.int)] = .nx (r.set 1 (some (.int v))) [.lst (ms.map D.int)] := fun r hr => by
        subst hr
        simp [eC_x, aNil_x, aCons_x, eBin_x, eUn_x, eCB_x, eTup_x, eLst_x, eCall_x, tBl_x, tTru_x, xAnd_x, xOr_x, xNot_x, tYes_x, sNil_x, sBrk_x, sCnt_x, sSeq_x, sAsg_x, sRet_x, sRetN_x, sDrop_x, sIf_x, oNo_x, eIf_x, eNot_x, eAnd_x, eOr_x, eCh_x, eSl_x, oYes_x, sPut_x, eVar_0, eVar_s, eVar_1, eVar_2, eVar_3, eVar_4, eVar_5, eVar_6, eVar_7, eVar_8, eVar_9, eVar_10, eVar_11, eVar_12, bMul_r _ (j := 31) (by decide), bMod_x _ (j := 2147483629) (by decide)]
      obtain ⟨v, ev⟩ := e3 _ rfl
      exact (congrArg (TurnOk _ _) ev).mpr ⟨rfl, v, _, rfl⟩)
    ⟨rfl, 5, none, rfl⟩
  rcases C with ⟨ρ', h', ec, eh, s, x, er⟩ | C
  · subst eh er
    rw [ec, SR.seq_nx, sRet_x, eLst_x, aCons_x]
    have ecomp := eComp_ok (own := [2]) (g := gVar 2) (tt := tYesX) (te := eCB fInt (aCons (eVar 2) aNil)) (cut_frl (ns := ns) (r := [some (.int s), x]) (L := L) (h := [.lst (ms.map D.int)]))
    rw [hm] at ecomp
    have w2 : wipeR [some (.frl (ns.map D.int)), some (.int s), x] [2] = [some (.frl (ns.map D.int)), some (.int s), none] := rfl
    rw [w2] at ecomp
    have D2 := compL_ok (g := gVar 2) (tt := tYesX) (te := eCB fInt (aCons (eVar 2) aNil)) (n := 2) (k := 1) (ρ := [some (.frl (ns.map D.int)), some (.int s), none]) (L := L) (xs := ms.map D.int) (acc := []) (h := [.lst (ms.map D.int), .lst (ms.map D.int), .lst []])
      (P := fun i acc h => h = [.lst (ms.map D.int), .lst (ms.map D.int), .lst acc] ∧ acc.length = i ∧ ∃ is : List Int, acc = is.map D.int) (by rw [List.length_map]; omega)
      (fun i acc h ⟨e, _⟩ => by rw [e]; rfl)
      (fun i y acc h hx ⟨e, el, is, ea⟩ => by
        subst e ea
        have hi := (List.getElem?_eq_some_iff.mp hx).1
        rw [List.length_map] at hi
        obtain ⟨z, rfl⟩ : ∃ z, y = D.int z := by
          rw [List.getElem?_map] at hx
          cases e2 : ms[i]? with
          | none => rw [e2] at hx; cases hx
          | some z => rw [e2] at hx; exact ⟨z, (Option.some.inj hx).symm⟩
        refine ⟨_, _, rfl, .inr ⟨_, .int z, _, rfl, rfl, rfl, ?_, rfl, ?_, is ++ [z], by simp⟩⟩
        · rw [el]; exact lt_size (by omega)
        · rw [List.length_append, el]; rfl)
      ⟨rfl, rfl, [], rfl⟩
    obtain ⟨acc, h', e5, e6, _, is, ea⟩ := D2
    subst e6 ea
    have e7 : eComp [2] (eSl (eVar 0) oNo (oYes (eC (.int 63)))) (gVar 2) tYesX (eCB fInt (aCons (eVar 2) aNil)) [some (.frl (ns.map D.int)), some (.int s), x] L [.lst (ms.map D.int)] = .ok (.ref 2) [.lst (ms.map D.int), .lst (ms.map D.int), .lst (is.map D.int)] := by
      rw [ecomp]
      exact congrArg R.noExc e5
    rw [e7]
    refine ⟨_, rfl, ⟨by decide, is, 0, 0, 0, s, rfl, rfl, Int.le_refl _⟩, rfl⟩
  · exact C.elim
end Mi
end
section
set_option maxHeartbeats 1000000
namespace Mi
open PySem L2
class Kn (α : Type) where
  run : α → Hh → Prop
class Kx where
  run : Nat → Option D → Hh → Prop
class Kh where
  run : Hh → Prop
class Kp where
  run : Prop
class Ko (α : Type) where
  run : α → Prop
class Ks where
  nx : Rho → Hh → Prop
  ret : D → Hh → Prop
  exc : Nat → Option D → Rho → Hh → Prop
  brk : Rho → Hh → Prop
  cnt : Rho → Hh → Prop
def Ev {α : Type} (r : R α) [k : Kn α] [x : Kx] : Prop := match r with
  | .ok a h => k.run a h
  | .exc c p h => x.run c p h
  | .bad => False
def Et (r : R Bool) [kt : Kh] [kf : Kh] [x : Kx] : Prop := match r with
  | .ok true h => kt.run h
  | .ok false h => kf.run h
  | .exc c p h => x.run c p h
  | .bad => False
def Sv (r : SR) [k : Ks] : Prop := match r with
  | .nx ρ h => k.nx ρ h
  | .ret d h => k.ret d h
  | .exc c p ρ h => k.exc c p ρ h
  | .brk ρ h => k.brk ρ h
  | .cnt ρ h => k.cnt ρ h
  | .bad => False
def Br (p : Prop) [a : Kp] [b : Kp] : Prop := (p → a.run) ∧ (¬ p → b.run)
def Om {α : Type} (o : Option α) [k : Ko α] : Prop := match o with
  | some a => k.run a
  | none => False
/-- what is to be shown at last: simp does not look into it -/
def Stop [a : Kp] : Prop := a.run
theorem stop {p : Prop} (h : p) : @Stop ⟨p⟩ := h
@[reducible] def nox : Kx := ⟨fun _ _ _ => False⟩
/-- a way of saying what a call comes to -/
def Ok {α : Type} (r : R α) (P : α → Hh → Prop) : Prop := @Ev α r ⟨fun a h => @Stop ⟨P a h⟩⟩ nox
def OkX {α : Type} (r : R α) (P : α → Hh → Prop) (X : Nat → Option D → Hh → Prop) : Prop := @Ev α r ⟨fun a h => @Stop ⟨P a h⟩⟩ ⟨fun c p h => @Stop ⟨X c p h⟩⟩
theorem Ok.ex {α : Type} {r : R α} {P : α → Hh → Prop} (o : Ok r P) : ∃ a h, r = .ok a h ∧ P a h := by
  cases r with
  | ok a h => exact ⟨a, h, rfl, o⟩
  | exc c p h => exact False.elim o
  | bad => exact False.elim o
theorem Ok.of {α : Type} {r : R α} {P : α → Hh → Prop} {a : α} {h : Hh} (e : r = .ok a h) (p : P a h) : Ok r P := by rw [e]; exact p
theorem Ok.mono {α : Type} {r : R α} {P Q : α → Hh → Prop} (o : Ok r P) (i : ∀ a h, P a h → Q a h) : Ok r Q := by
  cases r with
  | ok a h => exact i a h o
  | exc c p h => exact o
  | bad => exact o
/-- a call by what it comes to -/
theorem use {α : Type} {r : R α} {P Q : α → Hh → Prop} {x : Kx} (o : Ok r P) (i : ∀ a h, P a h → Q a h) : @Ev α r ⟨Q⟩ x := by
  cases r with
  | ok a h => exact i a h o
  | exc c p h => exact False.elim o
  | bad => exact False.elim o
theorem useX {α : Type} {r : R α} {P Q : α → Hh → Prop} {X Y : Nat → Option D → Hh → Prop} (o : OkX r P X) (i : ∀ a h, P a h → Q a h) (j : ∀ c p h, X c p h → Y c p h) : @Ev α r ⟨Q⟩ ⟨Y⟩ := by
  cases r with
  | ok a h => exact i a h o
  | exc c p h => exact j c p h o
  | bad => exact False.elim o
section
variable {α β : Type} {k : Ks} {x : Kx}
@[simp] theorem Ev_ok (a : α) (h : Hh) (Q : α → Hh → Prop) : @Ev α (.ok a h) ⟨Q⟩ x = Q a h := propext ⟨id, id⟩
@[simp] theorem Ev_exc (c : Nat) (p : Option D) (h : Hh) (q : Kn α) (Q : Nat → Option D → Hh → Prop) : @Ev α (.exc c p h) q ⟨Q⟩ = Q c p h := propext ⟨id, id⟩
@[simp] theorem Ev_bad (q : Kn α) : @Ev α .bad q x = False := propext ⟨id, id⟩
@[simp ↓] theorem Ev_bind (r : R α) (f : α → Hh → R β) (q : Kn β) : @Ev β (r.bind f) q x = @Ev α r ⟨fun a h => @Ev β (f a h) q x⟩ x := by cases r <;> exact propext ⟨id, id⟩
@[simp ↓] theorem Ev_noExc (r : R α) (q : Kn α) : @Ev α r.noExc q x = @Ev α r q nox := by cases r <;> exact propext ⟨id, id⟩
@[simp] theorem Br_true (a b : Prop) : @Br True ⟨a⟩ ⟨b⟩ = a := propext ⟨fun h => h.1 trivial, fun h => ⟨fun _ => h, fun z => absurd trivial z⟩⟩
@[simp] theorem Br_false (a b : Prop) : @Br False ⟨a⟩ ⟨b⟩ = b := propext ⟨fun h => h.2 id, fun h => ⟨fun z => z.elim, fun _ => h⟩⟩
@[simp] theorem Br_not (p a b : Prop) : @Br (¬ p) ⟨a⟩ ⟨b⟩ = @Br p ⟨b⟩ ⟨a⟩ := propext ⟨fun h => ⟨fun z => h.2 (fun w => w z), fun z => h.1 z⟩, fun h => ⟨fun z => h.2 z, fun z => h.1 (Classical.not_not.mp z)⟩⟩
theorem Br.go {p a b : Prop} (h : p → a) (h' : ¬ p → b) : @Br p ⟨a⟩ ⟨b⟩ := ⟨h, h'⟩
@[simp] theorem Om_some (a : α) (Q : α → Prop) : @Om α (some a) ⟨Q⟩ = Q a := propext ⟨id, id⟩
@[simp] theorem Om_none (q : Ko α) : @Om α none q = False := propext ⟨id, id⟩
@[simp] theorem Ev_ite (p : Prop) [Decidable p] (a b : R α) (q : Kn α) : @Ev α (if p then a else b) q x = @Br p ⟨@Ev α a q x⟩ ⟨@Ev α b q x⟩ := by
  by_cases h : p
  · rw [if_pos h]; exact propext ⟨fun z => ⟨fun _ => z, fun w => absurd h w⟩, fun z => z.1 h⟩
  · rw [if_neg h]; exact propext ⟨fun z => ⟨fun w => absurd w h, fun _ => z⟩, fun z => z.2 h⟩
@[simp] theorem Sv_ite (p : Prop) [Decidable p] (a b : SR) : @Sv (if p then a else b) k = @Br p ⟨@Sv a k⟩ ⟨@Sv b k⟩ := by
  by_cases h : p
  · rw [if_pos h]; exact propext ⟨fun z => ⟨fun _ => z, fun w => absurd h w⟩, fun z => z.1 h⟩
  · rw [if_neg h]; exact propext ⟨fun z => ⟨fun w => absurd w h, fun _ => z⟩, fun z => z.2 h⟩
theorem Ev_cong {r : R α} {f g : α → Hh → Prop} {x : Kx} (e : ∀ a h, f a h = g a h) : @Ev α r ⟨f⟩ x = @Ev α r ⟨g⟩ x := by rw [show f = g from funext fun a => funext fun h => e a h]
section
@[simp] theorem Sv_nx (n : Rho → Hh → Prop) (r : D → Hh → Prop) (e : Nat → Option D → Rho → Hh → Prop) (b c : Rho → Hh → Prop) (ρ : Rho) (h : Hh) : @Sv (.nx ρ h) ⟨n, r, e, b, c⟩ = n ρ h := propext ⟨id, id⟩
@[simp] theorem Sv_ret (n : Rho → Hh → Prop) (r : D → Hh → Prop) (e : Nat → Option D → Rho → Hh → Prop) (b c : Rho → Hh → Prop) (d : D) (h : Hh) : @Sv (.ret d h) ⟨n, r, e, b, c⟩ = r d h := propext ⟨id, id⟩
@[simp] theorem Sv_exc (n : Rho → Hh → Prop) (r : D → Hh → Prop) (e : Nat → Option D → Rho → Hh → Prop) (b c : Rho → Hh → Prop) (i : Nat) (p : Option D) (ρ : Rho) (h : Hh) : @Sv (.exc i p ρ h) ⟨n, r, e, b, c⟩ = e i p ρ h := propext ⟨id, id⟩
@[simp] theorem Sv_brk (n : Rho → Hh → Prop) (r : D → Hh → Prop) (e : Nat → Option D → Rho → Hh → Prop) (b c : Rho → Hh → Prop) (ρ : Rho) (h : Hh) : @Sv (.brk ρ h) ⟨n, r, e, b, c⟩ = b ρ h := propext ⟨id, id⟩
@[simp] theorem Sv_cnt (n : Rho → Hh → Prop) (r : D → Hh → Prop) (e : Nat → Option D → Rho → Hh → Prop) (b c : Rho → Hh → Prop) (ρ : Rho) (h : Hh) : @Sv (.cnt ρ h) ⟨n, r, e, b, c⟩ = c ρ h := propext ⟨id, id⟩
end
@[simp] theorem Sv_bad : @Sv .bad k = False := propext ⟨id, id⟩
@[simp ↓] theorem Sv_toS (r : R α) (ρ : Rho) (f : α → Hh → SR) : @Sv (r.toS ρ f) k = @Ev α r ⟨fun a h => @Sv (f a h) k⟩ ⟨fun c p h => @Sv (.exc c p ρ h) k⟩ := by cases r <;> exact propext ⟨id, id⟩
@[simp ↓] theorem Sv_seq (r : SR) (f : Rho → Hh → SR) : @Sv (r.seq f) k = @Sv r ⟨fun ρ h => @Sv (f ρ h) k, fun d h => @Sv (.ret d h) k, fun c p ρ h => @Sv (.exc c p ρ h) k, fun ρ h => @Sv (.brk ρ h) k, fun ρ h => @Sv (.cnt ρ h) k⟩ := by cases r <;> exact propext ⟨id, id⟩
@[simp ↓] theorem Ev_fin (r : SR) (q : Kn D) : @Ev D r.fin q x = @Sv r ⟨fun _ h => @Ev D (.ok .non h) q x, fun d h => @Ev D (.ok d h) q x, fun c p _ h => @Ev D (.exc c p h) q x, fun _ _ => False, fun _ _ => False⟩ := by cases r <;> exact propext ⟨id, id⟩
variable (ρ : Rho) (L : List Nat) (h : Hh)
theorem Sv_noExc (r : SR) (n : Rho → Hh → Prop) (t : D → Hh → Prop) (e : Nat → Option D → Rho → Hh → Prop) (b c : Rho → Hh → Prop) : @Sv r.noExc ⟨n, t, e, b, c⟩ = @Sv r ⟨n, t, fun _ _ _ _ => False, b, c⟩ := by cases r <;> exact propext ⟨id, id⟩
section
variable (s s' : SX) (t u : TX) (a b : EX) (i : Nat) (g : GX) (f : B2) (q : Kn D) (ra : AX) (F : FX) (n : Nat)
@[simp ↓] theorem Sv_sSeq : @Sv (sSeq s s' ρ L h) k = @Sv (s ρ L h) ⟨fun ρ' h' => @Sv (s' ρ' L h') k, fun d h => @Sv (.ret d h) k, fun c p ρ h => @Sv (.exc c p ρ h) k, fun ρ h => @Sv (.brk ρ h) k, fun ρ h => @Sv (.cnt ρ h) k⟩ := Sv_seq _ _
@[simp ↓] theorem Sv_sAsgV : @Sv (sAsg a (gVar i) ρ L h) k = @Ev D (a ρ L h) ⟨fun d h1 => @Sv (.nx (ρ.set i (some d)) h1) k⟩ ⟨fun c p h => @Sv (.exc c p ρ h) k⟩ := Sv_toS _ _ _
theorem Sv_sAsg : @Sv (sAsg a g ρ L h) k = @Ev D (a ρ L h) ⟨fun d h1 => @Ev Rho (g d ρ L h1) ⟨fun ρ' h2 => @Sv (.nx ρ' h2) k⟩ ⟨fun c p h => @Sv (.exc c p ρ h) k⟩⟩ ⟨fun c p h => @Sv (.exc c p ρ h) k⟩ := by
  unfold sAsg
  rw [Sv_toS]
  congr 2
  funext d h1
  rw [Sv_toS]
@[simp ↓] theorem Sv_sAsgT (rr : GsX) : @Sv (sAsg a (gTupX n rr) ρ L h) k = @Ev D (a ρ L h) ⟨fun d h1 => @Ev Rho (gTupX n rr d ρ L h1) ⟨fun ρ' h2 => @Sv (.nx ρ' h2) k⟩ ⟨fun c p h => @Sv (.exc c p ρ h) k⟩⟩ ⟨fun c p h => @Sv (.exc c p ρ h) k⟩ := Sv_sAsg ..
@[simp ↓] theorem Sv_sRet : @Sv (sRet a ρ L h) k = @Ev D (a ρ L h) ⟨fun d h1 => @Sv (.ret d h1) k⟩ ⟨fun c p h => @Sv (.exc c p ρ h) k⟩ := Sv_toS _ _ _
@[simp ↓] theorem Sv_sDrop : @Sv (sDrop a ρ L h) k = @Ev D (a ρ L h) ⟨fun _ h1 => @Sv (.nx ρ h1) k⟩ ⟨fun c p h => @Sv (.exc c p ρ h) k⟩ := Sv_toS _ _ _
@[simp ↓] theorem Sv_sIf : @Sv (sIf t s s' ρ L h) k = @Et (t ρ L h) ⟨fun h1 => @Sv (s ρ L h1) k⟩ ⟨fun h1 => @Sv (s' ρ L h1) k⟩ ⟨fun c p h => @Sv (.exc c p ρ h) k⟩ := by
  unfold sIf
  cases t ρ L h with
  | ok b h1 => cases b <;> exact propext ⟨id, id⟩
  | exc c p h1 => exact propext ⟨id, id⟩
  | bad => exact propext ⟨id, id⟩
@[simp ↓] theorem Sv_sNil : @Sv (sNil ρ L h) k = @Sv (.nx ρ h) k := propext ⟨id, id⟩
@[simp ↓] theorem Sv_sAug : @Sv (sAug i f a ρ L h) k = @Om (Option D) ρ[i]? ⟨fun o => @Om D o ⟨fun v => @Ev D (a ρ L h) ⟨fun y h1 => @Ev D (f v y h1) ⟨fun z h2 => @Sv (.nx (ρ.set i (some z)) h2) k⟩ ⟨fun c p h => @Sv (.exc c p ρ h) k⟩⟩ ⟨fun c p h => @Sv (.exc c p ρ h) k⟩⟩⟩ := by
  unfold sAug
  cases ρ[i]? with
  | none => exact propext ⟨id, id⟩
  | some o =>
    cases o with
    | none => exact propext ⟨id, id⟩
    | some v =>
      show @Sv (R.toS _ _ _) k = _
      rw [Sv_toS, Om_some, Om_some]
      exact Ev_cong fun y h1 => Sv_toS _ _ _
@[simp ↓] theorem Sv_sPut (o b a : EX) : @Sv (sPut o b a ρ L h) k = @Ev D (a ρ L h) ⟨fun d h1 => @Ev D (o ρ L h1) ⟨fun v h2 => @Ev D (b ρ L h2) ⟨fun y h3 => @Om Hh (setIx v y d L h3) ⟨fun h4 => @Sv (.nx ρ h4) k⟩⟩ ⟨fun c p h => @Sv (.exc c p ρ h) k⟩⟩ ⟨fun c p h => @Sv (.exc c p ρ h) k⟩⟩ ⟨fun c p h => @Sv (.exc c p ρ h) k⟩ := by
  unfold sPut
  rw [Sv_toS]
  refine Ev_cong fun d h1 => ?_
  rw [Sv_toS]
  refine Ev_cong fun v h2 => ?_
  rw [Sv_toS]
  refine Ev_cong fun y h3 => ?_
  cases setIx v y d L h3 <;> exact propext ⟨id, id⟩
@[simp ↓] theorem Sv_sRaise (c : Nat) : @Sv (sRaise c a ρ L h) k = @Ev D (a ρ L h) ⟨fun d h1 => @Sv (.exc c (some d) ρ h1) k⟩ ⟨fun c p h => @Sv (.exc c p ρ h) k⟩ := Sv_toS _ _ _
@[simp ↓] theorem Sv_sFor : @Sv (sFor a g s ρ L h) k = @Ev D (a ρ L h) ⟨fun v h1 => @Sv (forD g s v ρ L h1) k⟩ ⟨fun c p h => @Sv (.exc c p ρ h) k⟩ := Sv_toS _ _ _
@[simp ↓] theorem Sv_sForR (w : List D → Option (List D)) : @Sv (sForR w ra g s ρ L h) k = @Ev (List D) (ra ρ L h) ⟨fun xs h1 => @Om (List D) (w xs) ⟨fun ys => @Sv (loopV g s ys ρ L h1) k⟩⟩ ⟨fun c p h => @Sv (.exc c p ρ h) k⟩ := by
  unfold sForR
  rw [Sv_toS]
  congr 2
  funext xs h1
  cases w xs <;> exact propext ⟨id, id⟩
@[simp ↓] theorem Sv_sForK (n : Rho → Hh → Prop) (r : D → Hh → Prop) (e : Nat → Option D → Rho → Hh → Prop) (b' c : Rho → Hh → Prop) : @Sv (sForK a g s ρ L h) ⟨n, r, e, b', c⟩ = @Ev D (a ρ L h) ⟨fun v h1 => @Om (Nat × List D) (keysAt v h1) ⟨fun q => @Sv (loopV g s q.2 ρ (q.1 :: L) h1) ⟨n, r, fun _ _ _ _ => False, b', c⟩⟩⟩ ⟨fun c p h => e c p ρ h⟩ := by
  unfold sForK
  rw [Sv_toS]
  refine Ev_cong fun v h1 => ?_
  cases keysAt v h1 with
  | none => exact propext ⟨id, id⟩
  | some q =>
    obtain ⟨q1, q2⟩ := q
    exact Sv_noExc _ _ _ _ _ _
@[simp ↓] theorem Sv_sFldX (cs : List Nat) (fl : Str) (o : EX) : @Sv (sFldX cs fl o a ρ L h) k = @Ev D (a ρ L h) ⟨fun d h1 => @Ev D (o ρ L h1) ⟨fun v h2 => @Sv (match v with
  | .ref n => (match h2[n]? with
    | some (.ins c fs) => if c ∈ cs ∧ fs.length < 1000 then .nx ρ (h2.set n (.ins c (putFD fl d fs))) else .bad
    | _ => .bad)
  | _ => .bad) k⟩ ⟨fun c p h => @Sv (.exc c p ρ h) k⟩⟩ ⟨fun c p h => @Sv (.exc c p ρ h) k⟩ := by
  unfold sFldX
  rw [Sv_toS]
  congr 2
  funext d h1
  rw [Sv_toS]
/-- a cut behind a statement -/
theorem Sv_cut {s s' : SX} {ρ : Rho} {L : List Nat} {h : Hh} {n : Rho → Hh → Prop} {t : D → Hh → Prop} {e : Nat → Option D → Rho → Hh → Prop} {b c : Rho → Hh → Prop} (M : Rho → Hh → Prop) (h1 : @Sv (s ρ L h) ⟨fun ρ h => @Stop ⟨M ρ h⟩, t, e, b, c⟩) (h2 : ∀ ρ h, M ρ h → @Sv (s' ρ L h) ⟨n, t, e, b, c⟩) : @Sv (sSeq s s' ρ L h) ⟨n, t, e, b, c⟩ := by
  unfold sSeq
  generalize s ρ L h = r at h1
  cases r with
  | nx ρ h => exact h2 ρ h h1
  | ret d h => exact h1
  | exc c p ρ h => exact h1
  | brk ρ h => exact h1
  | cnt ρ h => exact h1
  | bad => exact h1
variable (kt kf : Kh)
@[simp ↓] theorem Et_and : @Et (xAnd t u ρ L h) kt kf x = @Et (t ρ L h) ⟨fun h1 => @Et (u ρ L h1) kt kf x⟩ kf x := by
  unfold xAnd
  cases t ρ L h with
  | ok b h1 => cases b <;> exact propext ⟨id, id⟩
  | exc c p h1 => exact propext ⟨id, id⟩
  | bad => exact propext ⟨id, id⟩
@[simp ↓] theorem Et_or : @Et (xOr t u ρ L h) kt kf x = @Et (t ρ L h) kt ⟨fun h1 => @Et (u ρ L h1) kt kf x⟩ x := by
  unfold xOr
  cases t ρ L h with
  | ok b h1 => cases b <;> exact propext ⟨id, id⟩
  | exc c p h1 => exact propext ⟨id, id⟩
  | bad => exact propext ⟨id, id⟩
@[simp ↓] theorem Et_not : @Et (xNot t ρ L h) kt kf x = @Et (t ρ L h) kf kt x := by
  unfold xNot
  cases t ρ L h with
  | ok b h1 => cases b <;> exact propext ⟨id, id⟩
  | exc c p h1 => exact propext ⟨id, id⟩
  | bad => exact propext ⟨id, id⟩
@[simp] theorem Et_ok (b : Bool) (A B : Hh → Prop) : @Et (.ok b h) ⟨A⟩ ⟨B⟩ x = @Br (b = true) ⟨A h⟩ ⟨B h⟩ := by
  cases b
  · exact propext ⟨fun z => ⟨fun w => (nomatch w), fun _ => z⟩, fun z => z.2 (fun w => nomatch w)⟩
  · exact propext ⟨fun z => ⟨fun _ => z, fun w => absurd rfl w⟩, fun z => z.1 rfl⟩
@[simp ↓] theorem Et_yes (A : Hh → Prop) : @Et (tYesX ρ L h) ⟨A⟩ kf x = A h := propext ⟨id, id⟩
/-- a value as a test -/
def Bv (v : D) (h : Hh) [kt : Kh] [kf : Kh] : Prop := match v with
  | .bl true => kt.run h
  | .bl false => kf.run h
  | _ => False
@[simp] theorem Bv_bl (b : Bool) (A B : Hh → Prop) : @Bv (.bl b) h ⟨A⟩ ⟨B⟩ = @Br (b = true) ⟨A h⟩ ⟨B h⟩ := by
  cases b
  · exact propext ⟨fun z => ⟨fun w => (nomatch w), fun _ => z⟩, fun z => z.2 (fun w => nomatch w)⟩
  · exact propext ⟨fun z => ⟨fun _ => z, fun w => absurd rfl w⟩, fun z => z.1 rfl⟩
@[simp ↓] theorem Et_tBl : @Et (tBl a ρ L h) kt kf x = @Ev D (a ρ L h) ⟨fun v h1 => @Bv v h1 kt kf⟩ x := by
  unfold tBl
  cases a ρ L h with
  | ok v h1 =>
    cases v with
    | bl b => cases b <;> exact propext ⟨id, id⟩
    | _ => exact propext ⟨id, id⟩
  | exc c p h1 => exact propext ⟨id, id⟩
  | bad => exact propext ⟨id, id⟩
def Tv (v : D) (h : Hh) [kt : Kh] [kf : Kh] : Prop := @Om Bool (truD v h) ⟨fun b => @Bv (.bl b) h kt kf⟩
@[simp] theorem Tv_x (v : D) : @Tv v h kt kf = @Om Bool (truD v h) ⟨fun b => @Bv (.bl b) h kt kf⟩ := propext ⟨id, id⟩
@[simp ↓] theorem Et_tTru : @Et (tTru a ρ L h) kt kf x = @Ev D (a ρ L h) ⟨fun v h1 => @Tv v h1 kt kf⟩ x := by
  unfold tTru
  cases a ρ L h with
  | ok v h1 =>
    show @Et (match truD v h1 with
      | some b => .ok b h1
      | none => .bad) kt kf x = @Tv v h1 kt kf
    unfold Tv
    cases truD v h1 with
    | none => exact propext ⟨id, id⟩
    | some b => cases b <;> exact propext ⟨id, id⟩
  | exc c p h1 => exact propext ⟨id, id⟩
  | bad => exact propext ⟨id, id⟩
@[simp ↓] theorem Ev_eC (d : D) (q : Kn D) : @Ev D (eC d ρ L h) q x = @Ev D (.ok d h) q x := propext ⟨id, id⟩
@[simp ↓] theorem Ev_eBin : @Ev D (eBin f a b ρ L h) q x = @Ev D (a ρ L h) ⟨fun v h1 => @Ev D (b ρ L h1) ⟨fun w h2 => @Ev D (f v w h2) q x⟩ x⟩ x := by
  rw [eBin_x, Ev_bind]
  refine Ev_cong fun v h1 => ?_
  rw [Ev_bind]
@[simp ↓] theorem Ev_eUn (u : D → Hh → R D) : @Ev D (eUn u a ρ L h) q x = @Ev D (a ρ L h) ⟨fun v h1 => @Ev D (u v h1) q x⟩ x := Ev_bind _ _ _
@[simp ↓] theorem Ev_aNil (q : Kn (List D)) : @Ev (List D) (aNil ρ L h) q x = @Ev (List D) (.ok [] h) q x := propext ⟨id, id⟩
@[simp ↓] theorem Ev_aCons (q : Kn (List D)) : @Ev (List D) (aCons a ra ρ L h) q x = @Ev D (a ρ L h) ⟨fun v h1 => @Ev (List D) (ra ρ L h1) ⟨fun vs h2 => @Ev (List D) (.ok (v :: vs) h2) q x⟩ x⟩ x := by
  rw [aCons_x, Ev_bind]
  refine Ev_cong fun v h1 => ?_
  rw [Ev_bind]
@[simp ↓] theorem Ev_eCB (u : List D → Hh → R D) : @Ev D (eCB u ra ρ L h) q x = @Ev (List D) (ra ρ L h) ⟨fun vs h1 => @Ev D (u vs h1) q x⟩ x := Ev_bind _ _ _
@[simp ↓] theorem Ev_eTup : @Ev D (eTup ra ρ L h) q x = @Ev (List D) (ra ρ L h) ⟨fun vs h1 => @Br (vs.length ≤ sizeLine) ⟨@Ev D (.ok (.tup vs) h1) q x⟩ ⟨False⟩⟩ x := by
  rw [eTup_x, Ev_bind]
  refine Ev_cong fun v h1 => ?_
  rw [Ev_ite, Ev_bad]
@[simp ↓] theorem Ev_eLst : @Ev D (eLst ra ρ L h) q x = @Ev (List D) (ra ρ L h) ⟨fun vs h1 => @Br (vs.length ≤ sizeLine) ⟨@Ev D (.ok (.ref h1.length) (h1 ++ [.lst vs])) q x⟩ ⟨False⟩⟩ x := by
  rw [eLst_x, Ev_bind]
  refine Ev_cong fun v h1 => ?_
  rw [Ev_ite, Ev_bad]
@[simp ↓] theorem Ev_eCall : @Ev D (eCall n F ra ρ L h) q x = @Ev (List D) (ra ρ L h) ⟨fun vs h1 => @Br (vs.length = n) ⟨@Ev D (F vs L h1) q x⟩ ⟨False⟩⟩ x := by
  rw [eCall_x, Ev_bind]
  refine Ev_cong fun v h1 => ?_
  rw [Ev_ite, Ev_bad]
@[simp ↓] theorem Ev_eAnd : @Ev D (eAnd a b ρ L h) q x = @Ev D (a ρ L h) ⟨fun v h1 => @Tv v h1 ⟨fun h2 => @Ev D (b ρ L h2) q x⟩ ⟨fun h2 => @Ev D (.ok v h2) q x⟩⟩ x := by
  rw [eAnd_x, Ev_bind]
  refine Ev_cong fun v h1 => ?_
  unfold Tv
  cases truD v h1 with
  | none => exact propext ⟨id, id⟩
  | some b => cases b <;> exact propext ⟨id, id⟩
@[simp ↓] theorem Ev_eOr : @Ev D (eOr a b ρ L h) q x = @Ev D (a ρ L h) ⟨fun v h1 => @Tv v h1 ⟨fun h2 => @Ev D (.ok v h2) q x⟩ ⟨fun h2 => @Ev D (b ρ L h2) q x⟩⟩ x := by
  rw [eOr_x, Ev_bind]
  refine Ev_cong fun v h1 => ?_
  unfold Tv
  cases truD v h1 with
  | none => exact propext ⟨id, id⟩
  | some b => cases b <;> exact propext ⟨id, id⟩
@[simp ↓] theorem Ev_eNot : @Ev D (eNot a ρ L h) q x = @Ev D (a ρ L h) ⟨fun v h1 => @Om Bool (truD v h1) ⟨fun b => @Ev D (.ok (.bl (!b)) h1) q x⟩⟩ x := by
  rw [eNot_x, Ev_bind]
  refine Ev_cong fun v h1 => ?_
  cases truD v h1 <;> exact propext ⟨id, id⟩
@[simp ↓] theorem Ev_eIf : @Ev D (eIf t a b ρ L h) q x = @Et (t ρ L h) ⟨fun h1 => @Ev D (a ρ L h1) q x⟩ ⟨fun h1 => @Ev D (b ρ L h1) q x⟩ x := by
  rw [eIf_x]
  cases t ρ L h with
  | ok b h1 => cases b <;> exact propext ⟨id, id⟩
  | exc c p h1 => exact propext ⟨id, id⟩
  | bad => exact propext ⟨id, id⟩
@[simp ↓] theorem Ev_eCh (f g : B2) (a b c : EX) : @Ev D (eCh f g a b c ρ L h) q x = @Ev D (a ρ L h) ⟨fun v h1 => @Ev D (b ρ L h1) ⟨fun w h2 => @Ev D (f v w h2) ⟨fun z h3 => @Bv z h3 ⟨fun h4 => @Ev D (c ρ L h4) ⟨fun u h5 => @Ev D (g w u h5) q x⟩ x⟩ ⟨fun h4 => @Ev D (.ok (.bl false) h4) q x⟩⟩ x⟩ x⟩ x := by
  rw [eCh_x, Ev_bind]
  refine Ev_cong fun v h1 => ?_
  rw [Ev_bind]
  congr 2
  funext w h2
  rw [Ev_bind]
  congr 2
  funext z h3
  cases z with
  | bl b =>
    cases b
    · exact propext ⟨id, id⟩
    · show @Ev D ((c ρ L h3).bind _) q x = _
      rw [Ev_bind]
      exact propext ⟨id, id⟩
  | _ => exact propext ⟨id, id⟩
@[simp ↓] theorem Ev_oNo (q : Kn (Option Int)) : @Ev (Option Int) (oNo ρ L h) q x = @Ev (Option Int) (.ok none h) q x := propext ⟨id, id⟩
@[simp ↓] theorem Ev_eSl (lo hi : OX) : @Ev D (eSl a lo hi ρ L h) q x = @Ev D (a ρ L h) ⟨fun v h1 => @Ev (Option Int) (lo ρ L h1) ⟨fun l h2 => @Ev (Option Int) (hi ρ L h2) ⟨fun u h3 => @Ev D (slD v l u h3) q x⟩ x⟩ x⟩ x := by
  rw [eSl_x, Ev_bind]
  refine Ev_cong fun v h1 => ?_
  rw [Ev_bind]
  refine Ev_cong fun v h1 => ?_
  rw [Ev_bind]
@[simp ↓] theorem Ev_oYes (q : Kn (Option Int)) : @Ev (Option Int) (oYes a ρ L h) q x = @Ev D (a ρ L h) ⟨fun v h1 => @Ev (Option Int) (match v with
  | .int i => .ok (some i) h1
  | _ => .bad) q x⟩ x := Ev_bind _ _ _
@[simp ↓] theorem Ev_eVar : @Ev D (eVar i ρ L h) q x = @Om (Option D) ρ[i]? ⟨fun o => @Om D o ⟨fun d => @Ev D (.ok d h) q x⟩⟩ := by
  unfold eVar
  cases ρ[i]? with
  | none => exact propext ⟨id, id⟩
  | some o => cases o <;> exact propext ⟨id, id⟩
@[simp ↓] theorem Ev_eFld (cs : List Nat) (fl : Str) : @Ev D (eFld cs fl a ρ L h) q x = @Ev D (a ρ L h) ⟨fun v h1 => @Ev D (match v with
  | .ref n => (match h1[n]? with
    | some (.ins c fs) => if c ∈ cs then (match fs.lookup fl with
      | some v => .ok v h1
      | none => .bad) else .bad
    | _ => .bad)
  | _ => .bad) q x⟩ x := Ev_bind _ _ _
@[simp ↓] theorem Ev_eProp (c : Nat) : @Ev D (eProp c F a ρ L h) q x = @Ev D (a ρ L h) ⟨fun v h1 => @Ev D (match v with
  | .ref n => (match h1[n]? with
    | some (.ins c' _) => if c' = c then (F [v] L h1).noExc else .bad
    | _ => .bad)
  | _ => .bad) q x⟩ x := by
  unfold eProp
  rw [Ev_bind]
@[simp ↓] theorem Ev_eMeth (c : Nat) (m : Str) (np : Nat) : @Ev D (eMeth c m np F a ra ρ L h) q x = @Ev D (a ρ L h) ⟨fun v h1 => @Ev D (match v with
  | .ref n => (match h1[n]? with
    | some (.ins c' fs) => if c' = c ∧ fs.lookup m = none then (ra ρ L h1).bind fun xs h2 => if xs.length + 1 = np then F (v :: xs) L h2 else .bad else .bad
    | _ => .bad)
  | _ => .bad) q x⟩ x := by
  unfold eMeth
  rw [Ev_bind]
@[simp ↓] theorem Ev_eMake (c : Nat) (np : Nat) : @Ev D (eMake c np F ra ρ L h) q x = @Ev (List D) (ra ρ L h) ⟨fun xs h1 => @Br (xs.length + 1 = np) ⟨@Ev D (F (.ref h1.length :: xs) L (h1 ++ [.ins c []])) ⟨fun v h2 => @Ev D (match v with
  | .non => .ok (.ref h1.length) h2
  | _ => .bad) q x⟩ x⟩ ⟨False⟩⟩ x := by
  unfold eMake
  rw [Ev_bind]
  refine Ev_cong fun v h1 => ?_
  rw [Ev_ite, Ev_bind, Ev_bad]
@[simp ↓] theorem Ev_eOwnIn (neg : Bool) (c : Nat) : @Ev D (eOwnIn neg c F a b ρ L h) q x = @Ev D (a ρ L h) ⟨fun v h1 => @Ev D (b ρ L h1) ⟨fun y h2 => @Ev D (match y with
  | .ref n => (match h2[n]? with
    | some (.ins c' _) => if c' = c then (F [y, v] L h2).noExc.bind fun v h3 => match v with
      | .bl k => .ok (.bl (if neg then !k else k)) h3
      | _ => .bad else .bad
    | _ => .bad)
  | _ => .bad) q x⟩ x⟩ x := by
  unfold eOwnIn
  rw [Ev_bind]
  refine Ev_cong fun v h1 => ?_
  rw [Ev_bind]
@[simp ↓] theorem Ev_eApp : @Ev D (eApp a b ρ L h) q x = @Ev D (a ρ L h) ⟨fun v h1 => @Ev D (match v with
  | .ref n => (match h1[n]? with
    | some (.lst _) => (b ρ L h1).bind fun y h2 => (match h2[n]? with
      | some (.lst xs) => if xs.length < sizeLine then .ok .non (h2.set n (.lst (xs ++ [y]))) else .bad
      | _ => .bad)
    | _ => .bad)
  | _ => .bad) q x⟩ x := by
  unfold eApp
  rw [Ev_bind]
variable (own : List Nat) (te : EX)
@[simp ↓] theorem Ev_eComp : @Ev D (eComp own a g t te ρ L h) q x = @Ev D (a ρ L h) ⟨fun v h1 => @Ev D (compD g t te v (wipeR ρ own) L h1) q nox⟩ x := by
  unfold eComp
  rw [Ev_bind]
  refine Ev_cong fun v h1 => ?_
  rw [Ev_noExc]
@[simp ↓] theorem Ev_eCompK : @Ev D (eCompK own a g t te ρ L h) q x = @Ev D (a ρ L h) ⟨fun v h1 => @Om (Nat × List D) (keysAt v h1) ⟨fun z => @Ev D (compV g t te h1.length z.2 (wipeR ρ own) (z.1 :: L) (h1 ++ [.lst []])) q nox⟩⟩ x := by
  unfold eCompK
  rw [Ev_bind]
  refine Ev_cong fun v h1 => ?_
  cases keysAt v h1 with
  | none => exact propext ⟨id, id⟩
  | some z => simp only [Om_some, Ev_noExc]
@[simp ↓] theorem Ev_eCompR (w : List D → Option (List D)) : @Ev D (eCompR w own ra g t te ρ L h) q x = @Ev (List D) (ra ρ L h) ⟨fun vs h1 => @Om (List D) (w vs) ⟨fun ys => @Ev D (compV g t te h1.length ys (wipeR ρ own) L (h1 ++ [.lst []])) q nox⟩⟩ x := by
  unfold eCompR
  rw [Ev_bind]
  refine Ev_cong fun v h1 => ?_
  cases w v with
  | none => exact propext ⟨id, id⟩
  | some z => simp only [Om_some, Ev_noExc]
@[simp ↓] theorem Ev_eListA : @Ev D (eListA a ρ L h) q x = @Ev D (a ρ L h) ⟨fun v h1 => @Ev D (match v with
  | .ref n => (match h1[n]? with
    | some (.dic kvs) => if n ∈ L then .bad else new (.lst (keysOf keyV kvs)) h1
    | _ => fList [.ref n] h1)
  | _ => fList [v] h1) q x⟩ x := by
  unfold eListA
  rw [Ev_bind]
@[simp ↓] theorem Ev_eJoin : @Ev D (eJoin a b ρ L h) q x = @Ev D (a ρ L h) ⟨fun v h1 => @Ev D (match v with
  | .str s => (b ρ L h1).bind fun y h2 => (match (seqOf y h2).bind strsD with
    | some ss => if (ss.map (·.length)).sum + ss.length * s.length ≤ 16777216 then .ok (.str (Txt.join s ss)) h2 else .bad
    | none => .bad)
  | _ => .bad) q x⟩ x := by
  unfold eJoin
  rw [Ev_bind]
end
end
end Mi
end
section
set_option maxHeartbeats 1000000
namespace Mi
open PySem L2
def ofO {α : Type} (o : Option α) (h : Hh) : R α := match o with
  | some a => .ok a h
  | none => .bad
section
variable {α β : Type} {k : Ks} {x : Kx} (h : Hh) (n m : Nat) (i j : Int) (s z : Str) (xs ys ds : List D) (L : List Nat) (d : D)
@[simp] theorem ofO_some (a : α) : ofO (some a) h = .ok a h := rfl
@[simp] theorem Ev_ofO (o : Option α) (Q : α → Hh → Prop) : @Ev α (ofO o h) ⟨Q⟩ x = @Om α o ⟨fun a => Q a h⟩ := by cases o <;> exact propext ⟨id, id⟩
@[simp] theorem bIx_ri : bIx (.ref n) (.int i) h = match h[n]? with
    | some (.lst xs) => ofO (atI xs i) h
    | some (.dic kvs) => ofO (valD kvs (.inl i)) h
    | _ => .bad := by
  simp only [bIx, seqOf, lstOf, dGet, keyD]
  rcases h[n]? with _ | ⟨_ | _ | _ | _ | _⟩ <;> simp only
  · cases atI _ i <;> rfl
  · rename_i kvs; cases valD kvs (Sum.inl i) <;> rfl
@[simp] theorem bIx_rs : bIx (.ref n) (.str s) h = match h[n]? with
    | some (.dic kvs) => ofO (valD kvs (.inr s)) h
    | _ => .bad := by
  simp only [bIx, seqOf, lstOf, dGet, keyD]
  rcases h[n]? with _ | ⟨_ | _ | _ | _ | _⟩ <;> simp only
  · rename_i kvs; cases valD kvs (Sum.inr s) <;> rfl
@[simp] theorem bIx_rt : bIx (.ref n) (.tup ds) h = match h[n]? with
    | some (.dct kvs) => ofO ((keysD ds).bind (valD kvs)) h
    | _ => .bad := by
  simp only [bIx, seqOf, lstOf, dGet, keyD]
  rcases h[n]? with _ | ⟨_ | _ | _ | _ | _⟩ <;> simp only
  · cases keysD ds with
    | none => rfl
    | some ks => rename_i kvs; simp only [Option.bind_some]; cases valD kvs ks <;> rfl
@[simp] theorem bIx_ti : bIx (.tup xs) (.int i) h = ofO (atI xs i) h := by
  simp only [bIx, seqOf]
  cases atI xs i <;> rfl
theorem atI_n {as : List α} {j : Nat} : atI as (j : Int) = as[j]? := by
  unfold atI ixN
  by_cases h : j < as.length
  · rw [if_pos (by omega), if_pos (by omega)]; rfl
  · rw [if_pos (by omega), if_neg (by omega), List.getElem?_eq_none (by omega)]; rfl
@[simp] theorem atI_z (a : α) (r : List α) : atI (a :: r) 0 = some a := atI_n (j := 0)
@[simp] theorem atI_1 (a b : α) (r : List α) : atI (a :: b :: r) 1 = some b := atI_n (j := 1)
@[simp] theorem atI_2 (a b c : α) (r : List α) : atI (a :: b :: c :: r) 2 = some c := atI_n (j := 2)
@[simp] theorem atI_3 (a b c d : α) (r : List α) : atI (a :: b :: c :: d :: r) 3 = some d := atI_n (j := 3)
@[simp] theorem atI_4 (a b c d e : α) (r : List α) : atI (a :: b :: c :: d :: e :: r) 4 = some e := atI_n (j := 4)
theorem atI_n1 {a : α} {as : List α} {j : Nat} : atI (a :: as) ((j : Int) + 1) = as[j]? := by
  have : ((j : Int) + 1) = ((j + 1 : Nat) : Int) := by omega
  rw [this, atI_n, List.getElem?_cons_succ]
theorem atI_last {as : List α} {a : α} : atI (as ++ [a]) (-1) = some a := by
  unfold atI ixN
  rw [if_neg (by decide), if_pos (by rw [List.length_append]; simp; omega)]
  have : ((-1 : Int) + ((as ++ [a]).length : Int)).toNat = as.length := by rw [List.length_append, List.length_singleton]; omega
  simp only [Option.bind_some, this]
  simp
@[simp] theorem fLen_ref : fLen [.ref n] h = match h[n]? with
    | some (.lst ys) => .ok (.int ys.length) h
    | some (.dic kvs) => .ok (.int kvs.length) h
    | _ => .bad := rfl
@[simp] theorem fLen_tup : fLen [.tup xs] h = .ok (.int xs.length) h := rfl
theorem fLen_str : fLen [.str s] h = if s.length ≤ sizeLine then .ok (.int s.length) h else .bad := rfl
@[simp] theorem setIx_ri : setIx (.ref n) (.int i) d L h = if n ∈ L then none else match h[n]? with
    | some (.lst xs) => (ixN xs.length i).map fun j => h.set n (.lst (xs.set j d))
    | some (.dic kvs) => if kvs.length < sizeLine then some (h.set n (.dic (putD kvs (.inl i) d))) else none
    | _ => none := by
  simp only [setIx, keyD]
  split
  · rfl
  · rcases h[n]? with _ | ⟨_ | _ | _ | _ | _⟩ <;> simp only
    · cases ixN _ i <;> rfl
@[simp] theorem setIx_rs : setIx (.ref n) (.str s) d L h = if n ∈ L then none else match h[n]? with
    | some (.dic kvs) => if kvs.length < sizeLine then some (h.set n (.dic (putD kvs (.inr s) d))) else none
    | _ => none := by
  simp only [setIx, keyD]
  split
  · rfl
  · rcases h[n]? with _ | ⟨_ | _ | _ | _ | _⟩ <;> simp only
@[simp] theorem setIx_rt : setIx (.ref n) (.tup ds) d L h = if n ∈ L then none else match h[n]? with
    | some (.dct kvs) => (match keysD ds with
      | some ks => if kvs.length < sizeLine then some (h.set n (.dct (putD kvs ks d))) else none
      | none => none)
    | _ => none := by
  simp only [setIx, keyD]
  split
  · rfl
  · rcases h[n]? with _ | ⟨_ | _ | _ | _ | _⟩ <;> rfl
@[simp] theorem Om_ite (p : Prop) [Decidable p] (a b : Option α) (q : Ko α) : @Om α (if p then a else b) q = @Br p ⟨@Om α a q⟩ ⟨@Om α b q⟩ := by
  by_cases h : p
  · rw [if_pos h]; exact propext ⟨fun z => ⟨fun _ => z, fun w => absurd h w⟩, fun z => z.1 h⟩
  · rw [if_neg h]; exact propext ⟨fun z => ⟨fun w => absurd w h, fun _ => z⟩, fun z => z.2 h⟩
@[simp] theorem Om_map (f : α → β) (o : Option α) (q : Ko β) : @Om β (o.map f) q = @Om α o ⟨fun a => @Om β (some (f a)) q⟩ := by cases o <;> exact propext ⟨id, id⟩
@[simp] theorem Om_bind (f : α → Option β) (o : Option α) (q : Ko β) : @Om β (o.bind f) q = @Om α o ⟨fun a => @Om β (f a) q⟩ := by cases o <;> exact propext ⟨id, id⟩
@[simp] theorem truD_bl (b : Bool) : truD (.bl b) h = some b := rfl
@[simp] theorem truD_int : truD (.int i) h = some (i != 0) := rfl
@[simp] theorem truD_non : truD .non h = some false := rfl
@[simp] theorem truD_tup : truD (.tup xs) h = some (!xs.isEmpty) := rfl
@[simp] theorem truD_ref : truD (.ref n) h = match h[n]? with
    | some (.lst xs) => some (!xs.isEmpty)
    | _ => none := rfl
@[simp] theorem isNon_non : D.isNon .non = true := rfl
@[simp] theorem isNon_bl (b : Bool) : D.isNon (.bl b) = false := rfl
@[simp] theorem isNon_int : D.isNon (.int i) = false := rfl
@[simp] theorem isNon_str : D.isNon (.str s) = false := rfl
@[simp] theorem isNon_tup : D.isNon (.tup xs) = false := rfl
@[simp] theorem isNon_ref : D.isNon (.ref n) = false := rfl
@[simp] theorem bAdd_tup : bAdd (.tup xs) (.tup ys) h = if xs.length + ys.length ≤ sizeLine then .ok (.tup (xs ++ ys)) h else .bad := rfl
@[simp] theorem bAdd_ref : bAdd (.ref n) (.ref m) h = match h[n]?, h[m]? with
    | some (.lst xs), some (.lst ys) => if xs.length + ys.length ≤ sizeLine then .ok (.ref h.length) (h ++ [.lst (xs ++ ys)]) else .bad
    | _, _ => .bad := rfl
@[simp] theorem bAddI_x : bAddI (.int i) (.int j) h = .ok (.int (i + j)) h := rfl
@[simp] theorem fMin2_x : fMin2 [.int i, .int j] h = .ok (.int (min i j)) h := by
  show R.ok (D.int (if j < i then j else i)) h = _
  congr 2
  omega
@[simp] theorem fMax2_x : fMax2 [.int i, .int j] h = .ok (.int (max i j)) h := by
  show R.ok (D.int (if j > i then j else i)) h = _
  congr 2
  omega
@[simp] theorem fTuple_tup : fTuple [.tup xs] h = .ok (.tup xs) h := rfl
@[simp] theorem fTuple_ref : fTuple [.ref n] h = match h[n]? with
    | some (.lst xs) => .ok (.tup xs) h
    | _ => .bad := by
  simp only [fTuple, lstOf]
  rcases h[n]? with _ | ⟨_ | _ | _ | _ | _⟩ <;> rfl
@[simp] theorem fList_tup : fList [.tup xs] h = .ok (.ref h.length) (h ++ [.lst xs]) := rfl
@[simp] theorem fList_ref : fList [.ref n] h = match h[n]? with
    | some (.lst xs) => .ok (.ref h.length) (h ++ [.lst xs])
    | _ => .bad := by
  simp only [fList, seqOf, lstOf]
  rcases h[n]? with _ | ⟨_ | _ | _ | _ | _⟩ <;> rfl
@[simp] theorem new_x (o : Ob) : new o h = .ok (.ref h.length) (h ++ [o]) := rfl
@[simp] theorem fSum_ref : fSum [.ref n] h = match h[n]? with
    | some (.lst xs) => ofO ((intsD xs).map fun ns => .int ns.sum) h
    | _ => .bad := by
  simp only [fSum, lstOf]
  rcases h[n]? with _ | ⟨_ | _ | _ | _ | _⟩ <;> simp only [Option.bind_some, Option.bind_none]
  · cases intsD _ <;> rfl
@[simp] theorem fAll_ref : fAll [.ref n] h = match h[n]? with
    | some (.lst xs) => ofO ((blsD xs).map fun ns => .bl (ns.all id)) h
    | _ => .bad := by
  simp only [fAll, lstOf]
  rcases h[n]? with _ | ⟨_ | _ | _ | _ | _⟩ <;> simp only [Option.bind_some, Option.bind_none]
  · cases blsD _ <;> rfl
@[simp] theorem fAny_ref : fAny [.ref n] h = match h[n]? with
    | some (.lst xs) => ofO ((blsD xs).map fun ns => .bl (ns.any id)) h
    | _ => .bad := by
  simp only [fAny, lstOf]
  rcases h[n]? with _ | ⟨_ | _ | _ | _ | _⟩ <;> simp only [Option.bind_some, Option.bind_none]
  · cases blsD _ <;> rfl
@[simp] theorem fMaxL_ref : fMaxL [.ref n] h = match h[n]? with
    | some (.lst xs) => (match intsD xs with
      | some (i :: is) => .ok (.int (is.foldl (fun a b => if b > a then b else a) i)) h
      | _ => .bad)
    | _ => .bad := by
  simp only [fMaxL, lstOf]
  rcases h[n]? with _ | ⟨_ | _ | _ | _ | _⟩ <;> rfl
@[simp] theorem fSortA_ref : fSortA [.ref n] h = match h[n]? with
    | some (.lst xs) => (match strsD xs with
      | some ss => if ss.length < 64 then .ok (.ref h.length) (h ++ [.lst ((sortS ss).map .str)]) else .bad
      | none => .bad)
    | some (.dic kvs) => (match strsD (keysOf keyV kvs) with
      | some ss => if ss.length < 64 then .ok (.ref h.length) (h ++ [.lst ((sortS ss).map .str)]) else .bad
      | none => .bad)
    | _ => .bad := by
  simp only [fSortA, fSortS, fSortK, lstOf]
  rcases h[n]? with _ | ⟨_ | _ | _ | _ | _⟩ <;> rfl
@[simp] theorem keysAt_ref : keysAt (.ref n) h = match h[n]? with
    | some (.dic kvs) => some (n, keysOf keyV kvs)
    | some (.dct kvs) => some (n, keysOf (fun ks => .tup (ks.map keyV)) kvs)
    | _ => none := rfl
@[simp] theorem uIsi_non (ts : List String) : uIsi ts .non h = .ok (.bl (isB "NoneType" ts)) h := rfl
@[simp] theorem uIsi_bl (ts : List String) (b : Bool) : uIsi ts (.bl b) h = .ok (.bl (isB "bool" ts)) h := rfl
@[simp] theorem uIsi_int (ts : List String) : uIsi ts (.int i) h = .ok (.bl (isB "int" ts)) h := rfl
@[simp] theorem uIsi_str (ts : List String) : uIsi ts (.str s) h = .ok (.bl (isB "str" ts)) h := rfl
@[simp] theorem uIsi_tup (ts : List String) : uIsi ts (.tup xs) h = .ok (.bl (isB "tuple" ts)) h := rfl
@[simp] theorem uIsi_ref (ts : List String) : uIsi ts (.ref n) h = match h[n]? with
    | some (.lst _) => .ok (.bl (isB "list" ts)) h
    | some (.dic _) => .ok (.bl (isB "dict" ts)) h
    | _ => .bad := by
  simp only [uIsi, tyD]
  rcases h[n]? with _ | ⟨_ | _ | _ | _ | _⟩ <;> rfl
@[simp] theorem gTupX_tup (r : GsX) (ρ : Rho) : gTupX n r (.tup xs) ρ L h = if xs.length = n then r xs ρ L h else .bad := rfl
@[simp] theorem gsCons_x (g : GX) (r : GsX) (ρ : Rho) : gsCons g r (d :: ds) ρ L h = (g d ρ L h).bind fun ρ' h' => (r ds ρ' L h').noExc := rfl
@[simp] theorem gsNil_x (ρ : Rho) : gsNil [] ρ L h = .ok ρ h := rfl
@[simp] theorem forD_tup (g : GX) (b : SX) (ρ : Rho) : forD g b (.tup xs) ρ L h = loopV g b xs ρ L h := rfl
@[simp] theorem forD_str (g : GX) (b : SX) (ρ : Rho) : forD g b (.str z) ρ L h = loopV g b (strsOf z) ρ L h := rfl
@[simp] theorem forD_ref (g : GX) (b : SX) (ρ : Rho) : forD g b (.ref n) ρ L h = loopL g b n fuel 0 ρ L h := rfl
@[simp] theorem compD_tup (g : GX) (tt : TX) (te : EX) (ρ : Rho) : compD g tt te (.tup xs) ρ L h = compV g tt te h.length xs ρ L (h ++ [.lst []]) := rfl
@[simp] theorem compD_ref (g : GX) (tt : TX) (te : EX) (ρ : Rho) : compD g tt te (.ref n) ρ L h = compL g tt te h.length n fuel 0 ρ L (h ++ [.lst []]) := rfl
@[simp] theorem wipe_nil (ρ : Rho) : wipeR ρ [] = ρ := rfl
@[simp] theorem wipe_cons (ρ : Rho) (v : Nat) (vs : List Nat) : wipeR ρ (v :: vs) = (wipeR ρ vs).set v none := rfl
theorem Ev_bodyX (b : SX) (q : Kn D) : @Ev D (bodyX n b ds L h) q x = @Sv (b (ds.map some ++ List.replicate (n - ds.length) none) L h) ⟨fun _ h => @Ev D (.ok .non h) q x, fun d h => @Ev D (.ok d h) q x, fun c p _ h => @Ev D (.exc c p h) q x, fun _ _ => False, fun _ _ => False⟩ := Ev_fin _ _
@[simp] theorem slD_tup (lo hi : Option Int) : slD (.tup xs) lo hi h = .ok (.tup (cutD xs lo hi)) h := rfl
@[simp] theorem slD_ref (lo hi : Option Int) : slD (.ref n) lo hi h = match h[n]? with
    | some (.lst xs) => .ok (.ref h.length) (h ++ [.lst (cutD xs lo hi)])
    | _ => .bad := by
  simp only [slD, lstOf]
  rcases h[n]? with _ | ⟨_ | _ | _ | _ | _⟩ <;> rfl
end
@[simp] theorem cutD_1 {α : Type} (a : α) (r : List α) : cutD (a :: r) (some 1) none = r := by
  have e : HT.sIx (a :: r).length 0 (some 1) = 1 := by
    have := HT.sIx_nat (a :: r).length 0 1
    rw [show ((1 : Nat) : Int) = 1 from rfl] at this
    rw [this]
    simp
  unfold cutD
  rw [e, HT.sIx_none]
  simp
@[simp] theorem sizeLine_eq : sizeLine = 16777216 := by decide +kernel
theorem lt_sz {n : Nat} (h : n < 16777216) : n < sizeLine := by rw [sizeLine_eq]; exact h
section
variable {α : Type} {g : GX} {b : SX} {L : List Nat} {f : α → D} {ρ : Rho} {h : Hh}
@[simp ↓] theorem Sv_turn (i : Nat) (x : D) (k : Ks) : @Sv (turn (gVar i) b x ρ L h) k = @Sv (b (ρ.set i (some x)) L h) k := propext ⟨id, id⟩
@[simp ↓] theorem turn_tup (n : Nat) (r : GsX) (x : D) (k : Ks) : @Sv (turn (gTupX n r) b x ρ L h) k = @Ev Rho (gTupX n r x ρ L h) ⟨fun ρ1 h1 => @Sv (b ρ1 L h1) k⟩ ⟨fun c p h => @Sv (.exc c p ρ h) k⟩ := Sv_toS _ _ _
theorem lpV_go {N : Rho → Hh → Prop} {T : D → Hh → Prop} {X : Nat → Option D → Rho → Hh → Prop} {B C : Rho → Hh → Prop} {P : List α → Rho → Hh → Prop} {as : List α}
    (step : ∀ pre a post ρ h, as = pre ++ a :: post → P pre ρ h → @Sv (turn g b (f a) ρ L h) ⟨fun ρ h => @Stop ⟨P (pre ++ [a]) ρ h⟩, T, X, N, fun ρ h => @Stop ⟨P (pre ++ [a]) ρ h⟩⟩) (fin : ∀ ρ h, P as ρ h → N ρ h) :
    ∀ (post pre : List α) (ρ : Rho) (h : Hh), as = pre ++ post → P pre ρ h → @Sv (loopV g b (post.map f) ρ L h) ⟨N, T, X, B, C⟩
  | [], pre, ρ, h, e, p => by
    rw [List.append_nil] at e
    subst e
    exact fin ρ h p
  | a :: post, pre, ρ, h, e, p => by
    have st := step pre a post ρ h e p
    have r := fun ρ h q => lpV_go (B := B) (C := C) step fin post (pre ++ [a]) ρ h (by rw [e]; simp) q
    unfold turn at st
    rw [List.map_cons]
    unfold loopV
    generalize (g (f a) ρ L h).toS ρ (fun ρ1 h1 => b ρ1 L h1) = t at st
    cases t with
    | nx ρ2 h2 => exact r ρ2 h2 st
    | cnt ρ2 h2 => exact r ρ2 h2 st
    | brk ρ2 h2 => exact st
    | ret d h2 => exact st
    | exc c q ρ2 h2 => exact st
    | bad => exact st
/-- a loop over items that stand still, by what holds behind each row of them -/
theorem lpV {N : Rho → Hh → Prop} {T : D → Hh → Prop} {X : Nat → Option D → Rho → Hh → Prop} {B C : Rho → Hh → Prop} (P : List α → Rho → Hh → Prop) {as : List α} {xs : List D} (hx : xs = as.map f) (p : P [] ρ h)
    (step : ∀ pre a post ρ h, as = pre ++ a :: post → P pre ρ h → @Sv (turn g b (f a) ρ L h) ⟨fun ρ h => @Stop ⟨P (pre ++ [a]) ρ h⟩, T, X, N, fun ρ h => @Stop ⟨P (pre ++ [a]) ρ h⟩⟩) (fin : ∀ ρ h, P as ρ h → N ρ h) : @Sv (loopV g b xs ρ L h) ⟨N, T, X, B, C⟩ := by
  subst hx
  exact lpV_go step fin as [] ρ h rfl p
theorem lpL_go {n : Nat} {N : Rho → Hh → Prop} {T : D → Hh → Prop} {X : Nat → Option D → Rho → Hh → Prop} {B C : Rho → Hh → Prop} {P : List α → Rho → Hh → Prop} {as : List α}
    (hn : ∀ pre ρ h, P pre ρ h → h[n]? = some (.lst (as.map f)))
    (step : ∀ pre a post ρ h, as = pre ++ a :: post → P pre ρ h → @Sv (turn g b (f a) ρ L h) ⟨fun ρ h => @Stop ⟨P (pre ++ [a]) ρ h⟩, T, X, N, fun ρ h => @Stop ⟨P (pre ++ [a]) ρ h⟩⟩) (fin : ∀ ρ h, P as ρ h → N ρ h) :
    ∀ (fu : Nat) (post pre : List α) (ρ : Rho) (h : Hh), post.length < fu → as = pre ++ post → P pre ρ h → @Sv (loopL g b n fu pre.length ρ L h) ⟨N, T, X, B, C⟩
  | 0, post, pre, ρ, h, l, e, p => by omega
  | fu + 1, post, pre, ρ, h, l, e, p => by
    unfold loopL
    simp only [hn pre ρ h p]
    cases post with
    | nil =>
      rw [List.append_nil] at e
      subst e
      rw [List.getElem?_eq_none (by rw [List.length_map]; exact Nat.le_refl _)]
      exact fin ρ h p
    | cons a post =>
      have st := step pre a post ρ h e p
      have r := fun ρ h q => lpL_go (B := B) (C := C) hn step fin fu post (pre ++ [a]) ρ h (by rw [List.length_cons] at l; omega) (by rw [e]; simp) q
      unfold turn at st
      have g1 : (as.map f)[pre.length]? = some (f a) := by rw [e]; simp
      rw [g1]
      simp only
      rw [List.length_append] at r
      generalize (g (f a) ρ L h).toS ρ (fun ρ1 h1 => b ρ1 L h1) = t at st
      cases t with
      | nx ρ2 h2 => exact r ρ2 h2 st
      | cnt ρ2 h2 => exact r ρ2 h2 st
      | brk ρ2 h2 => exact st
      | ret d h2 => exact st
      | exc c q ρ2 h2 => exact st
      | bad => exact st
/-- a loop over a list of the heap that stays -/
theorem lpL {n : Nat} {N : Rho → Hh → Prop} {T : D → Hh → Prop} {X : Nat → Option D → Rho → Hh → Prop} {B C : Rho → Hh → Prop} (P : List α → Rho → Hh → Prop) {as : List α} (f : α → D) (hl : as.length < 100000) (p : P [] ρ h)
    (hn : ∀ pre ρ h, P pre ρ h → h[n]? = some (.lst (as.map f)))
    (step : ∀ pre a post ρ h, as = pre ++ a :: post → P pre ρ h → @Sv (turn g b (f a) ρ L h) ⟨fun ρ h => @Stop ⟨P (pre ++ [a]) ρ h⟩, T, X, N, fun ρ h => @Stop ⟨P (pre ++ [a]) ρ h⟩⟩) (fin : ∀ ρ h, P as ρ h → N ρ h) : @Sv (loopL g b n fuel 0 ρ L h) ⟨N, T, X, B, C⟩ :=
  lpL_go hn step fin fuel as [] ρ h (by unfold fuel; exact hl) rfl p
end
/-- nothing that stands is changed -/
def Gr (h h' : Hh) : Prop := ∃ os, h' = h ++ os
theorem Gr.refl {h : Hh} : Gr h h := ⟨[], (List.append_nil h).symm⟩
theorem Gr.trans {h h1 h2 : Hh} (a : Gr h h1) (c : Gr h1 h2) : Gr h h2 := by
  obtain ⟨o, rfl⟩ := a
  obtain ⟨q, rfl⟩ := c
  exact ⟨o ++ q, List.append_assoc ..⟩
theorem Gr.app {h : Hh} {os : List Ob} : Gr h (h ++ os) := ⟨os, rfl⟩
theorem Gr.len {h h1 : Hh} (a : Gr h h1) : h.length ≤ h1.length := by obtain ⟨o, rfl⟩ := a; rw [List.length_append]; omega
theorem lt_of {h : Hh} {n : Nat} {o : Ob} (e : h[n]? = some o) : n < h.length := (List.getElem?_eq_some_iff.mp e).1
theorem Gr.get {h h1 : Hh} {n : Nat} {o : Ob} (a : Gr h h1) (e : h[n]? = some o) : h1[n]? = some o := by
  obtain ⟨os, rfl⟩ := a
  rw [List.getElem?_append_left (lt_of e)]
  exact e
theorem Gr.put {h h1 : Hh} {n : Nat} {o : Ob} (a : Gr h h1) (hn : h.length ≤ n) : Gr h (h1.set n o) := by
  obtain ⟨os, rfl⟩ := a
  exact ⟨_, List.set_append_right _ _ hn⟩
/-- nothing that stands is changed but the bag of draws -/
structure Bx (h h' : Hh) : Prop where
  len : h.length ≤ h'.length
  get' : ∀ n, n ≠ 3 → n < h.length → h'[n]? = h[n]?
  bag : Bag h 3 2 → Bag h' 3 2
theorem Bx.trans {h h1 h2 : Hh} (a : Bx h h1) (c : Bx h1 h2) : Bx h h2 := ⟨Nat.le_trans a.len c.len, fun n h1 h2 => (c.get' n h1 (Nat.lt_of_lt_of_le h2 a.len)).trans (a.get' n h1 h2), fun z => c.bag (a.bag z)⟩
theorem Gr.bx {h h1 : Hh} (a : Gr h h1) : Bx h h1 := by
  obtain ⟨os, rfl⟩ := a
  exact ⟨by rw [List.length_append]; omega, fun n _ h2 => List.getElem?_append_left h2, fun z => z.app⟩
theorem Bx.app {h : Hh} {os : List Ob} : Bx h (h ++ os) := Gr.app.bx
theorem Bx.get {h h1 : Hh} {n : Nat} {o : Ob} (a : Bx h h1) (hn : n ≠ 3) (e : h[n]? = some o) : h1[n]? = some o := (a.get' n hn (lt_of e)).trans e
theorem Bx.put {h h1 : Hh} {n : Nat} {o : Ob} (a : Bx h h1) (l3 : 3 < h.length) (hn : h.length ≤ n) : Bx h (h1.set n o) := ⟨by rw [List.length_set]; exact a.len, fun k h2 h3 => by rw [List.getElem?_set_ne (by omega)]; exact a.get' k h2 h3, fun z => (a.bag z).put (by omega) (by omega)⟩
/-- a way in which heaps go on: what a comprehension asks of it -/
structure Rlx (r : Hh → Hh → Prop) (h0 : Hh) : Prop where
  refl : ∀ h, r h h
  trans : ∀ {h h1 h2}, r h h1 → r h1 h2 → r h h2
  app : ∀ h os, r h (h ++ os)
  put : ∀ {h1 n o}, r h0 h1 → h0.length ≤ n → r h0 (h1.set n o)
  get : ∀ {h h1 n o}, r h h1 → h0.length ≤ n → h[n]? = some o → h1[n]? = some o
theorem rl_gr (h0 : Hh) : Rlx Gr h0 := ⟨fun _ => Gr.refl, Gr.trans, fun _ _ => Gr.app, Gr.put, fun a _ e => a.get e⟩
/-- what comes of items: each one gives what Y says, or nothing where N says so -/
def Comp {α : Type} (Y : α → D → Prop) (N : α → Prop) : List α → List D → Prop
  | [], ys => ys = []
  | a :: as, ys => (N a ∧ Comp Y N as ys) ∨ ∃ y ys', ys = y :: ys' ∧ Y a y ∧ Comp Y N as ys'
theorem Comp.len {α : Type} {Y : α → D → Prop} {N : α → Prop} : ∀ {as : List α} {ys : List D}, Comp Y N as ys → ys.length ≤ as.length
  | [], ys, c => by
    have : ys = [] := c
    subst this; exact Nat.le_refl _
  | a :: as, ys, c => by
    rcases c with ⟨_, c⟩ | ⟨y, ys', rfl, _, c⟩
    · have := c.len; rw [List.length_cons]; omega
    · have := c.len; rw [List.length_cons, List.length_cons]; omega
theorem Comp.snoc {α : Type} {Y : α → D → Prop} {N : α → Prop} : ∀ {as : List α} {ys : List D} {a : α} {y : D}, Comp Y N as ys → Y a y → Comp Y N (as ++ [a]) (ys ++ [y])
  | [], ys, a, y, c, e => by
    have : ys = [] := c
    subst this; exact .inr ⟨y, [], rfl, e, rfl⟩
  | _ :: as, ys, a, y, c, e => by
    rcases c with ⟨n, c⟩ | ⟨z, ys', rfl, w, c⟩
    · exact .inl ⟨n, c.snoc e⟩
    · exact .inr ⟨z, _, rfl, w, c.snoc e⟩
theorem Comp.skip {α : Type} {Y : α → D → Prop} {N : α → Prop} : ∀ {as : List α} {ys : List D} {a : α}, Comp Y N as ys → N a → Comp Y N (as ++ [a]) ys
  | [], ys, a, c, e => .inl ⟨e, c⟩
  | _ :: as, ys, a, c, e => by
    rcases c with ⟨n, c⟩ | ⟨z, ys', rfl, w, c⟩
    · exact .inl ⟨n, c.skip e⟩
    · exact .inr ⟨z, _, rfl, w, c.skip e⟩
theorem Comp.map {α : Type} {m : α → D} : ∀ {as : List α} {ys : List D}, Comp (fun a y => y = m a) (fun _ => False) as ys → ys = as.map m
  | [], ys, c => c
  | _ :: as, ys, c => by
    rcases c with ⟨n, c⟩ | ⟨z, ys', rfl, rfl, c⟩
    · exact n.elim
    · rw [c.map]; rfl
theorem Comp.rel {α β : Type} {q : β → D} {G : α → β → Prop} {Y : α → D → Prop} (hy : ∀ a y, Y a y → ∃ b, y = q b ∧ G a b) : ∀ {as : List α} {ys : List D}, Comp Y (fun _ => False) as ys → ∃ bs : List β, ys = bs.map q ∧ bs.length = as.length ∧ ∀ (i : Nat) a b, as[i]? = some a → bs[i]? = some b → G a b
  | [], ys, c => ⟨[], c, rfl, fun i a b h => by simp at h⟩
  | a :: as, ys, c => by
    rcases c with ⟨n, c⟩ | ⟨z, ys', rfl, w, c⟩
    · exact n.elim
    · obtain ⟨b, rfl, gb⟩ := hy _ _ w
      obtain ⟨bs, rfl, l, p⟩ := c.rel hy
      refine ⟨b :: bs, rfl, by rw [List.length_cons, List.length_cons, l], fun i a' b' h1 h2 => ?_⟩
      cases i with
      | zero =>
        simp only [List.getElem?_cons_zero, Option.some.injEq] at h1 h2
        subst h1 h2; exact gb
      | succ i => exact p i a' b' h1 h2
section
variable {α : Type} {g : GX} {tt : TX} {te : EX} {L : List Nat} {f : α → D} {ρ : Rho} {h0 : Hh} {r : Hh → Hh → Prop} {Y : α → D → Prop} {N : α → Prop} {x : Kx}
/-- one item -/
def Item (r : Hh → Hh → Prop) (Y : α → D → Prop) (N : α → Prop) (g : GX) (tt : TX) (te : EX) (L : List Nat) (ρ : Rho) (d : D) (a : α) (h1 : Hh) : Prop :=
  @Ev Rho (g d ρ L h1) ⟨fun ρ1 h2 => @Et (tt ρ1 L h2) ⟨fun h3 => @Ev D (te ρ1 L h3) ⟨fun y h4 => @Stop ⟨r h1 h4 ∧ Y a y⟩⟩ nox⟩ ⟨fun h3 => @Stop ⟨r h1 h3 ∧ N a⟩⟩ nox⟩ nox
theorem Item.ex {d : D} {a : α} {h1 : Hh} (i : Item r Y N g tt te L ρ d a h1) : ∃ ρ1 h2, g d ρ L h1 = .ok ρ1 h2 ∧ ((∃ h3, tt ρ1 L h2 = .ok false h3 ∧ r h1 h3 ∧ N a) ∨ ∃ h3 y h4, tt ρ1 L h2 = .ok true h3 ∧ te ρ1 L h3 = .ok y h4 ∧ r h1 h4 ∧ Y a y) := by
  obtain ⟨ρ1, h2, e, p⟩ : ∃ ρ1 h2, g d ρ L h1 = .ok ρ1 h2 ∧ @Et (tt ρ1 L h2) ⟨fun h3 => @Ev D (te ρ1 L h3) ⟨fun y h4 => @Stop ⟨r h1 h4 ∧ Y a y⟩⟩ nox⟩ ⟨fun h3 => @Stop ⟨r h1 h3 ∧ N a⟩⟩ nox := by
    unfold Item at i
    generalize g d ρ L h1 = t at i
    cases t with
    | ok a h => exact ⟨a, h, rfl, i⟩
    | exc c p h => exact False.elim i
    | bad => exact False.elim i
  refine ⟨ρ1, h2, e, ?_⟩
  generalize tt ρ1 L h2 = t at p ⊢
  cases t with
  | ok b h3 =>
    cases b with
    | true =>
      obtain ⟨y, h4, e2, p⟩ := Ok.ex p
      exact .inr ⟨h3, y, h4, rfl, e2, p⟩
    | false => exact .inl ⟨h3, rfl, p⟩
  | exc c q h3 => exact False.elim p
  | bad => exact False.elim p
theorem cpV0 {Q : D → Hh → Prop} (r : Hh → Hh → Prop) (HR : Rlx r h0) (Y : α → D → Prop) (N : α → Prop) {as : List α} {xs : List D} (f : α → D) (hx : xs = as.map f) (hl : as.length ≤ 16777216)
    (step : ∀ a ∈ as, ∀ h1, r h0 h1 → Item r Y N g tt te L ρ (f a) a h1)
    (fin : ∀ ys h1, r h0 h1 → h1[h0.length]? = some (.lst ys) → Comp Y N as ys → Q (.ref h0.length) h1) : @Ev D (compV g tt te h0.length xs ρ L (h0 ++ [.lst []])) ⟨Q⟩ x := by
  subst hx
  have go : ∀ (post pre : List α) (acc : List D) (h1 : Hh), as = pre ++ post → r h0 h1 → h1[h0.length]? = some (.lst acc) → Comp Y N pre acc → @Ev D (compV g tt te h0.length (post.map f) ρ L h1) ⟨Q⟩ x := by
    intro post
    induction post with
    | nil =>
      intro pre acc h1 e r1 e1 c
      rw [List.append_nil] at e
      subst e
      exact fin acc h1 r1 e1 c
    | cons a post ih =>
      intro pre acc h1 e r1 e1 c
      obtain ⟨ρ1, h2, e2, ⟨h3, e3, r3, n3⟩ | ⟨h3, y, h4, e3, e4, r4, y4⟩⟩ := (step a (by rw [e]; simp) h1 r1).ex
      · rw [List.map_cons]
        unfold compV
        simp only [e2, R.noExc_ok, R.bind_ok, e3]
        exact ih (pre ++ [a]) acc h3 (by rw [e]; simp) (HR.trans r1 r3) (HR.get r3 (Nat.le_refl _) e1) (c.skip n3)
      · rw [List.map_cons]
        unfold compV
        have e5 := HR.get r4 (Nat.le_refl _) e1
        have la : acc.length < sizeLine := lt_sz (by
          have := c.len
          have : pre.length < as.length := by rw [e]; simp
          omega)
        simp only [e2, R.noExc_ok, R.bind_ok, e3, if_true, e4, e5, if_pos la]
        exact ih (pre ++ [a]) _ _ (by rw [e]; simp) (HR.put (HR.trans r1 r4) (Nat.le_refl _)) (List.getElem?_set_self (lt_of e5)) (c.snoc y4)
  exact go as [] [] _ rfl (HR.app _ _) (by simp) rfl
theorem cpV {Q : D → Hh → Prop} (h0 : Hh) (r : Hh → Hh → Prop) (HR : Rlx r h0) (Y : α → D → Prop) (N : α → Prop) {as : List α} {xs : List D} (f : α → D) (hx : xs = as.map f) (hl : as.length ≤ 16777216)
    (step : ∀ a ∈ as, ∀ h1, r h0 h1 → Item r Y N g tt te L ρ (f a) a h1)
    (fin : ∀ ys h1, r h0 h1 → h1[h0.length]? = some (.lst ys) → Comp Y N as ys → Q (.ref h0.length) h1) {n0 : Nat} {hh : Hh} (en : n0 = h0.length := by simp) (eh : hh = h0 ++ [.lst []] := by simp) : @Ev D (compV g tt te n0 xs ρ L hh) ⟨Q⟩ x := by
  subst en eh
  exact cpV0 r HR Y N f hx hl step fin
/-- what a choice of items comes to -/
theorem Comp.sub {β : Type} {q : β → D} {G : α → β → Prop} (hy : ∀ a y, Y a y → ∃ b, y = q b ∧ G a b) : ∀ {as : List α} {ys : List D}, Comp Y N as ys → ∃ bs : List β, ys = bs.map q ∧ bs.length ≤ as.length ∧ (∀ b ∈ bs, ∃ a ∈ as, G a b) ∧ ∀ a ∈ as, N a ∨ ∃ b ∈ bs, G a b
  | [], ys, c => ⟨[], c, Nat.le_refl _, fun b hb => (nomatch hb), fun b hb => (nomatch hb)⟩
  | a :: as, ys, c => by
    rcases c with ⟨n, c⟩ | ⟨z, ys', rfl, w, c⟩
    · obtain ⟨bs, rfl, l, p1, p2⟩ := c.sub hy
      refine ⟨bs, rfl, Nat.le_succ_of_le l, fun b hb => ?_, fun a' ha => ?_⟩
      · obtain ⟨a', h1, h2⟩ := p1 b hb
        exact ⟨a', List.mem_cons_of_mem _ h1, h2⟩
      · rcases List.mem_cons.mp ha with rfl | ha
        · exact .inl n
        · exact p2 a' ha
    · obtain ⟨b, rfl, gb⟩ := hy _ _ w
      obtain ⟨bs, rfl, l, p1, p2⟩ := c.sub hy
      refine ⟨b :: bs, rfl, Nat.succ_le_succ l, fun b' hb => ?_, fun a' ha => ?_⟩
      · rcases List.mem_cons.mp hb with rfl | hb
        · exact ⟨a, List.mem_cons_self, gb⟩
        · obtain ⟨a', h1, h2⟩ := p1 b' hb
          exact ⟨a', List.mem_cons_of_mem _ h1, h2⟩
      · rcases List.mem_cons.mp ha with rfl | ha
        · exact .inr ⟨b, List.mem_cons_self, gb⟩
        · rcases p2 a' ha with z | ⟨b', h1, h2⟩
          · exact .inl z
          · exact .inr ⟨b', List.mem_cons_of_mem _ h1, h2⟩
end
@[simp] theorem eDic0_x (ρ : Rho) (L : List Nat) (h : Hh) : eDic0 ρ L h = .ok (.ref h.length) (h ++ [.dic []]) := rfl
@[simp] theorem eDct0_x (ρ : Rho) (L : List Nat) (h : Hh) : eDct0 ρ L h = .ok (.ref h.length) (h ++ [.dct []]) := rfl
theorem Br.yes {p a b : Prop} (h : p) (ha : a) : @Br p ⟨a⟩ ⟨b⟩ := ⟨fun _ => ha, fun z => absurd h z⟩
theorem Br.no {p a b : Prop} (h : ¬ p) (hb : b) : @Br p ⟨a⟩ ⟨b⟩ := ⟨fun z => absurd z h, fun _ => hb⟩
@[simp] theorem bMulL_x (n : Nat) (k : Int) (h : Hh) : bMulL (.ref n) (.int k) h = match h[n]? with
    | some (.lst xs) => if 0 ≤ k ∧ k < 2 ^ 31 ∧ xs.length * k.toNat ≤ sizeLine then .ok (.ref h.length) (h ++ [.lst (List.replicate k.toNat xs).flatten]) else .bad
    | _ => .bad := rfl
section
variable {ρ : Rho} {L : List Nat} {h : Hh} {n : Rho → Hh → Prop} {t : D → Hh → Prop} {e : Nat → Option D → Rho → Hh → Prop} {b c : Rho → Hh → Prop}
@[simp ↓] theorem Sv_sTry (m : Nat) (s : SX) (hs : List Hd) : @Sv (sTry m s hs ρ L h) ⟨n, t, e, b, c⟩ = @Sv (s ρ L h) ⟨n, t, fun c' p ρ' h' => @Br (c' < m) ⟨@Sv (catch_ hs c' p ρ' L h') ⟨n, t, e, b, c⟩⟩ ⟨False⟩, b, c⟩ := by
  unfold sTry
  cases s ρ L h with
  | exc c' p ρ' h' =>
    show @Sv (if c' < m then catch_ hs c' p ρ' L h' else .bad) ⟨n, t, e, b, c⟩ = _
    rw [Sv_ite, Sv_bad]
    exact propext ⟨id, id⟩
  | _ => exact propext ⟨id, id⟩
@[simp ↓] theorem Sv_catch_nil (c' : Nat) (p : Option D) (k : Ks) : @Sv (catch_ [] c' p ρ L h) k = @Sv (.exc c' p ρ h) k := propext ⟨id, id⟩
@[simp ↓] theorem Sv_catch_cons (c' : Nat) (p : Option D) (x : Hd) (xs : List Hd) (k : Ks) : @Sv (catch_ (x :: xs) c' p ρ L h) k = @Br (x.is c' = true) ⟨@Sv (x.run c' p ρ L h) k⟩ ⟨@Sv (catch_ xs c' p ρ L h) k⟩ := by
  show @Sv ((if x.is c' then x.run c' p else catch_ xs c' p) ρ L h) k = _
  cases x.is c' with
  | true => simp
  | false => simp
@[simp ↓] theorem Sv_hd_some (is : Nat → Bool) (i : Nat) (su : Nat → Option D → SX) (c' : Nat) (p : Option D) : @Sv (Hd.run ⟨is, some i, su⟩ c' p ρ L h) ⟨n, t, e, b, c⟩ = @Br (i < ρ.length) ⟨@Sv (su c' p (ρ.set i none) L h) ⟨fun ρ h => n (ρ.set i none) h, t, fun _ _ _ _ => False, fun ρ h => b (ρ.set i none) h, fun ρ h => c (ρ.set i none) h⟩⟩ ⟨False⟩ := by
  unfold Hd.run
  simp only [Sv_ite, Sv_bad]
  congr 2
  cases su c' p (ρ.set i none) L h <;> exact propext ⟨id, id⟩
@[simp ↓] theorem Sv_hd_none (is : Nat → Bool) (su : Nat → Option D → SX) (c' : Nat) (p : Option D) : @Sv (Hd.run ⟨is, none, su⟩ c' p ρ L h) ⟨n, t, e, b, c⟩ = @Sv (su c' p ρ L h) ⟨n, t, fun _ _ _ _ => False, b, c⟩ := Sv_noExc _ _ _ _ _ _
@[simp ↓] theorem Sv_sSt (i : Nat) (a : EX) (s : SX) (k : Ks) : @Sv (sSt i a s ρ L h) k = @Ev D (a ρ L h) ⟨fun d h1 => @Sv (s (ρ.set i (some d)) L h1) k⟩ ⟨fun c p h => @Sv (.exc c p ρ h) k⟩ := Sv_toS _ _ _
@[simp ↓] theorem Ev_eXf (cs : List Nat) (c' : Nat) (p : Option D) (q : Kn D) (x : Kx) : @Ev D (eXf cs c' p ρ L h) q x = @Br (c' ∈ cs) ⟨@Om D p ⟨fun d => @Ev D (.ok d h) q x⟩⟩ ⟨False⟩ := by
  unfold eXf
  simp only [Ev_ite, Ev_bad]
  congr 2
  cases p <;> exact propext ⟨id, id⟩
@[simp ↓] theorem Ev_eXi (cs : List Nat) (is : Nat → Bool) (c' : Nat) (q : Kn D) (x : Kx) : @Ev D (eXi cs is c' ρ L h) q x = @Br (c' ∈ cs) ⟨@Ev D (.ok (.bl (is c')) h) q x⟩ ⟨False⟩ := by
  unfold eXi
  rw [Ev_ite, Ev_bad]
end
section
variable {ρ : Rho} {L : List Nat} {h : Hh} {x : Kx}
@[simp ↓] theorem Ev_pairs_nil (q : Kn (List (D × D))) : @Ev _ (pairsX [] ρ L h) q x = @Ev _ (.ok [] h) q x := propext ⟨id, id⟩
@[simp ↓] theorem Ev_pairs_cons (a : EX × EX) (r : List (EX × EX)) (q : Kn (List (D × D))) : @Ev _ (pairsX (a :: r) ρ L h) q x = @Ev D (a.1 ρ L h) ⟨fun k h1 => @Ev D (a.2 ρ L h1) ⟨fun v h2 => @Ev _ (pairsX r ρ L h2) ⟨fun ps h3 => @Ev _ (.ok ((k, v) :: ps) h3) q x⟩ x⟩ x⟩ x := by
  show @Ev _ (R.bind _ _) q x = _
  rw [Ev_bind]
  refine Ev_cong fun k h1 => ?_
  rw [Ev_bind]
  refine Ev_cong fun v h2 => ?_
  rw [Ev_bind]
@[simp ↓] theorem Ev_eDisp (ps : List (EX × EX)) (q : Kn D) : @Ev D (eDisp ps ρ L h) q x = @Ev _ (pairsX ps ρ L (h ++ [.dic []])) ⟨fun qs h2 => @Ev D (match h2[h.length]? with
  | some (.dic []) => (match kvsD qs with
    | some kvs => if kvs.length ≤ 15 then .ok (.ref h.length) (h2.set h.length (.dic (mergeD [] kvs))) else .bad
    | none => .bad)
  | _ => .bad) q x⟩ x := Ev_bind _ _ _
end
@[simp] theorem rng1_2 : rng1 [.int 2] = some [.int 0, .int 1] := rfl
@[simp] theorem rng1_3 : rng1 [.int 3] = some [.int 0, .int 1, .int 2] := rfl
@[simp] theorem rng1_4 : rng1 [.int 4] = some [.int 0, .int 1, .int 2, .int 3] := rfl
@[simp] theorem rng1_5 : rng1 [.int 5] = some [.int 0, .int 1, .int 2, .int 3, .int 4] := rfl
@[simp] theorem rng1_6 : rng1 [.int 6] = some [.int 0, .int 1, .int 2, .int 3, .int 4, .int 5] := rfl
@[simp] theorem strsD_mapS (ss : List Str) : strsD (ss.map D.str) = some ss := strsD_map ss
@[simp] theorem strsD_mapF {α : Type} (f : α → Str) (as : List α) : strsD (as.map fun a => .str (f a)) = some (as.map f) := by
  rw [← strsD_map (as.map f), List.map_map]; rfl
@[simp] theorem strsD_mapC {α : Type} (f : α → Str) (as : List α) : strsD (as.map (D.str ∘ f)) = some (as.map f) := strsD_mapF f as
@[simp] theorem bNotIn_rs (s : Str) (n : Nat) (h : Hh) : bNotIn (.str s) (.ref n) h = match h[n]? with
    | some (.dic kvs) => .ok (.bl (!(valD kvs (.inr s)).isSome)) h
    | some (.lst ys) => if ys.all flatD then .ok (.bl (!(ys.any fun z => eqF z (.str s)))) h else .bad
    | _ => .bad := by
  simp only [bNotIn, inD, dGet, keyD, seqOf, lstOf, flatD]
  rcases h[n]? with _ | ⟨ys | _ | _ | _ | _⟩ <;> simp only [Bool.true_and]
  · cases ys.all flatD <;> rfl
@[simp] theorem bIn_rs (s : Str) (n : Nat) (h : Hh) : bIn (.str s) (.ref n) h = match h[n]? with
    | some (.dic kvs) => .ok (.bl (valD kvs (.inr s)).isSome) h
    | some (.lst ys) => if ys.all flatD then .ok (.bl (ys.any fun z => eqF z (.str s))) h else .bad
    | _ => .bad := by
  simp only [bIn, inD, dGet, keyD, seqOf, lstOf, flatD]
  rcases h[n]? with _ | ⟨ys | _ | _ | _ | _⟩ <;> simp only [Bool.true_and]
  · cases ys.all flatD <;> rfl
@[simp] theorem all_flat (ss : List Str) : (ss.map D.str).all flatD = true := by simp [flatD]
@[simp] theorem any_eqF (ss : List Str) (s : Str) : ((ss.map D.str).any fun z => eqF z (.str s)) = decide (s ∈ ss) := by
  rw [List.any_map]
  by_cases hm : s ∈ ss
  · rw [decide_eq_true hm]
    exact List.any_eq_true.mpr ⟨s, hm, by simp [eqF]⟩
  · rw [decide_eq_false hm]
    exact List.any_eq_false.mpr fun x hx => by
      have : x ≠ s := fun z => hm (z ▸ hx)
      simp [eqF, this]
@[simp] theorem all_flatC (ss : List Str) : ss.all (flatD ∘ D.str) = true := by simp [flatD]
@[simp] theorem any_eqFC (ss : List Str) (s : Str) : (ss.any ((fun z => eqF z (.str s)) ∘ D.str)) = decide (s ∈ ss) := by
  rw [← List.any_map]; exact any_eqF ss s
@[simp] theorem bNotIn_ts (s : Str) (xs : List D) (h : Hh) : bNotIn (.str s) (.tup xs) h = if xs.all flatD then .ok (.bl (!(xs.any fun z => eqF z (.str s)))) h else .bad := by
  simp only [bNotIn, inD, dGet, seqOf, flatD, Bool.true_and]
  cases xs.all flatD <;> rfl
@[simp] theorem bIn_ts (s : Str) (xs : List D) (h : Hh) : bIn (.str s) (.tup xs) h = if xs.all flatD then .ok (.bl (xs.any fun z => eqF z (.str s))) h else .bad := by
  simp only [bIn, inD, dGet, seqOf, flatD, Bool.true_and]
  cases xs.all flatD <;> rfl
@[simp] theorem fDict_ref (n : Nat) (h : Hh) : fDict [.ref n] h = match h[n]? with
    | some (.dic kvs) => .ok (.ref h.length) (h ++ [.dic kvs])
    | _ => .bad := rfl
theorem mem_sortS {ss : List Str} {s : Str} : s ∈ sortS ss ↔ s ∈ ss := List.mem_mergeSort
theorem len_sortS {ss : List Str} : (sortS ss).length = ss.length := List.length_mergeSort _
end Mi
end
section
namespace Mi
open PySem PySem.Spec PyProof.Rows L2
def p_is_name  : SX :=
  (sSeq (sIf ((xOr (xNot (tTru (eUn (uIsi ["str"]) (eVar 0)))) (xNot (tBl (eCh bLe bLe (eC (.int 1)) (eCB fLen (aCons (eVar 0) aNil)) (eC (.int 12))))))) (sRet (eC (.bl false))) sNil)
    (sSeq (sFor (eVar 0) (gVar 1) (sIf (tBl (eBin bNotIn (eVar 1) (eC (.str "abcdefghijklmnopqrstuvwxyz")))) (sRet (eC (.bl false))) sNil))
    (sRet (eC (.bl true)))))
def p_is_row  : SX :=
  (sRet (eUn (uIsi ["list", "tuple"]) (eVar 0)))
def p_checked_entry (f0 : FX) (f1 : FX) : SX :=
  (sSeq (sIf ((xOr (xNot (tTru (eCall 1 f0 (aCons (eVar 0) aNil)))) (tBl (eBin bNe (eCB fLen (aCons (eVar 0) aNil)) (eC (.int 2)))))) (sRet (eC .non)) sNil)
    (sSeq (sAsg (eBin bIx (eVar 0) (eC (.int 0))) (gVar 1))
    (sSeq (sAsg (eBin bIx (eVar 0) (eC (.int 1))) (gVar 2))
    (sSeq (sIf ((xOr (xNot (tTru (eCall 1 f1 (aCons (eVar 1) aNil)))) (xOr (xNot (tTru (eCall 1 f0 (aCons (eVar 2) aNil)))) (tBl (eBin bGt (eCB fLen (aCons (eVar 2) aNil)) (eC (.int 2))))))) (sRet (eC .non)) sNil)
    (sSeq (sFor (eVar 2) (gVar 3) (sIf (xNot (tTru (eCall 1 f1 (aCons (eVar 3) aNil)))) (sRet (eC .non)) sNil))
    (sRet (eTup (aCons (eVar 1) (aCons (eCB fTuple (aCons (eVar 2) aNil)) aNil)))))))))
def p_checked_operators (f0 : FX) (f1 : FX) (f2 : FX) (f3 : FX) : SX :=
  (sSeq (sIf ((xOr (xNot (tTru (eUn (uIsi ["dict"]) (eVar 0)))) (xNot (tBl (eCh bLe bLe (eC (.int 1)) (eCB fLen (aCons (eVar 0) aNil)) (eC (.int 12))))))) (sRet (eC .non)) sNil)
    (sSeq (sAsg (eListA (eVar 0)) (gVar 1))
    (sSeq (sFor (eVar 1) (gVar 2) (sIf (xNot (tTru (eCall 1 f0 (aCons (eVar 2) aNil)))) (sRet (eC .non)) sNil))
    (sSeq (sAsg (eDic0) (gVar 3))
    (sSeq (sFor (eCB fSortA (aCons (eVar 1) aNil)) (gVar 2) (sSeq (sAsg (eCall 1 f1 (aCons (eBin bIx (eVar 0) (eVar 2)) aNil)) (gVar 5))
    (sSeq (sIf (tBl (eUn uIsN (eVar 5))) (sRet (eC .non)) sNil)
    (sPut (eVar 3) (eVar 2) (eVar 5)))))
    (sSeq (sAsg (eCall 1 f2 (aCons (eVar 3) aNil)) (gVar 4))
    (sSeq (sIf ((xOr (tBl (eBin bGt (eCB fLen (aCons (eVar 4) aNil)) (eC (.int 4)))) (tBl (eBin bNe (eCB fLen (aCons (eCall 2 f3 (aCons (eVar 3) (aCons (eVar 4) aNil))) aNil)) (eCB fLen (aCons (eVar 4) aNil)))))) (sRet (eC .non)) sNil)
    (sRet (eVar 3)))))))))
def p_kinds_in  : SX :=
  (sSeq (sAsg (eLst aNil) (gVar 1))
    (sSeq (sForK (eVar 0) (gVar 2) (sSeq (sAsg (eBin bIx (eVar 0) (eVar 2)) (gTupX 2 (gsCons (gVar 4) (gsCons (gVar 5) gsNil))))
    (sFor (eBin bAdd (eTup (aCons (eVar 4) aNil)) (eVar 5)) (gVar 3) (sIf (tBl (eBin bNotIn (eVar 3) (eVar 1))) (sDrop (eApp (eVar 1) (eVar 3))) sNil))))
    (sRet (eCB fSortA (aCons (eVar 1) aNil)))))
def p_least_trees  : SX :=
  (sSeq (sAsg (eDic0) (gVar 2))
    (sSeq (sForR rng1 (aCons (eBin bAdd (eCB fLen (aCons (eVar 1) aNil)) (eC (.int 1))) aNil) (gVar 3) (sForK (eVar 0) (gVar 4) (sSeq (sAsg (eBin bIx (eVar 0) (eVar 4)) (gTupX 2 (gsCons (gVar 5) (gsCons (gVar 6) gsNil))))
    (sIf (tTru (eCB fAll (aCons (eComp [9] (eVar 6) (gVar 9) tYesX (eBin bIn (eVar 9) (eVar 2))) aNil))) (sSeq (sAsg (eBin bAdd (eC (.int 1)) (eCB fSum (aCons (eComp [9] (eVar 6) (gVar 9) tYesX (eBin bIx (eBin bIx (eVar 2) (eVar 9)) (eC (.int 0)))) aNil))) (gVar 7))
    (sSeq (sAsg (eBin bAdd (eTup (aCons (eVar 4) aNil)) (eCB fTuple (aCons (eComp [9] (eVar 6) (gVar 9) tYesX (eBin bIx (eBin bIx (eVar 2) (eVar 9)) (eC (.int 1)))) aNil))) (gVar 8))
    (sIf ((xOr (tBl (eBin bNotIn (eVar 5) (eVar 2))) (tBl (eBin bLtW (eTup (aCons (eVar 7) (aCons (eVar 8) aNil))) (eBin bIx (eVar 2) (eVar 5)))))) (sPut (eVar 2) (eVar 5) (eTup (aCons (eVar 7) (aCons (eVar 8) aNil)))) sNil))) sNil))))
    (sRet (eVar 2))))
def p_wrong_path (f0 : FX) : SX :=
  (sSeq (sIf ((xOr (tBl (eBin bGt (eVar 3) (eC (.int 200)))) (xOr (xNot (tTru (eUn (uIsi ["tuple"]) (eVar 1)))) (tBl (eBin bEq (eCB fLen (aCons (eVar 1) aNil)) (eC (.int 0))))))) (sRet (eTup aNil)) sNil)
    (sSeq (sAsg (eBin bIx (eVar 1) (eC (.int 0))) (gVar 4))
    (sSeq (sIf ((xOr (xNot (tTru (eUn (uIsi ["str"]) (eVar 4)))) (tBl (eBin bNotIn (eVar 4) (eVar 0))))) (sRet (eTup aNil)) sNil)
    (sSeq (sAsg (eBin bIx (eVar 0) (eVar 4)) (gTupX 2 (gsCons (gVar 6) (gsCons (gVar 7) gsNil))))
    (sSeq (sIf ((xOr (tBl (eBin bNe (eCB fLen (aCons (eVar 1) aNil)) (eBin bAdd (eCB fLen (aCons (eVar 7) aNil)) (eC (.int 1))))) ((xAnd (tBl (eUn uNotN (eVar 2))) (tBl (eBin bNe (eVar 6) (eVar 2))))))) (sRet (eTup aNil)) sNil)
    (sSeq (sForR rng1 (aCons (eCB fLen (aCons (eVar 7) aNil)) aNil) (gVar 5) (sSeq (sAsg (eCall 4 f0 (aCons (eVar 0) (aCons (eBin bIx (eVar 1) (eBin bAdd (eVar 5) (eC (.int 1)))) (aCons (eBin bIx (eVar 7) (eVar 5)) (aCons (eBin bAdd (eVar 3) (eC (.int 1))) aNil))))) (gVar 8))
    (sIf (tBl (eUn uNotN (eVar 8))) (sRet (eBin bAdd (eTup (aCons (eVar 5) aNil)) (eVar 8))) sNil)))
    (sRet (eC .non))))))))
def q_bag  : SX :=
  (sSeq (sAsg (eC (.int 5)) (gVar 1))
    (sSeq (sFor (eSl (eVar 0) oNo (oYes (eC (.int 63)))) (gVar 2) (sAsg (eBin bMod (eCB fInt (aCons (eBin bAdd (eBin bAdd (eBin bMul (eVar 1) (eC (.int 31))) (eBin bMod (eCB fInt (aCons (eVar 2) aNil)) (eC (.int 2147483629)))) (eC (.int 7))) aNil)) (eC (.int 2147483629))) (gVar 1)))
    (sRet (eLst (aCons (eComp [2] (eSl (eVar 0) oNo (oYes (eC (.int 63)))) (gVar 2) tYesX (eCB fInt (aCons (eVar 2) aNil))) (aCons (eC (.int 0)) (aCons (eC (.int 0)) (aCons (eC (.int 0)) (aCons (eVar 1) aNil)))))))))
def q_mixed  : SX :=
  (sSeq (sAsg (eBin bMod (eCB fInt (aCons (eBin bMul (eBin bAdd (eBin bAdd (eBin bMod (eCB fInt (aCons (eVar 0) aNil)) (eC (.int 2147483647))) (eBin bMul (eC (.int 7919)) (eVar 1))) (eC (.int 1))) (eC (.int 48271))) aNil)) (eC (.int 2147483647))) (gVar 2))
    (sSeq (sAsg (eBin bMod (eCB fInt (aCons (eBin bMul (eVar 2) (eBin bAdd (eBin bDiv (eVar 2) (eC (.int 1009))) (eC (.int 69621)))) aNil)) (eC (.int 2147483647))) (gVar 3))
    (sSeq (sAsg (eBin bMod (eCB fInt (aCons (eBin bMul (eVar 3) (eBin bAdd (eBin bDiv (eVar 3) (eC (.int 2003))) (eC (.int 40692)))) aNil)) (eC (.int 2147483399))) (gVar 4))
    (sRet (eBin bDiv (eVar 4) (eC (.int 16)))))))
def q_draw (f0 : FX) : SX :=
  (sSeq (sPut (eVar 0) (eC (.int 3)) (eBin bAdd (eBin bIx (eVar 0) (eC (.int 3))) (eC (.int 1))))
    (sSeq (sIf (tBl (eBin bEq (eBin bIx (eVar 0) (eC (.int 2))) (eC (.int 0)))) (sSeq (sIf (tBl (eBin bGe (eBin bIx (eVar 0) (eC (.int 1))) (eCB fLen (aCons (eBin bIx (eVar 0) (eC (.int 0))) aNil)))) (sRet (eBin bMod (eCB fInt (aCons (eCall 2 f0 (aCons (eBin bIx (eVar 0) (eC (.int 4))) (aCons (eBin bIx (eVar 0) (eC (.int 3))) aNil))) aNil)) (eVar 1))) sNil)
    (sSeq (sAsg (eBin bIx (eBin bIx (eVar 0) (eC (.int 0))) (eBin bIx (eVar 0) (eC (.int 1)))) (gVar 3))
    (sSeq (sPut (eVar 0) (eC (.int 1)) (eBin bAdd (eBin bIx (eVar 0) (eC (.int 1))) (eC (.int 1))))
    (sSeq (sIf (tBl (eBin bLt (eVar 3) (eBin bPow (eC (.int 10)) (eC (.int 18))))) (sRet (eBin bMod (eCB fInt (aCons (eCall 2 f0 (aCons (eVar 3) (aCons (eBin bIx (eVar 0) (eC (.int 3))) aNil))) aNil)) (eVar 1))) sNil)
    (sPut (eVar 0) (eC (.int 2)) (eVar 3)))))) sNil)
    (sSeq (sAsg (eBin bMod (eCB fInt (aCons (eBin bIx (eVar 0) (eC (.int 2))) aNil)) (eVar 1)) (gVar 2))
    (sSeq (sPut (eVar 0) (eC (.int 2)) (eBin bDiv (eBin bIx (eVar 0) (eC (.int 2))) (eVar 1)))
    (sRet (eVar 2))))))
def q_name (f0 : FX) : SX :=
  (sSeq (sAsg (eC (.str "abcdefghijklmnopqrstuvwxyz")) (gVar 2))
    (sSeq (sAsg (eBin bIx (eLst (aCons (eC (.int 1)) (aCons (eC (.int 2)) (aCons (eC (.int 3)) (aCons (eC (.int 4)) (aCons (eC (.int 2)) (aCons (eC (.int 3)) (aCons (eC (.int 8)) (aCons (eC (.int 12)) aNil))))))))) (eCall 2 f0 (aCons (eVar 0) (aCons (eC (.int 8)) aNil)))) (gVar 3))
    (sSeq (sAsg (eJoin (eC (.str "")) (eCompR rng1 [6] (aCons (eVar 3) aNil) (gVar 6) tYesX (eBin bIx (eVar 2) (eCall 2 f0 (aCons (eVar 0) (aCons (eC (.int 26)) aNil)))))) (gVar 4))
    (sSeq (sIf (tBl (eBin bNotIn (eVar 4) (eVar 1))) (sRet (eVar 4)) sNil)
    (sSeq (sFor (eVar 2) (gVar 5) (sIf (tBl (eBin bNotIn (eBin bAdd (eSl (eVar 4) oNo (oYes (eC (.int 11)))) (eVar 5)) (eVar 1))) (sRet (eBin bAdd (eSl (eVar 4) oNo (oYes (eC (.int 11)))) (eVar 5))) sNil))
    (sRet (eVar 4)))))))
def p_Source___init__ (f0 : FX) (c0 : Nat) (f1 : FX) (l0 : List Nat) : SX :=
  (sSeq (sAsg (eCall 1 f0 (aCons (eVar 1) aNil)) (gVar 3))
    (sSeq (sIf (tBl (eUn uIsN (eVar 3))) (sRaise c0 (eVar 1)) sNil)
    (sSeq (sAsg (eCall 1 f1 (aCons (eVar 3) aNil)) (gVar 4))
    (sSeq (sIf ((xOr (xNot (tTru (eUn (uIsi ["str"]) (eVar 2)))) (tBl (eBin bNotIn (eVar 2) (eVar 4))))) (sRaise c0 (eVar 2)) sNil)
    (sSeq (sFldX l0 "held" (eVar 0) (eVar 3))
    (sSeq (sFldX l0 "root" (eVar 0) (eVar 2))
    (sFldX l0 "kind_names" (eVar 0) (eCB fTuple (aCons (eVar 4) aNil)))))))))
def p_Source_kinds (l0 : List Nat) : SX :=
  (sRet (eFld l0 "kind_names" (eVar 0)))
def p_Source___contains__ (f0 : FX) (l0 : List Nat) : SX :=
  (sRet (eUn uIsN (eCall 4 f0 (aCons (eFld l0 "held" (eVar 0)) (aCons (eVar 1) (aCons (eC .non) (aCons (eC (.int 1)) aNil)))))))
def p_Source_check_v2 (f0 : FX) : SX :=
  (sDrop (eCall 1 f0 (aCons (eC (.int 0)) aNil)))
def p_Source_kind_of_v2 (f0 : FX) : SX :=
  (sDrop (eCall 1 f0 (aCons (eC (.int 1)) aNil)))
def p_Source_size_of_v2 (f0 : FX) : SX :=
  (sDrop (eCall 1 f0 (aCons (eC (.int 2)) aNil)))
def p_Source_levels_of_v2 (f0 : FX) : SX :=
  (sDrop (eCall 1 f0 (aCons (eC (.int 3)) aNil)))
def p_Source_least_tree_v2 (f0 : FX) : SX :=
  (sDrop (eCall 1 f0 (aCons (eC (.int 4)) aNil)))
def p_Source_all_trees_v2 (f0 : FX) : SX :=
  (sDrop (eCall 1 f0 (aCons (eC (.int 5)) aNil)))
def p_is_integer  : SX :=
  (sRet ((eAnd (eUn (uIsi ["int"]) (eVar 0)) (eNot (eUn (uIsi ["bool"]) (eVar 0))))))
def p_Source___eq___v3 (l0 : List Nat) (i0 : Nat → Bool) : SX :=
  (sRet ((eAnd (eUn (uIsO l0 i0) (eVar 1)) (eAnd (eEqDic (eFld l0 "held" (eVar 0)) (eFld l0 "held" (eVar 1))) (eBin bEq (eFld l0 "root" (eVar 0)) (eFld l0 "root" (eVar 1)))))))
def p_is_folded (f0 : FX) : SX :=
  (sRet (eUn uIsN (eCall 2 f0 (aCons (eVar 0) (aCons (eVar 1) aNil)))))
def q_steps_to  : SX :=
  (sSeq (sAsg (eLst aNil) (gVar 1))
    (sSeq (sForR rng1 (aCons (eC (.int 40)) aNil) (gVar 2) (sIf ((xAnd (tBl (eBin bGt (eVar 0) (eC (.int 1)))) (tBl (eBin bEq (eBin bMod (eVar 0) (eC (.int 2))) (eC (.int 1)))))) (sSeq (sDrop (eApp (eVar 1) (eC (.int 2))))
    (sAsg (eBin bDiv (eVar 0) (eC (.int 2))) (gVar 0))) (sIf (tBl (eBin bGt (eVar 0) (eC (.int 1)))) (sSeq (sDrop (eApp (eVar 1) (eC (.int 1))))
    (sAsg (eBin bSub (eVar 0) (eC (.int 1))) (gVar 0))) sNil)))
    (sRet (eCompR rng1 [3] (aCons (eCB fLen (aCons (eVar 1) aNil)) aNil) (gVar 3) tYesX (eBin bIx (eVar 1) (eBin bSub (eBin bSub (eCB fLen (aCons (eVar 1) aNil)) (eC (.int 1))) (eVar 3)))))))
end Mi
end
section
namespace Mi
open PySem PySem.Spec PyProof.Rows L2
def p_Source_operators (l0 : List Nat) : SX :=
  (sRet (eDcK [1] (eFld l0 "held" (eVar 0)) (gVar 1) tYesX (eVar 1) (eBin bIx (eFld l0 "held" (eVar 0)) (eVar 1))))
def p__wall  : SX :=
  (sWhile (tTru (eC (.bl true))) (sNil))
def p_fits_row (f0 : FX) : SX :=
  (sSeq (sIf ((xOr (xNot (tTru (eUn (uIsi ["tuple"]) (eVar 2)))) (xOr (tBl (eBin bEq (eCB fLen (aCons (eVar 2) aNil)) (eC (.int 0)))) (xNot (tTru (eUn (uIsi ["str"]) (eBin bIx (eVar 2) (eC (.int 0))))))))) (sRet (eC (.bl false))) sNil)
    (sSeq (sIf (tBl (eBin bNotIn (eBin bIx (eVar 2) (eC (.int 0))) (eVar 0))) (sRet (eC (.bl false))) sNil)
    (sSeq (sAsg (eBin bIx (eBin bIx (eVar 0) (eBin bIx (eVar 2) (eC (.int 0)))) (eC (.int 1))) (gVar 3))
    (sSeq (sIf (tBl (eBin bNe (eCB fLen (aCons (eVar 2) aNil)) (eBin bAdd (eCB fLen (aCons (eVar 3) aNil)) (eC (.int 1))))) (sRet (eC (.bl false))) sNil)
    (sSeq (sForE (eVar 3) (gTupX 2 (gsCons (gVar 4) (gsCons (gVar 5) gsNil))) (sSeq (sAsg (eBin bIx (eVar 2) (eBin bAdd (eVar 4) (eC (.int 1)))) (gVar 6))
    (sIf ((xOr (xNot (tTru (eCall 1 f0 (aCons (eVar 6) aNil)))) (xOr (xNot (tBl (eCh bLe bLt (eC (.int 0)) (eVar 6) (eCB fLen (aCons (eVar 1) aNil))))) (tBl (eBin bNe (eBin bIx (eVar 1) (eVar 6)) (eVar 5)))))) (sRet (eC (.bl false))) sNil)))
    (sRet (eC (.bl true))))))))
def p_first_wrong (f0 : FX) (l0 : List Nat) (f1 : FX) : SX :=
  (sSeq (sIf ((xOr (xNot (tTru (eCall 1 f0 (aCons (eVar 1) aNil)))) (xNot (tBl (eCh bLe bLe (eC (.int 1)) (eCB fLen (aCons (eVar 1) aNil)) (eC (.int 12000))))))) (sRet (eUn uNeg (eC (.int 1)))) sNil)
    (sSeq (sAsg (eFld l0 "held" (eVar 0)) (gVar 2))
    (sSeq (sAsg (eLst aNil) (gVar 3))
    (sSeq (sForE (eVar 1) (gTupX 2 (gsCons (gVar 4) (gsCons (gVar 5) gsNil))) (sSeq (sIf (xNot (tTru (eCall 3 f1 (aCons (eVar 2) (aCons (eVar 3) (aCons (eVar 5) aNil)))))) (sRet (eVar 4)) sNil)
    (sDrop (eApp (eVar 3) (eBin bIx (eBin bIx (eVar 2) (eBin bIx (eVar 5) (eC (.int 0)))) (eC (.int 0)))))))
    (sRet (eC .non))))))
def p_unfolded (f0 : FX) (c0 : Nat) (c1 : Nat) : SX :=
  (sSeq (sAsg (eCall 2 f0 (aCons (eVar 0) (aCons (eVar 1) aNil))) (gVar 2))
    (sSeq (sIf (tBl (eUn uNotN (eVar 2))) (sRaise c0 (eVar 2)) sNil)
    (sSeq (sAsg (eLst aNil) (gVar 3))
    (sSeq (sAsg (eLst aNil) (gVar 4))
    (sSeq (sAsg (eLst aNil) (gVar 5))
    (sSeq (sFor (eVar 1) (gVar 6) (sSeq (sDrop (eApp (eVar 3) (eCB fMin2 (aCons (eBin bAdd (eC (.int 10000)) (eC (.int 1))) (aCons (eBin bAdd (eC (.int 1)) (eCB fSum (aCons (eComp [7] (eSl (eVar 6) (oYes (eC (.int 1))) oNo) (gVar 7) tYesX (eBin bIx (eVar 3) (eVar 7))) aNil))) aNil)))))
    (sSeq (sDrop (eApp (eVar 4) (eBin bAdd (eC (.int 1)) (eMaxD (aCons (eComp [7] (eSl (eVar 6) (oYes (eC (.int 1))) oNo) (gVar 7) tYesX (eBin bIx (eVar 4) (eVar 7))) aNil) (aCons (eC (.int 0)) aNil)))))
    (sIf (tBl (eBin bGt (eBin bIx (eVar 4) (eUn uNeg (eC (.int 1)))) (eC (.int 200)))) (sDrop (eApp (eVar 5) (eC .non))) (sDrop (eApp (eVar 5) (eBin bAdd (eTup (aCons (eBin bIx (eVar 6) (eC (.int 0))) aNil)) (eCB fTuple (aCons (eComp [7] (eSl (eVar 6) (oYes (eC (.int 1))) oNo) (gVar 7) tYesX (eBin bIx (eVar 5) (eVar 7))) aNil)))))))))
    (sSeq (sIf (tBl (eBin bGt (eBin bIx (eVar 3) (eUn uNeg (eC (.int 1)))) (eC (.int 10000)))) (sRaise c1 (eC (.int 10000))) sNil)
    (sSeq (sIf (tBl (eBin bGt (eBin bIx (eVar 4) (eUn uNeg (eC (.int 1)))) (eC (.int 200)))) (sRaise c1 (eC (.int 200))) sNil)
    (sRet (eBin bIx (eVar 5) (eUn uNeg (eC (.int 1)))))))))))))
def q_law_k53 (f0 : FX) (f1 : FX) (c0 : Nat) (f2 : FX) (f3 : FX) (f4 : FX) (f5 : FX) (n0 : Nat) (f6 : FX) (i0 : Nat → Bool) (c1 : Nat) (i1 : Nat → Bool) : SX :=
  (sSeq (sAsg (eCall 1 f0 (aCons (eVar 0) aNil)) (gVar 1))
    (sSeq (sAsg (eLst aNil) (gVar 2))
    (sSeq (sForR rng1 (aCons (eC (.int 3)) aNil) (gVar 3) (sDrop (eApp (eVar 2) (eCall 2 f1 (aCons (eVar 1) (aCons (eVar 2) aNil))))))
    (sSeq (sAsg (eCall 2 f1 (aCons (eVar 1) (aCons (eLst aNil) aNil))) (gVar 4))
    (sSeq (sAsg (eDisp [((eBin bIx (eVar 2) (eC (.int 0))), (eTup (aCons (eVar 4) (aCons (eTup aNil) aNil)))), ((eBin bIx (eVar 2) (eC (.int 1))), (eTup (aCons (eVar 4) (aCons (eTup (aCons (eVar 4) aNil)) aNil)))), ((eBin bIx (eVar 2) (eC (.int 2))), (eTup (aCons (eVar 4) (aCons (eTup (aCons (eVar 4) (aCons (eVar 4) aNil))) aNil))))]) (gVar 5))
    (sSeq (sAsg (eMake c0 3 f2 (aCons (eVar 5) (aCons (eVar 4) aNil))) (gVar 6))
    (sSeq (sIf (tBl (eBin bEq (eCall 2 f3 (aCons (eVar 1) (aCons (eC (.int 3)) aNil))) (eC (.int 0)))) (sAsg (eCall 1 f4 (aCons (eBin bAdd (eC (.int 9990)) (eCall 2 f3 (aCons (eVar 1) (aCons (eC (.int 20)) aNil)))) aNil)) (gVar 15)) (sSeq (sAsg (eBin bMulL (eLst (aCons (eC (.int 2)) aNil)) (eCall 2 f3 (aCons (eVar 1) (aCons (eC (.int 16)) aNil)))) (gVar 15))
    (sSeq (sAsg (eCall 2 f3 (aCons (eVar 1) (aCons (eC (.int 3)) aNil))) (gVar 16))
    (sForR rng1 (aCons (eBin bAdd (eBin bIx (eLst (aCons (eC (.int 0)) (aCons (eC (.int 0)) (aCons (eC (.int 185)) aNil)))) (eVar 16)) (eCall 2 f3 (aCons (eVar 1) (aCons (eBin bIx (eLst (aCons (eC (.int 4)) (aCons (eC (.int 30)) (aCons (eC (.int 30)) aNil)))) (eVar 16)) aNil)))) aNil) (gVar 3) (sDrop (eApp (eVar 15) (eBin bIx (eLst (aCons (eC (.int 1)) (aCons (eC (.int 3)) (aCons (eC (.int 1)) (aCons (eC (.int 4)) aNil))))) (eCall 2 f3 (aCons (eVar 1) (aCons (eC (.int 4)) aNil))))))))))
    (sSeq (sAsg (eLst (aCons (eTup (aCons (eBin bIx (eVar 2) (eC (.int 0))) aNil)) aNil)) (gVar 7))
    (sSeq (sAsg (eLst (aCons (eC (.int 1)) aNil)) (gVar 8))
    (sSeq (sAsg (eC (.int 1)) (gVar 9))
    (sSeq (sFor (eVar 15) (gVar 10) (sSeq (sAsg (eBin bSub (eCB fLen (aCons (eVar 7) aNil)) (eC (.int 1))) (gVar 17))
    (sSeq (sDrop (eApp (eVar 7) (eBin bIx (eLst (aCons (eTup (aCons (eBin bIx (eVar 2) (eC (.int 1))) (aCons (eVar 17) aNil))) (aCons (eTup (aCons (eBin bIx (eVar 2) (eC (.int 2))) (aCons (eVar 17) (aCons (eVar 17) aNil)))) (aCons (eTup (aCons (eBin bIx (eVar 2) (eC (.int 2))) (aCons (eC (.int 0)) (aCons (eVar 17) aNil)))) (aCons (eTup (aCons (eBin bIx (eVar 2) (eC (.int 2))) (aCons (eVar 17) (aCons (eC (.int 0)) aNil)))) aNil))))) (eBin bSub (eVar 10) (eC (.int 1))))))
    (sSeq (sDrop (eApp (eVar 8) (eBin bIx (eLst (aCons (eBin bAdd (eBin bIx (eVar 8) (eVar 17)) (eC (.int 1))) (aCons (eBin bAdd (eBin bMul (eC (.int 2)) (eBin bIx (eVar 8) (eVar 17))) (eC (.int 1))) (aCons (eBin bAdd (eBin bIx (eVar 8) (eVar 17)) (eC (.int 2))) (aCons (eBin bAdd (eBin bIx (eVar 8) (eVar 17)) (eC (.int 2))) aNil))))) (eBin bSub (eVar 10) (eC (.int 1))))))
    (sAsg (eBin bAdd (eVar 9) (eC (.int 1))) (gVar 9))))))
    (sSeq (sIf (tBl (eBin bNotB (eCall 2 f5 (aCons (eVar 6) (aCons (eVar 7) aNil))) (eC (.bl true)))) (sRet (eC (.bl false))) sNil)
    (sSeq (sAsg (eTup (aCons (eC (.str "none")) aNil)) (gVar 11))
    (sSeq (sTry n0 (sAsg (eTup (aCons (eC (.str "tree")) (aCons (eCall 2 f6 (aCons (eVar 6) (aCons (eVar 7) aNil))) aNil))) (gVar 11)) [⟨i0, some 12, fun c p => (sSt 11 (eTup (aCons (eC (.str "many")) (aCons (eXf [c1] c p) (aCons (eXi (List.range n0) i1 c) aNil)))) sNil)⟩])
    (sSeq (sIf (tBl (eBin bGt (eBin bIx (eVar 8) (eUn uNeg (eC (.int 1)))) (eC (.int 10000)))) (sRet (eBin bEq (eVar 11) (eTup (aCons (eC (.str "many")) (aCons (eC (.int 10000)) (aCons (eC (.bl true)) aNil)))))) sNil)
    (sSeq (sIf (tBl (eBin bGt (eVar 9) (eC (.int 200)))) (sRet (eBin bEq (eVar 11) (eTup (aCons (eC (.str "many")) (aCons (eC (.int 200)) (aCons (eC (.bl true)) aNil)))))) sNil)
    (sSeq (sAsg (eLst aNil) (gVar 13))
    (sSeq (sFor (eVar 7) (gVar 14) (sDrop (eApp (eVar 13) (eBin bAdd (eTup (aCons (eBin bIx (eVar 14) (eC (.int 0))) aNil)) (eCB fTuple (aCons (eComp [18] (eSl (eVar 14) (oYes (eC (.int 1))) oNo) (gVar 18) tYesX (eBin bIx (eVar 13) (eVar 18))) aNil))))))
    (sRet (eBin bEqL (eVar 11) (eTup (aCons (eC (.str "tree")) (aCons (eBin bIx (eVar 13) (eUn uNeg (eC (.int 1)))) aNil)))))))))))))))))))))))
end Mi
end
section
set_option maxHeartbeats 1000000
namespace Mi
open PySem L2
def Dr (dr : FX) : Prop := ∀ (h : Hh) (L : List Nat) (many : Int) (m : Nat), many = m → 0 < m → m < 18446744073709551616 → Bag h 3 2 → 3 ∉ L → Ok (dr [.ref 3, .int many] L h) fun v h' => ∃ i : Nat, v = .int i ∧ i < m ∧ Bx h h'
theorem ext_bx {h h' : Hh} (e : Ext 3 h h') (b : Bag h' 3 2) : Bx h h' := ⟨e.len, e.get, fun _ => b⟩
theorem dr_ok {m : FX} (hm : ∀ a t L h, ∃ v, 0 ≤ v ∧ m [.int a, .int t] L h = .ok (.int v) h) : Dr (bodyX 4 (q_draw m)) := by
  intro h L many m' e h0 h1 B hL
  obtain ⟨v, h', v0, v1, ev, B', E', _⟩ := draws_of hm h 3 2 L many (by omega) (by omega) B hL
  refine Ok.of ev ⟨v.toNat, by congr 1; omega, by omega, ext_bx E' B'⟩
theorem mix_ok : ∀ a t L h, ∃ v, 0 ≤ v ∧ bodyX 5 q_mixed [.int a, .int t] L h = .ok (.int v) h := mixed_ok
def Nm (nm : FX) : Prop := ∀ (h : Hh) (L : List Nat) (t : Nat) (ts : List Str), Bag h 3 2 → 3 ∉ L → t ≠ 3 → h[t]? = some (.lst (ts.map D.str)) → Ok (nm [.ref 3, .ref t] L h) fun v h' => ∃ s, v = .str s ∧ IsName s ∧ (ts.length < 26 → s ∉ ts) ∧ Bx h h'
theorem nm_ok {m : FX} (hm : ∀ a t L h, ∃ v, 0 ≤ v ∧ m [.int a, .int t] L h = .ok (.int v) h) : Nm (bodyX 7 (q_name (bodyX 4 (q_draw m)))) := by
  intro h L t ts B hL ht e
  obtain ⟨s, h', ev, n, d, B', E'⟩ := name_ok (draws_of hm) h 3 2 L t ts B hL ht e
  exact Ok.of ev ⟨s, rfl, n.1, d, ext_bx E' B'⟩
/-- an operator: its name, its kind, the kinds of its children -/
structure Op where
  nm : Str
  kd : Str
  row : List Str
deriving DecidableEq
def Op.v (o : Op) : D := .tup [.str o.kd, .tup (o.row.map .str)]
def Op.kv (o : Op) : Key × D := (.inr o.nm, o.v)
def dicOf (ops : List Op) : Ob := .dic (ops.map Op.kv)
def Op.kds (o : Op) : List Str := o.kd :: o.row
/-- drawn operators -/
structure Drawn (ops : List Op) : Prop where
  nd : (ops.map Op.nm).Nodup
  nms : ∀ o ∈ ops, IsName o.nm
  kds : ∀ o ∈ ops, ∀ k ∈ o.kds, IsName k
  row : ∀ o ∈ ops, o.row.length ≤ 2
  leaf : ∀ o ∈ ops, ∀ k ∈ o.kds, ∃ p ∈ ops, p.kd = k ∧ p.row = []
  few : ∃ ks : List Str, ks.length ≤ 4 ∧ ∀ o ∈ ops, ∀ k ∈ o.kds, k ∈ ks
  len : ops.length ≤ 7
  two : 2 ≤ ops.length
@[simp] theorem keysOf_kv (ops : List Op) : keysOf keyV (ops.map Op.kv) = ops.map fun o => .str o.nm := by
  unfold keysOf
  rw [List.map_map]
  rfl
theorem putD_new {ops : List Op} {o : Op} (hn : o.nm ∉ ops.map Op.nm) : putD (ops.map Op.kv) (.inr o.nm) o.v = (ops ++ [o]).map Op.kv := by
  unfold putD
  have : ((ops.map Op.kv).any fun kv => decide (kv.1 = Sum.inr o.nm)) = false := by
    rw [List.any_eq_false]
    intro kv hk
    obtain ⟨p, hp, rfl⟩ := List.mem_map.mp hk
    have : p.nm ≠ o.nm := fun e => hn (e ▸ List.mem_map_of_mem hp)
    intro e
    exact this (Sum.inr.inj (of_decide_eq_true e))
  rw [this]
  simp [Op.kv]
theorem valD_find {ops : List Op} {s : Str} : valD (ops.map Op.kv) (.inr s) = (ops.find? fun o => decide (o.nm = s)).map Op.v := by
  unfold valD
  rw [List.find?_map]
  cases e : ops.find? ((fun kv : Key × D => decide (kv.1 = Sum.inr s)) ∘ Op.kv) with
  | none =>
    have : (ops.find? fun o => decide (o.nm = s)) = none := by
      rw [List.find?_eq_none] at e ⊢
      intro o ho
      have := e o ho
      intro z
      refine this (decide_eq_true ?_)
      exact congrArg Sum.inr (of_decide_eq_true z)
    rw [this]; rfl
  | some o =>
    have : (ops.find? fun o => decide (o.nm = s)) = some o := by
      have hf : ((fun kv : Key × D => decide (kv.1 = Sum.inr s)) ∘ Op.kv) = fun o => decide (o.nm = s) := by
        funext o
        simp only [Function.comp, Op.kv]
        exact decide_eq_decide.mpr ⟨fun z => Sum.inr.inj z, fun z => congrArg _ z⟩
      rw [hf] at e
      exact e
    rw [this]; rfl
theorem find_op {ops : List Op} {o : Op} (nd : (ops.map Op.nm).Nodup) (ho : o ∈ ops) : (ops.find? fun p => decide (p.nm = o.nm)) = some o := by
  induction ops with
  | nil => cases ho
  | cons p r ih =>
    rw [List.map_cons, List.nodup_cons] at nd
    rcases List.mem_cons.mp ho with rfl | ho
    · simp
    · have : p.nm ≠ o.nm := fun e => nd.1 (e ▸ List.mem_map_of_mem ho)
      rw [List.find?_cons_of_neg (by simpa using this)]
      exact ih nd.2 ho
theorem valD_op {ops : List Op} {o : Op} (nd : (ops.map Op.nm).Nodup) (ho : o ∈ ops) : valD (ops.map Op.kv) (.inr o.nm) = some o.v := by
  rw [valD_find, find_op nd ho]; rfl
@[simp] theorem sm62_n {n : Nat} : sm62 (n : Int) = decide (n < 4611686018427387904) := by
  have e : (2 : Int) ^ 62 = 4611686018427387904 := by decide +kernel
  unfold sm62
  rw [e]
  exact decide_eq_decide.mpr ⟨fun h => by omega, fun h => ⟨by omega, by omega⟩⟩
/-- range(n) as items -/
theorem rng_n {n : Nat} (h : n < 4611686018427387904) : rng1 [.int n] = some ((List.range n).map fun (i : Nat) => .int i) := by
  simp only [rng1, sm62_n, decide_eq_true h, if_true, rngD]
  simp
theorem Bx.lst {h h1 : Hh} {n : Nat} {o : Ob} (a : Bx h h1) (l : 4 ≤ n) (e : h[n]? = some o) : h1[n]? = some o := a.get (by omega) e
theorem get_new (h : Hh) (o : Ob) : (h ++ [o])[h.length]? = some o := by simp
structure Part (ks : List Str) (ops : List Op) : Prop where
  nd : (ops.map Op.nm).Nodup
  nms : ∀ o ∈ ops, IsName o.nm
  kds : ∀ o ∈ ops, ∀ k ∈ o.kds, k ∈ ks
  row : ∀ o ∈ ops, o.row.length ≤ 2
theorem Part.nil {ks : List Str} : Part ks [] := ⟨List.nodup_nil, fun o h => (nomatch h), fun o h => (nomatch h), fun o h => (nomatch h)⟩
theorem Part.snoc {ks : List Str} {ops : List Op} {o : Op} (p : Part ks ops) (hn : IsName o.nm) (hk : ∀ k ∈ o.kds, k ∈ ks) (hr : o.row.length ≤ 2) (hf : o.nm ∉ ops.map Op.nm) : Part ks (ops ++ [o]) := by
  refine ⟨?_, fun q hq => ?_, fun q hq => ?_, fun q hq => ?_⟩
  · rw [List.map_append]
    refine List.nodup_append.mpr ⟨p.nd, by simp, fun a ha b hb e => ?_⟩
    simp only [List.map_cons, List.map_nil, List.mem_singleton] at hb
    subst hb e
    exact hf ha
  all_goals
    rcases List.mem_append.mp hq with hq | hq
  · exact p.nms q hq
  · rw [List.mem_singleton.mp hq]; exact hn
  · exact p.kds q hq
  · rw [List.mem_singleton.mp hq]; exact hk
  · exact p.row q hq
  · rw [List.mem_singleton.mp hq]; exact hr
/-- what is locked stands, and is not the bag -/
def Lk (L : List Nat) (h : Hh) : Prop := ∀ n ∈ L, n ≠ 3 ∧ n < h.length
theorem Lk.nil {h : Hh} : Lk [] h := fun n hn => nomatch hn
theorem Lk.new {L : List Nat} {h : Hh} (k : Lk L h) {n : Nat} (l : h.length ≤ n) : n ∉ L := fun z => by have := (k n z).2; omega
inductive Tr where
  | node (nm : Str) (ts : List Tr)
mutual
def Tr.d : Tr → D
  | .node nm ts => .tup (.str nm :: Tr.ds ts)
def Tr.ds : List Tr → List D
  | [] => []
  | t :: ts => t.d :: Tr.ds ts
end
theorem Tr.ds_map : ∀ ts : List Tr, Tr.ds ts = ts.map Tr.d
  | [] => by rw [Tr.ds, List.map_nil]
  | t :: ts => by rw [Tr.ds, List.map_cons, Tr.ds_map ts]
theorem Tr.d_node (nm : Str) (ts : List Tr) : (Tr.node nm ts).d = .tup (.str nm :: ts.map Tr.d) := by rw [Tr.d, Tr.ds_map]
mutual
/-- a tree of a kind -/
def Tr.ok (ops : List Op) : Tr → Str → Prop
  | .node nm ts, k => ∃ o ∈ ops, o.nm = nm ∧ o.kd = k ∧ Tr.oks ops ts o.row
def Tr.oks (ops : List Op) : List Tr → List Str → Prop
  | [], ks => ks = []
  | t :: ts, ks => ∃ k r, ks = k :: r ∧ t.ok ops k ∧ Tr.oks ops ts r
end
mutual
def Tr.dep : Tr → Nat
  | .node _ ts => Tr.deps ts + 1
def Tr.deps : List Tr → Nat
  | [] => 0
  | t :: ts => max t.dep (Tr.deps ts)
end
mutual
def Tr.size : Tr → Nat
  | .node _ ts => Tr.sizes ts + 1
def Tr.sizes : List Tr → Nat
  | [] => 0
  | t :: ts => t.size + Tr.sizes ts
end
theorem Tr.oks_of {ops : List Op} : ∀ {ts : List Tr} {ks : List Str}, ts.length = ks.length → (∀ (i : Nat) k t, ks[i]? = some k → ts[i]? = some t → t.ok ops k) → Tr.oks ops ts ks
  | [], ks, l, _ => by
    rw [Tr.oks]
    exact List.eq_nil_of_length_eq_zero l.symm
  | t :: ts, [], l, _ => by cases l
  | t :: ts, k :: ks, l, p => by
    rw [Tr.oks]
    exact ⟨k, ks, rfl, p 0 k t rfl rfl, Tr.oks_of (Nat.succ.inj l) fun i k' t' h1 h2 => p (i + 1) k' t' h1 h2⟩
theorem Gr.new (h : Hh) (o : Ob) : Gr h (h ++ [o]) := Gr.app
theorem Lk.mono {L : List Nat} {h h' : Hh} (k : Lk L h) (l : h.length ≤ h'.length) : Lk L h' := fun n hn => ⟨(k n hn).1, by have := (k n hn).2; omega⟩
end Mi
end
section
set_option maxHeartbeats 1000000
namespace Mi
open PySem L2
open PySem.W (alike alikeAll dataLt)
mutual
/-- None, numbers, texts, tuples of these -/
def D.pl : D → Bool
  | .non => true
  | .int _ => true
  | .str s => PyData.strOk s
  | .tup xs => D.pls xs
  | _ => false
def D.pls : List D → Bool
  | [] => true
  | x :: xs => x.pl && D.pls xs
end
mutual
def D.py : D → PyData
  | .int i => .int i
  | .str s => .str s
  | .tup xs => .tuple (D.pys xs)
  | _ => .none
def D.pys : List D → List PyData
  | [] => []
  | x :: xs => x.py :: D.pys xs
end
mutual
def D.dp : D → Nat
  | .tup xs => D.dps xs + 1
  | _ => 0
def D.dps : List D → Nat
  | [] => 0
  | x :: xs => max x.dp (D.dps xs)
end
mutual
theorem toPy_pl : ∀ (x : D) (f : Nat) (h : Hh), x.pl = true → x.dp < f → toPy f h x = some x.py
  | .non, f + 1, h, _, _ => by rw [toPy, D.py]; all_goals simp
  | .int i, f + 1, h, _, _ => by simp [toPy, D.py]
  | .str s, f + 1, h, _, _ => by simp [toPy, D.py]
  | .tup xs, f + 1, h, p, l => by
    rw [D.pl] at p
    rw [D.dp] at l
    have := toPys_pl xs f h p (by omega)
    simp [toPy, D.py, this]
  | .bl b, _, _, p, _ => by simp [D.pl] at p
  | .frl b, _, _, p, _ => by simp [D.pl] at p
  | .ref b, _, _, p, _ => by simp [D.pl] at p
  | _, 0, _, _, l => by omega
theorem toPys_pl : ∀ (xs : List D) (f : Nat) (h : Hh), D.pls xs = true → D.dps xs < f → xs.mapM (toPy f h) = some (D.pys xs)
  | [], _, _, _, _ => by simp [D.pys]
  | x :: xs, f, h, p, l => by
    rw [D.pls, Bool.and_eq_true] at p
    rw [D.dps] at l
    rw [List.mapM_cons, toPy_pl x f h p.1 (by omega)]
    have := toPys_pl xs f h p.2 (by omega)
    simp [this, D.pys]
end
mutual
theorem dep_py : ∀ x : D, x.py.depth = x.dp
  | .non => by simp [D.py, D.dp, PyData.depth]
  | .int i => by simp [D.py, D.dp, PyData.depth]
  | .str s => by simp [D.py, D.dp, PyData.depth]
  | .tup xs => by simp [D.py, D.dp, PyData.depth, deps_py xs]
  | .bl b => by simp [D.py, D.dp, PyData.depth]
  | .frl b => by simp [D.py, D.dp, PyData.depth]
  | .ref b => by simp [D.py, D.dp, PyData.depth]
theorem deps_py : ∀ xs : List D, PyData.depthAll (D.pys xs) = D.dps xs
  | [] => by simp [D.pys, D.dps, PyData.depthAll]
  | x :: xs => by simp [D.pys, D.dps, PyData.depthAll, dep_py x, deps_py xs]
end
mutual
theorem eqv_pl : ∀ x y : D, x.pl = true → y.pl = true → (PyData.eqv x.py y.py = true ↔ x = y)
  | .tup xs, .tup ys, p, q => by
    rw [D.pl] at p q
    simp only [D.py, PyData.eqv]
    rw [eqvs_pl xs ys p q]
    constructor
    · intro h; rw [h]
    · intro h; exact D.tup.inj h
  | .non, y, _, q => by cases y <;> simp_all [D.py, PyData.eqv, D.pl]
  | .int i, y, _, q => by cases y <;> simp_all [D.py, PyData.eqv, D.pl]
  | .str s, y, _, q => by cases y <;> simp_all [D.py, PyData.eqv, D.pl]
  | .tup xs, .non, _, _ => by simp [D.py, PyData.eqv]
  | .tup xs, .int _, _, _ => by simp [D.py, PyData.eqv]
  | .tup xs, .str _, _, _ => by simp [D.py, PyData.eqv]
  | .tup xs, .bl _, _, q => by simp [D.pl] at q
  | .tup xs, .frl _, _, q => by simp [D.pl] at q
  | .tup xs, .ref _, _, q => by simp [D.pl] at q
  | .bl _, _, p, _ => by simp [D.pl] at p
  | .frl _, _, p, _ => by simp [D.pl] at p
  | .ref _, _, p, _ => by simp [D.pl] at p
theorem eqvs_pl : ∀ xs ys : List D, D.pls xs = true → D.pls ys = true → (PyData.eqvAll (D.pys xs) (D.pys ys) = true ↔ xs = ys)
  | [], [], _, _ => by simp [D.pys, PyData.eqvAll]
  | [], _ :: _, _, _ => by simp [D.pys, PyData.eqvAll]
  | _ :: _, [], _, _ => by simp [D.pys, PyData.eqvAll]
  | x :: xs, y :: ys, p, q => by
    rw [D.pls, Bool.and_eq_true] at p q
    simp only [D.pys, PyData.eqvAll, Bool.and_eq_true]
    rw [eqv_pl x y p.1 q.1, eqvs_pl xs ys p.2 q.2]
    simp
end
noncomputable def beqD (x y : D) : Bool := @decide (x = y) (Classical.propDecidable _)
@[simp] theorem beqD_iff (x y : D) : (beqD x y = true) = (x = y) := by unfold beqD; simp
theorem IsName.good {s : Str} (n : IsName s) : PyData.strOk s = true := by
  unfold PyData.strOk
  rw [← Array.all_toList]
  exact List.all_eq_true.mpr fun c hc => decide_eq_true (by have := n.az c hc; omega)
mutual
/-- every name is a good text -/
def Tr.gd : Tr → Bool
  | .node nm ts => PyData.strOk nm && Tr.gds ts
def Tr.gds : List Tr → Bool
  | [] => true
  | t :: ts => t.gd && Tr.gds ts
end
mutual
theorem pl_tr : ∀ t : Tr, t.d.pl = t.gd
  | .node nm ts => by rw [Tr.d, D.pl, D.pls, Tr.gd, pls_tr ts, D.pl]
theorem pls_tr : ∀ ts : List Tr, D.pls (Tr.ds ts) = Tr.gds ts
  | [] => by rw [Tr.ds, D.pls, Tr.gds]
  | t :: ts => by rw [Tr.ds, D.pls, Tr.gds, pl_tr t, pls_tr ts]
end
mutual
theorem dp_tr : ∀ t : Tr, t.d.dp = t.dep
  | .node nm ts => by rw [Tr.d, D.dp, D.dps, Tr.dep, dps_tr ts, D.dp]; all_goals simp
theorem dps_tr : ∀ ts : List Tr, D.dps (Tr.ds ts) = Tr.deps ts
  | [] => by rw [Tr.ds, D.dps, Tr.deps]
  | t :: ts => by rw [Tr.ds, D.dps, Tr.deps, dp_tr t, dps_tr ts]
end
mutual
theorem gd_ok {ops : List Op} (hn : ∀ o ∈ ops, IsName o.nm) : ∀ (t : Tr) (k : Str), t.ok ops k → t.gd = true
  | .node nm ts, k, h => by
    rw [Tr.ok] at h
    obtain ⟨o, ho, rfl, _, h⟩ := h
    rw [Tr.gd, (hn o ho).good, gds_ok hn ts o.row h]; rfl
theorem gds_ok {ops : List Op} (hn : ∀ o ∈ ops, IsName o.nm) : ∀ (ts : List Tr) (ks : List Str), Tr.oks ops ts ks → Tr.gds ts = true
  | [], _, _ => by rw [Tr.gds]
  | t :: ts, ks, h => by
    rw [Tr.oks] at h
    obtain ⟨k, r, _, h1, h2⟩ := h
    rw [Tr.gds, gd_ok hn t k h1, gds_ok hn ts r h2]; rfl
end
mutual
theorem d_inj : ∀ {t u : Tr}, t.d = u.d → t = u
  | .node a ts, .node b us, h => by
    rw [Tr.d, Tr.d] at h
    obtain ⟨h1, h2⟩ := List.cons.inj (D.tup.inj h)
    rw [D.str.inj h1, ds_inj h2]
theorem ds_inj : ∀ {ts us : List Tr}, Tr.ds ts = Tr.ds us → ts = us
  | [], [], _ => rfl
  | [], _ :: _, h => by rw [Tr.ds, Tr.ds] at h; cases h
  | _ :: _, [], h => by rw [Tr.ds, Tr.ds] at h; cases h
  | t :: ts, u :: us, h => by
    rw [Tr.ds, Tr.ds] at h
    obtain ⟨h1, h2⟩ := List.cons.inj h
    rw [d_inj h1, ds_inj h2]
end
mutual
theorem alike_tr : ∀ t u : Tr, alike t.d.py u.d.py = true
  | .node a ts, .node b us => by
    rw [Tr.d, Tr.d, D.py, D.py, D.pys, D.pys, D.py, D.py, alike, alikeAll, alikes_tr ts us, alike]; rfl
theorem alikes_tr : ∀ ts us : List Tr, alikeAll (D.pys (Tr.ds ts)) (D.pys (Tr.ds us)) = true
  | [], _ => by rw [Tr.ds, D.pys, alikeAll]
  | t :: ts, [] => by rw [Tr.ds, Tr.ds, D.pys, D.pys, alikeAll]
  | t :: ts, u :: us => by rw [Tr.ds, Tr.ds, D.pys, D.pys, alikeAll, alike_tr t u, alikes_tr ts us]; rfl
end
end Mi
end
section
set_option maxHeartbeats 1000000
namespace Mi
open PySem L2
/-- a value whose type can be asked -/
structure Tame (h : Hh) (x : D) : Prop where
  rf : ∀ n, x = .ref n → (∃ xs, h[n]? = some (.lst xs)) ∨ ∃ kvs, h[n]? = some (.dic kvs)
  st : ∀ s, x = .str s → s.length ≤ 16777216
def nameS (s : Str) : Bool := decide (1 ≤ s.length) && decide (s.length ≤ 12) && s.cps.toList.all fun c => decide (97 ≤ c ∧ c ≤ 122)
theorem nameS_iff {s : Str} : nameS s = true ↔ IsName s := by
  unfold nameS
  rw [Bool.and_eq_true, Bool.and_eq_true, decide_eq_true_iff, decide_eq_true_iff, List.all_eq_true]
  exact ⟨fun ⟨⟨a, b⟩, c⟩ => ⟨a, b, fun x hx => of_decide_eq_true (c x hx)⟩, fun n => ⟨⟨n.lo, n.hi⟩, fun x hx => decide_eq_true (n.az x hx)⟩⟩
def nameD : D → Bool
  | .str s => nameS s
  | _ => false
theorem occ1 (c : Nat) (z : Str) : occ ⟨#[c]⟩ z = some (decide (c ∈ z.cps.toList)) := rfl
theorem notIn_az (c : Nat) (h : Hh) : bNotIn (.str ⟨#[c]⟩) (.str "abcdefghijklmnopqrstuvwxyz") h = .ok (.bl (!decide (97 ≤ c ∧ c ≤ 122))) h := by
  have e : inD (.str ⟨#[c]⟩) (.str "abcdefghijklmnopqrstuvwxyz") h = some (decide (97 ≤ c ∧ c ≤ 122)) := by
    show occ ⟨#[c]⟩ "abcdefghijklmnopqrstuvwxyz" = _
    rw [occ1]
    congr 1
    apply decide_eq_decide.mpr
    rw [az_eq, List.mem_map]
    constructor
    · rintro ⟨i, hi, rfl⟩
      have := List.mem_range.mp hi
      omega
    · intro hc
      exact ⟨c - 97, List.mem_range.mpr (by omega), by omega⟩
  unfold bNotIn
  rw [e]
theorem is_name_ok {x : D} {L : List Nat} {h : Hh} (t : Tame h x) : Ok (bodyX 2 p_is_name [x] L h) fun v h' => v = .bl (nameD x) ∧ h = h' := by
  unfold Ok p_is_name
  rw [Ev_bodyX]
  cases x with
  | str s =>
    have l := t.st s rfl
    simp [isB, fLen_str, l, nameD]
    refine Br.go (fun h1 => ?_) (fun h1 => ⟨?_, rfl⟩)
    · simp
      refine Br.go (fun h2 => ?_) (fun h2 => ⟨?_, rfl⟩)
      · simp
        refine lpV (as := s.cps.toList) (f := fun c => .str ⟨#[c]⟩) (fun pre ρ h2 => h = h2 ∧ (∃ y, ρ = [some (.str s), y]) ∧ ∀ c ∈ pre, 97 ≤ c ∧ c ≤ 122) rfl ⟨rfl, ⟨none, rfl⟩, fun c hc => nomatch hc⟩ ?_ ?_
        · rintro pre a post ρ h2 e ⟨rfl, ⟨y, rfl⟩, hp⟩
          simp [notIn_az]
          refine Br.go (fun h3 => ⟨?_, rfl⟩) (fun h3 => ?_)
          · congr 1
            refine (Bool.eq_false_iff.mpr fun z => ?_).symm
            have := (nameS_iff.mp z).az a (by rw [e]; simp)
            omega
          · refine ⟨rfl, ⟨_, rfl⟩, fun c hc => ?_⟩
            rcases List.mem_append.mp hc with z | z
            · exact hp c z
            · rw [List.mem_singleton.mp z]; omega
        · rintro ρ h2 ⟨rfl, ⟨y, rfl⟩, hp⟩
          simp
          refine ⟨?_, rfl⟩
          congr 1
          exact (nameS_iff.mpr ⟨by have : (1 : Int) ≤ s.length := h1; show 1 ≤ s.length; omega, by show s.length ≤ 12; omega, hp⟩).symm
      · congr 1
        refine (Bool.eq_false_iff.mpr fun z => h2 ?_).symm
        have := (nameS_iff.mp z).len
        omega
    · congr 1
      refine (Bool.eq_false_iff.mpr fun z => h1 ?_).symm
      have : 1 ≤ s.length := (nameS_iff.mp z).lo
      omega
  | ref n =>
    rcases t.rf n rfl with ⟨xs, e⟩ | ⟨kvs, e⟩ <;> simp [e, isB, nameD] <;> exact ⟨rfl, rfl⟩
  | frl xs =>
    simp [uIsi, tyD, isB]
    exact ⟨rfl, rfl⟩
  | _ => simp [isB, nameD] <;> exact ⟨rfl, rfl⟩
theorem is_row_ok {x : D} {L : List Nat} {h : Hh} (t : Tame h x) : Ok (bodyX 1 p_is_row [x] L h) fun v h' => v = .bl (seqOf x h).isSome ∧ h = h' := by
  unfold Ok p_is_row
  rw [Ev_bodyX]
  cases x with
  | ref n =>
    rcases t.rf n rfl with ⟨xs, e⟩ | ⟨kvs, e⟩ <;> simp [e, isB] <;> exact ⟨by simp [seqOf, lstOf, e], rfl⟩
  | frl xs =>
    simp [uIsi, tyD, isB]
    exact ⟨rfl, rfl⟩
  | _ => simp [isB] <;> exact ⟨rfl, rfl⟩
def strD : D → Str
  | .str s => s
  | _ => ""
theorem nameD_str {x : D} (n : nameD x = true) : x = .str (strD x) ∧ IsName (strD x) := by
  cases x with
  | str s => exact ⟨rfl, nameS_iff.mp n⟩
  | _ => cases n
/-- what an entry says: the kind and the kinds of the children -/
def entryL (h : Hh) : List D → Option (Str × List Str)
  | [k, r] => if nameD k = true then (seqOf r h).bind fun ys => if ys.length ≤ 2 ∧ ys.all nameD = true then some (strD k, ys.map strD) else none else none
  | _ => none
def entryP (h : Hh) (x : D) : Option (Str × List Str) := (seqOf x h).bind (entryL h)
def entryD : Option (Str × List Str) → D
  | some p => .tup [.str p.1, .tup (p.2.map .str)]
  | none => .non
/-- a value that is tame to its depth -/
structure Tame3 (h : Hh) (x : D) : Prop where
  t1 : Tame h x
  t2 : ∀ xs, seqOf x h = some xs → ∀ y ∈ xs, Tame h y
  t3 : ∀ xs, seqOf x h = some xs → ∀ y ∈ xs, ∀ ys, seqOf y h = some ys → ∀ z ∈ ys, Tame h z
  sz : ∀ xs, seqOf x h = some xs → ∀ y ∈ xs, ∀ ys, seqOf y h = some ys → ys.length < 100000
theorem seq_cases {x : D} {h : Hh} {xs : List D} (e : seqOf x h = some xs) : x = .tup xs ∨ x = .frl xs ∨ ∃ n, x = .ref n ∧ h[n]? = some (.lst xs) := by
  cases x with
  | tup ys => exact .inl (congrArg _ (Option.some.inj e))
  | frl ys => exact .inr (.inl (congrArg _ (Option.some.inj e)))
  | ref n =>
    simp only [seqOf, lstOf] at e
    rcases q : h[n]? with _ | ⟨ys | _ | _ | _ | _⟩ <;> rw [q] at e <;> simp at e
    subst e
    exact .inr (.inr ⟨n, rfl, q⟩)
  | _ => simp [seqOf, lstOf] at e
theorem fLen_seq {x : D} {h : Hh} {xs : List D} (e : seqOf x h = some xs) : fLen [x] h = .ok (.int xs.length) h := by
  rcases seq_cases e with rfl | rfl | ⟨n, rfl, e'⟩
  · rfl
  · rfl
  · simp [e']
theorem bIx_seq {x : D} {h : Hh} {xs : List D} {i : Int} (e : seqOf x h = some xs) : bIx x (.int i) h = ofO (atI xs i) h := by
  rcases seq_cases e with rfl | rfl | ⟨n, rfl, e'⟩
  · simp
  · simp only [bIx, seqOf, lstOf]; cases atI xs i <;> rfl
  · simp [e']
theorem fTuple_seq {x : D} {h : Hh} {xs : List D} (e : seqOf x h = some xs) : fTuple [x] h = .ok (.tup xs) h := by
  rcases seq_cases e with rfl | rfl | ⟨n, rfl, e'⟩
  · rfl
  · rfl
  · simp [e']
theorem lpS {α : Type} {g : GX} {b : SX} {L : List Nat} {ρ : Rho} {h : Hh} {x : D} {N : Rho → Hh → Prop} {T : D → Hh → Prop} {X : Nat → Option D → Rho → Hh → Prop} {B C : Rho → Hh → Prop} (P : List α → Rho → Hh → Prop) {as : List α} (f : α → D) (hx : seqOf x h = some (as.map f)) (hl : as.length < 100000) (p : P [] ρ h)
    (hn : ∀ n : Nat, h[n]? = some (Ob.lst (as.map f)) → ∀ pre ρ (h1 : Hh), P pre ρ h1 → h1[n]? = some (Ob.lst (as.map f)))
    (step : ∀ pre a post ρ h, as = pre ++ a :: post → P pre ρ h → @Sv (turn g b (f a) ρ L h) ⟨fun ρ h => @Stop ⟨P (pre ++ [a]) ρ h⟩, T, X, N, fun ρ h => @Stop ⟨P (pre ++ [a]) ρ h⟩⟩) (fin : ∀ ρ h, P as ρ h → N ρ h) : @Sv (forD g b x ρ L h) ⟨N, T, X, B, C⟩ := by
  rcases seq_cases hx with rfl | rfl | ⟨n, rfl, e⟩
  · exact lpV P rfl p step fin
  · exact lpV P rfl p step fin
  · exact lpL P f hl p (hn n e) step fin
theorem checked_entry_ok {x : D} {L : List Nat} {h : Hh} {f0 f1 : FX} (e0 : f0 = bodyX 1 p_is_row) (e1 : f1 = bodyX 2 p_is_name) (t : Tame3 h x) : Ok (bodyX 4 (p_checked_entry f0 f1) [x] L h) fun v h' => v = entryD (entryP h x) ∧ h = h' := by
  unfold Ok p_checked_entry
  rw [Ev_bodyX]
  simp
  refine use (e0 ▸ is_row_ok t.t1) ?_
  rintro _ _ ⟨rfl, rfl⟩
  cases ex : seqOf x h with
  | none =>
    simp
    exact ⟨by unfold entryP; rw [ex]; rfl, rfl⟩
  | some xs =>
    simp [fLen_seq ex]
    have hE : entryP h x = entryL h xs := by unfold entryP; rw [ex]; rfl
    rcases xs with _ | ⟨k, _ | ⟨r, _ | ⟨q, xs⟩⟩⟩
    · simp; exact ⟨by rw [hE]; rfl, rfl⟩
    · simp; exact ⟨by rw [hE]; rfl, rfl⟩
    · simp [bIx_seq ex]
      refine use (e1 ▸ is_name_ok (t.t2 _ ex k (by simp))) ?_
      rintro _ _ ⟨rfl, rfl⟩
      simp
      refine Br.go (fun hk => ?_) (fun hk => ⟨by rw [hE]; simp [entryL, hk]; rfl, rfl⟩)
      simp
      refine use (e0 ▸ is_row_ok (t.t2 _ ex r (by simp))) ?_
      rintro _ _ ⟨rfl, rfl⟩
      cases er : seqOf r h with
      | none =>
        simp
        exact ⟨by rw [hE]; simp [entryL, hk, er]; rfl, rfl⟩
      | some ys =>
        simp [fLen_seq er]
        refine Br.go (fun hy => ⟨by rw [hE]; simp [entryL, hk, er, show ¬ ys.length ≤ 2 by omega]; rfl, rfl⟩) (fun hy => ?_)
        simp
        refine lpS (as := ys) (fun pre ρ h2 => h = h2 ∧ (∃ y, ρ = [some x, some k, some r, y]) ∧ pre.all nameD = true) id (by simpa using er) (t.sz _ ex r (by simp) _ er) ⟨rfl, ⟨none, rfl⟩, rfl⟩ ?_ ?_ ?_
        · rintro n en pre ρ h2 ⟨rfl, _⟩
          exact en
        · rintro pre a post ρ h2 e ⟨rfl, ⟨y, rfl⟩, hp⟩
          simp
          refine use (e1 ▸ is_name_ok (t.t3 _ ex r (by simp) _ er a (by rw [e]; simp))) ?_
          rintro _ _ ⟨rfl, rfl⟩
          simp
          refine Br.go (fun ha => ⟨rfl, ⟨_, rfl⟩, by simp [hp, ha]⟩) (fun ha => ⟨?_, rfl⟩)
          rw [hE]
          have : ¬ (ys.length ≤ 2 ∧ ys.all nameD = true) := fun z => ha (List.all_eq_true.mp z.2 a (by rw [e]; simp))
          simp only [entryL, hk, er, if_true, Option.bind_some, if_neg this]; rfl
        · rintro ρ h2 ⟨rfl, ⟨y, rfl⟩, hp⟩
          simp [fTuple_seq er]
          refine ⟨?_, rfl⟩
          have l2 : ys.length ≤ 2 := by omega
          rw [hE]
          simp only [entryL, hk, er, hp, l2, if_true, Option.bind_some, and_self, entryD]
          have e2 : (ys.map strD).map D.str = ys := by
            rw [List.map_map]
            have : ∀ y ∈ ys, (D.str ∘ strD) y = y := fun y hy => ((nameD_str (List.all_eq_true.mp hp y hy)).1).symm
            rw [List.map_congr_left this, List.map_id']
          rw [e2, ← (nameD_str hk).1]
    · have : ((xs.length : Int) + 1 + 1 + 1 ≠ 2) := by omega
      simp [this]
      exact ⟨by rw [hE]; rfl, rfl⟩
def addK (acc : List Str) (k : Str) : List Str := if k ∈ acc then acc else acc ++ [k]
def kindsR (ops : List Op) : List Str := ops.foldl (fun acc o => o.kds.foldl addK acc) []
def kindsIn (ops : List Op) : List Str := sortS (kindsR ops)
theorem mem_addK : ∀ (ks acc : List Str) {s : Str}, s ∈ ks.foldl addK acc ↔ s ∈ acc ∨ s ∈ ks
  | [], acc, s => by simp
  | k :: ks, acc, s => by
    rw [List.foldl_cons, mem_addK ks]
    unfold addK
    by_cases h : k ∈ acc
    · rw [if_pos h, List.mem_cons]
      constructor
      · rintro (z | z)
        · exact .inl z
        · exact .inr (.inr z)
      · rintro (z | rfl | z)
        · exact .inl z
        · exact .inl h
        · exact .inr z
    · rw [if_neg h, List.mem_append, List.mem_singleton, List.mem_cons, or_assoc]
theorem nd_addK : ∀ (ks acc : List Str), acc.Nodup → (ks.foldl addK acc).Nodup
  | [], acc, h => h
  | k :: ks, acc, h => by
    rw [List.foldl_cons]
    refine nd_addK ks _ ?_
    unfold addK
    by_cases hk : k ∈ acc
    · rw [if_pos hk]; exact h
    · rw [if_neg hk]
      refine List.nodup_append.mpr ⟨h, by simp, fun a ha b hb e => ?_⟩
      rw [List.mem_singleton.mp hb] at e
      exact hk (e ▸ ha)
theorem len_addK : ∀ (ks acc : List Str), (ks.foldl addK acc).length ≤ acc.length + ks.length
  | [], acc => by simp
  | k :: ks, acc => by
    rw [List.foldl_cons]
    have := len_addK ks (addK acc k)
    have : (addK acc k).length ≤ acc.length + 1 := by
      unfold addK
      split
      · omega
      · simp
    rw [List.length_cons]; omega
theorem kindsR_flat (ops : List Op) : kindsR ops = (ops.flatMap Op.kds).foldl addK [] := by
  unfold kindsR
  generalize ([] : List Str) = acc
  induction ops generalizing acc with
  | nil => rfl
  | cons o r ih => rw [List.foldl_cons, List.flatMap_cons, List.foldl_append, ih]
theorem mem_kindsR {ops : List Op} {k : Str} : k ∈ kindsR ops ↔ ∃ o ∈ ops, k ∈ o.kds := by
  rw [kindsR_flat, mem_addK, List.mem_flatMap]
  simp
theorem nd_kindsR (ops : List Op) : (kindsR ops).Nodup := by
  rw [kindsR_flat]
  exact nd_addK _ _ List.nodup_nil
theorem mem_kindsIn {ops : List Op} {k : Str} : k ∈ kindsIn ops ↔ ∃ o ∈ ops, k ∈ o.kds := by
  unfold kindsIn
  rw [mem_sortS, mem_kindsR]
theorem nd_kindsIn (ops : List Op) : (kindsIn ops).Nodup := (List.mergeSort_perm _ _).nodup_iff.mpr (nd_kindsR ops)
theorem kinds_in_ok {n : Nat} {L : List Nat} {h : Hh} {ops : List Op} (e : h[n]? = some (dicOf ops)) (nd : (ops.map Op.nm).Nodup) (hr : ∀ o ∈ ops, o.row.length ≤ 2) (l : ops.length ≤ 20) : Ok (bodyX 6 p_kinds_in [.ref n] L h) fun v h' => ∃ m, v = .ref m ∧ h.length ≤ m ∧ h'[m]? = some (.lst ((kindsIn ops).map .str)) ∧ Gr h h' := by
  unfold Ok p_kinds_in
  rw [Ev_bodyX]
  have hlen : (kindsR ops).length ≤ 60 := by
    rw [kindsR_flat]
    have h1 := len_addK (ops.flatMap Op.kds) []
    have h2 : (ops.flatMap Op.kds).length ≤ 3 * ops.length := by
      clear e nd l h1
      induction ops with
      | nil => simp
      | cons o r ih =>
        rw [List.flatMap_cons, List.length_append, List.length_cons]
        have h3 := ih fun p hp => hr p (List.mem_cons_of_mem _ hp)
        have h4 := hr o List.mem_cons_self
        have : o.kds.length = o.row.length + 1 := rfl
        omega
    simp only [List.length_nil] at h1
    omega
  have lt := lt_of e
  simp [Gr.app.get e, dicOf]
  refine lpV (as := ops) (f := fun o => .str o.nm) (fun pre ρ h2 => ∃ x2 x3 x4 x5, ρ = [some (.ref n), some (.ref h.length), x2, x3, x4, x5] ∧ Gr h h2 ∧ h2[h.length]? = some (.lst ((kindsR pre).map .str))) rfl ⟨none, none, none, none, rfl, Gr.app, by simp [kindsR]⟩ ?_ ?_
  · rintro pre a post ρ h2 ea ⟨x2, x3, x4, x5, rfl, G, e2⟩
    have ha : a ∈ ops := by rw [ea]; simp
    simp [G.get e, dicOf, valD_op nd ha, Op.v]
    have := hr a ha
    refine Br.yes (by omega) ?_
    refine lpV (as := a.kds) (f := .str) (fun pre2 ρ h2 => ∃ x3, ρ = [some (.ref n), some (.ref h.length), some (.str a.nm), x3, some (.str a.kd), some (.tup (a.row.map .str))] ∧ Gr h h2 ∧ h2[h.length]? = some (.lst ((pre2.foldl addK (kindsR pre)).map .str))) rfl ⟨x3, rfl, G, e2⟩ ?_ ?_
    · rintro pre2 k post2 ρ h3 ek ⟨x3, rfl, G3, e3⟩
      simp [e3]
      refine Br.go (fun hk => ?_) (fun hk => ?_)
      · exact ⟨_, rfl, G3, by rw [e3, List.foldl_append]; simp [addK, hk]⟩
      · have hl : (pre2.foldl addK (kindsR pre)).length ≤ 100 := by
          have h1 := len_addK pre2 (kindsR pre)
          have h2 : pre2.length ≤ 3 := by
            have := congrArg List.length ek
            have h4 : a.kds.length = a.row.length + 1 := rfl
            simp at this; omega
          have h3 : (kindsR pre).length ≤ (kindsR ops).length := (nd_kindsR pre).length_le_of_subset fun k hk => by
            obtain ⟨o, ho, hk⟩ := mem_kindsR.mp hk
            exact mem_kindsR.mpr ⟨o, by rw [ea]; exact List.mem_append_left _ ho, hk⟩
          omega
        simp [e3]
        refine Br.yes (by omega) ?_
        refine ⟨_, rfl, G3.put (Nat.le_refl _), ?_⟩
        rw [List.getElem?_set_self (lt_of e3), List.foldl_append]
        simp [addK, hk]
    · rintro ρ h3 ⟨x3, rfl, G3, e3⟩
      refine ⟨_, _, _, _, rfl, G3, ?_⟩
      rw [e3]
      unfold kindsR
      rw [List.foldl_append]; rfl
  · rintro ρ h2 ⟨x2, x3, x4, x5, rfl, G, e2⟩
    simp [e2]
    refine Br.yes (by omega) ?_
    exact ⟨h2.length, rfl, G.len, by simp [kindsIn], G.trans Gr.app⟩
end Mi
end
section
set_option maxHeartbeats 1000000
namespace Mi
open PySem L2
open PySem.W (alike alikeAll dataLt)
section
variable {α : Type} (f : α → D)
def kvS (e : Str × α) : Key × D := (.inr e.1, f e.2)
def tGet (b : List (Str × α)) (k : Str) : Option α := (b.find? fun e => decide (e.1 = k)).map (·.2)
def tHas (b : List (Str × α)) (k : Str) : Bool := b.any fun e => decide (e.1 = k)
def tPut (b : List (Str × α)) (k : Str) (v : α) : List (Str × α) := if tHas b k = true then b.map (fun e => if e.1 = k then (e.1, v) else e) else b ++ [(k, v)]
theorem inr_dec (s k : Str) : decide ((Sum.inr s : Key) = Sum.inr k) = decide (s = k) := decide_eq_decide.mpr ⟨fun z => Sum.inr.inj z, fun z => congrArg _ z⟩
@[simp] theorem valD_t (b : List (Str × α)) (k : Str) : valD (b.map (kvS f)) (.inr k) = (tGet b k).map f := by
  unfold valD tGet
  induction b with
  | nil => rfl
  | cons e r ih =>
    rw [List.map_cons, List.find?_cons, List.find?_cons]
    have : decide ((kvS f e).1 = (Sum.inr k : Key)) = decide (e.1 = k) := inr_dec _ _
    rw [this]
    cases decide (e.1 = k) with
    | true => rfl
    | false => exact ih
theorem has_t (b : List (Str × α)) (k : Str) : ((b.map (kvS f)).any fun kv => decide (kv.1 = Sum.inr k)) = tHas b k := by
  unfold tHas
  induction b with
  | nil => rfl
  | cons e r ih =>
    rw [List.map_cons, List.any_cons, List.any_cons, ih]
    have : decide ((kvS f e).1 = (Sum.inr k : Key)) = decide (e.1 = k) := inr_dec _ _
    rw [this]
theorem putD_t (b : List (Str × α)) (k : Str) (v : α) : putD (b.map (kvS f)) (.inr k) (f v) = (tPut b k v).map (kvS f) := by
  unfold putD tPut
  rw [has_t]
  cases tHas b k with
  | false => rw [if_neg (by decide), if_neg (by decide), List.map_append]; rfl
  | true =>
    rw [if_pos rfl, if_pos rfl, List.map_map, List.map_map]
    apply List.map_congr_left
    intro e he
    show (if (kvS f e).1 = (Sum.inr k : Key) then ((kvS f e).1, f v) else kvS f e) = kvS f (if e.1 = k then (e.1, v) else e)
    by_cases h : e.1 = k
    · rw [if_pos h, if_pos (show (kvS f e).1 = Sum.inr k from congrArg Sum.inr h)]; rfl
    · rw [if_neg h, if_neg (show ¬ (kvS f e).1 = Sum.inr k from fun z => h (Sum.inr.inj z))]
end
section
variable {α : Type} {b : List (Str × α)} {k : Str} {v : α}
theorem tHas_iff : tHas b k = true ↔ k ∈ b.map (·.1) := by
  unfold tHas
  rw [List.any_eq_true, List.mem_map]
  constructor
  · rintro ⟨e, he, z⟩
    exact ⟨e, he, of_decide_eq_true z⟩
  · rintro ⟨e, he, z⟩
    exact ⟨e, he, decide_eq_true z⟩
theorem tGet_has : (tGet b k).isSome = tHas b k := by
  unfold tGet tHas
  induction b with
  | nil => rfl
  | cons e r ih =>
    rw [List.find?_cons, List.any_cons]
    cases decide (e.1 = k) with
    | true => rfl
    | false => rw [ih]; rfl
theorem tGet_mem (h : tGet b k = some v) : (k, v) ∈ b := by
  unfold tGet at h
  rw [Option.map_eq_some_iff] at h
  obtain ⟨e, he, rfl⟩ := h
  have h1 := List.mem_of_find?_eq_some he
  have h2 : decide (e.1 = k) = true := List.find?_some (p := fun e : Str × α => decide (e.1 = k)) he
  rw [← of_decide_eq_true h2]; exact h1
theorem tGet_of_mem (nd : (b.map (·.1)).Nodup) (h : (k, v) ∈ b) : tGet b k = some v := by
  unfold tGet
  induction b with
  | nil => cases h
  | cons e r ih =>
    rw [List.map_cons, List.nodup_cons] at nd
    rw [List.find?_cons]
    rcases List.mem_cons.mp h with rfl | h
    · simp
    · have : e.1 ≠ k := fun z => nd.1 (z ▸ List.mem_map_of_mem h)
      rw [decide_eq_false this]
      exact ih nd.2 h
theorem tPut_keys : (tPut b k v).map (·.1) = if tHas b k = true then b.map (·.1) else b.map (·.1) ++ [k] := by
  unfold tPut
  cases tHas b k with
  | false => rw [if_neg (by decide), if_neg (by decide), List.map_append]; rfl
  | true =>
    rw [if_pos rfl, if_pos rfl, List.map_map]
    apply List.map_congr_left
    intro e he
    simp only [Function.comp]
    split <;> rfl
theorem tPut_nd (nd : (b.map (·.1)).Nodup) : ((tPut b k v).map (·.1)).Nodup := by
  rw [tPut_keys]
  cases e : tHas b k with
  | true => rw [if_pos rfl]; exact nd
  | false =>
    rw [if_neg (by decide)]
    refine List.nodup_append.mpr ⟨nd, by simp, fun a ha c hc z => ?_⟩
    rw [List.mem_singleton.mp hc] at z
    subst z
    rw [tHas_iff.mpr ha] at e
    cases e
theorem mem_tPut {e : Str × α} (h : e ∈ tPut b k v) : e = (k, v) ∨ (e ∈ b ∧ e.1 ≠ k) ∨ (e ∈ b ∧ tHas b k = false) := by
  unfold tPut at h
  split at h
  · obtain ⟨x, hx, rfl⟩ := List.mem_map.mp h
    by_cases z : x.1 = k
    · rw [if_pos z, z]; exact .inl rfl
    · rw [if_neg z]; exact .inr (.inl ⟨hx, z⟩)
  · rename_i hh
    rcases List.mem_append.mp h with h | h
    · exact .inr (.inr ⟨h, by simpa using hh⟩)
    · exact .inl (List.mem_singleton.mp h)
theorem tGet_put {k' : Str} : tGet (tPut b k v) k' = if k' = k then some v else tGet b k' := by
  unfold tPut
  cases e0 : tHas b k with
  | false =>
    have e := e0
    rw [if_neg (by decide)]
    unfold tGet
    rw [List.find?_append]
    by_cases z : k' = k
    · subst z
      have : (b.find? fun e => decide (e.1 = k')) = none := by
        rw [List.find?_eq_none]
        intro x hx y
        have := tHas_iff.mpr (List.mem_map.mpr ⟨x, hx, of_decide_eq_true y⟩)
        rw [e] at this; cases this
      rw [this]; simp
    · have : decide (k = k') = false := decide_eq_false (Ne.symm z)
      rw [if_neg z]
      cases b.find? fun e => decide (e.1 = k') with
      | none => simp [this]
      | some x => rfl
  | true =>
    rw [if_pos rfl]
    have e := e0
    clear e0
    unfold tGet
    by_cases z : k' = k
    · subst z
      rw [if_pos rfl]
      have := tHas_iff.mp e
      clear e
      induction b with
      | nil => cases this
      | cons x r ih =>
        rw [List.map_cons, List.find?_cons]
        by_cases y : x.1 = k'
        · rw [if_pos y]; simp [y]
        · rw [if_neg y, decide_eq_false y]
          rw [List.map_cons, List.mem_cons] at this
          exact ih (this.resolve_left (Ne.symm y))
    · rw [if_neg z]
      clear e
      induction b with
      | nil => rfl
      | cons x r ih =>
        rw [List.map_cons, List.find?_cons, List.find?_cons]
        by_cases y : x.1 = k
        · have : decide (k = k') = false := decide_eq_false (Ne.symm z)
          rw [if_pos y, y]
          simp only [y, this]
          exact ih
        · rw [if_neg y]
          cases decide (x.1 = k') with
          | true => rfl
          | false => exact ih
end
def Tr.lt (t u : Tr) : Bool := dataLt t.d.py u.d.py
def plt (a b : Nat × Tr) : Bool := if a.1 = b.1 then a.2.lt b.2 else decide (a.1 < b.1)
theorem Tr.lt_irrefl (t : Tr) : t.lt t = false := PySem.W.dataLt_self _
def bV (v : Nat × Tr) : D := .tup [.int v.1, v.2.d]
mutual
theorem dep_le_size : ∀ t : Tr, t.dep ≤ t.size
  | .node nm ts => by rw [Tr.dep, Tr.size]; have := deps_le_sizes ts; omega
theorem deps_le_sizes : ∀ ts : List Tr, Tr.deps ts ≤ Tr.sizes ts
  | [] => by rw [Tr.deps]; omega
  | t :: ts => by rw [Tr.deps, Tr.sizes]; have := dep_le_size t; have := deps_le_sizes ts; omega
end
theorem bLtW_pair {v w : Nat × Tr} {h : Hh} (gv : v.2.gd = true) (gw : w.2.gd = true) (lv : v.2.dep ≤ 60) (lw : w.2.dep ≤ 60) : bLtW (bV v) (bV w) h = .ok (.bl (plt v w)) h := by
  have p : ∀ u : Nat × Tr, u.2.gd = true → (bV u).pl = true := fun u gu => by
    unfold bV
    rw [D.pl, D.pls, D.pls, D.pls, pl_tr, gu, D.pl]; rfl
  have q : ∀ u : Nat × Tr, (bV u).dp = u.2.dep + 1 := fun u => by
    unfold bV
    rw [D.dp, D.dps, D.dps, D.dps, dp_tr, D.dp]
    all_goals simp
  unfold bLtW
  rw [toPy_pl _ 66 h (p v gv) (by rw [q]; omega), toPy_pl _ 66 h (p w gw) (by rw [q]; omega)]
  have e1 : ∀ u : Nat × Tr, (bV u).py = .tuple [.int u.1, u.2.d.py] := fun u => by unfold bV; simp [D.py, D.pys]
  have a1 : alike (.int (v.1 : Int)) (.int (w.1 : Int)) = true := by simp [alike]
  have a2 : alike (bV v).py (bV w).py = true := by
    rw [e1, e1, alike, alikeAll, alikeAll, alikeAll, alike_tr, a1]; rfl
  have d1 : (bV v).py.depth ≤ 64 := by rw [dep_py, q]; omega
  simp only [a2, Bool.true_and]
  rw [if_pos (by rw [e1] at d1 ⊢; simp [notNone, d1])]
  congr 2
  rw [e1, e1, PySem.W.dataLt_pair a1 (alike_tr _ _)]
  unfold plt
  simp only [PyData.eqv, beq_iff_eq, Int.natCast_inj, PySem.W.dataLt_int, Int.ofNat_lt]
  split
  · split
    · rename_i h1 h2
      have := (eqv_pl v.2.d w.2.d (by rw [pl_tr]; exact gv) (by rw [pl_tr]; exact gw)).mp h2
      rw [d_inj this, Tr.lt_irrefl]
    · rfl
  · rfl
abbrev Bst := List (Str × Nat × Tr)
def bp (b : Bst) (c : Str) : Nat × Tr := (tGet b c).getD (0, .node "" [])
def newV (b : Bst) (o : Op) : Nat × Tr := (1 + (o.row.map fun c => (bp b c).1).sum, .node o.nm (o.row.map fun c => (bp b c).2))
def bStep (b : Bst) (o : Op) : Bst := if o.row.all (tHas b) = true then (if tHas b o.kd = false ∨ plt (newV b o) (bp b o.kd) = true then tPut b o.kd (newV b o) else b) else b
def bRound (ops : List Op) (b : Bst) : Bst := ops.foldl bStep b
def bests (ops : List Op) : Nat → Bst
  | 0 => []
  | n + 1 => bRound ops (bests ops n)
structure BInv (ks : List Str) (b : Bst) : Prop where
  nd : (b.map (·.1)).Nodup
  sub : ∀ e ∈ b, e.1 ∈ ks
  sz : ∀ (j : Nat) e, b[j]? = some e → e.2.1 + 1 ≤ 2 ^ (j + 1)
  good : ∀ e ∈ b, e.2.2.gd = true ∧ e.2.2.size = e.2.1
theorem BInv.nil (ks : List Str) : BInv ks [] := ⟨List.nodup_nil, fun e h => (nomatch h), fun j e h => by simp at h, fun e h => (nomatch h)⟩
theorem BInv.len {ks : List Str} {b : Bst} (i : BInv ks b) : b.length ≤ ks.length := by
  have := i.nd.length_le_of_subset (l₂ := ks) fun x hx => by obtain ⟨e, he, rfl⟩ := List.mem_map.mp hx; exact i.sub e he
  rw [List.length_map] at this; exact this
theorem bp_mem {b : Bst} {c : Str} (h : tHas b c = true) : (c, bp b c) ∈ b ∧ tGet b c = some (bp b c) := by
  rw [← tGet_has] at h
  obtain ⟨v, hv⟩ := Option.isSome_iff_exists.mp h
  have : bp b c = v := by unfold bp; rw [hv]; rfl
  rw [this]; exact ⟨tGet_mem hv, hv⟩
theorem BInv.le {ks : List Str} {b : Bst} (i : BInv ks b) {e : Str × Nat × Tr} (he : e ∈ b) : e.2.1 + 1 ≤ 2 ^ b.length := by
  obtain ⟨j, hj⟩ := List.getElem?_of_mem he
  have h1 := i.sz j e hj
  have h2 : j < b.length := (List.getElem?_eq_some_iff.mp hj).1
  exact Nat.le_trans h1 (Nat.pow_le_pow_right (by decide) h2)
theorem gds_of {ts : List Tr} (h : ∀ t ∈ ts, t.gd = true) : Tr.gds ts = true := by
  induction ts with
  | nil => rw [Tr.gds]
  | cons t r ih => rw [Tr.gds, h t List.mem_cons_self, ih fun u hu => h u (List.mem_cons_of_mem _ hu)]; rfl
theorem sizes_map {cs : List Str} {f : Str → Nat × Tr} (h : ∀ c ∈ cs, (f c).2.size = (f c).1) : Tr.sizes (cs.map fun c => (f c).2) = (cs.map fun c => (f c).1).sum := by
  induction cs with
  | nil => rw [List.map_nil, Tr.sizes]; rfl
  | cons c r ih => rw [List.map_cons, Tr.sizes, List.map_cons, List.sum_cons, h c List.mem_cons_self, ih fun u hu => h u (List.mem_cons_of_mem _ hu)]
theorem newV_ok {ks : List Str} {b : Bst} (i : BInv ks b) {o : Op} (hn : IsName o.nm) (hr : o.row.length ≤ 2) (ha : o.row.all (tHas b) = true) : (newV b o).1 + 1 ≤ 2 ^ (b.length + 1) ∧ (newV b o).2.gd = true ∧ (newV b o).2.size = (newV b o).1 := by
  have hm : ∀ c ∈ o.row, (c, bp b c) ∈ b := fun c hc => (bp_mem (List.all_eq_true.mp ha c hc)).1
  refine ⟨?_, ?_, ?_⟩
  · unfold newV
    have hl : ∀ c ∈ o.row, (bp b c).1 + 1 ≤ 2 ^ b.length := fun c hc => i.le (hm c hc)
    have h2 : 2 ^ (b.length + 1) = 2 * 2 ^ b.length := by rw [Nat.pow_succ]; omega
    have h3 : 0 < 2 ^ b.length := Nat.pow_pos (by decide)
    rw [h2]
    show 1 + (o.row.map fun c => (bp b c).1).sum + 1 ≤ _
    generalize o.row = row at hr hl
    rcases row with _ | ⟨a, _ | ⟨c, _ | ⟨d, r⟩⟩⟩
    · simp; omega
    · have := hl a (by simp)
      simp; omega
    · have := hl a (by simp)
      have := hl c (by simp)
      simp; omega
    · simp at hr
  · unfold newV
    rw [Tr.gd, hn.good, gds_of fun t ht => by obtain ⟨c, hc, rfl⟩ := List.mem_map.mp ht; exact (i.good _ (hm c hc)).1]; rfl
  · unfold newV
    rw [Tr.size, sizes_map (f := bp b) fun c hc => (i.good _ (hm c hc)).2]
    show _ = 1 + _
    omega
theorem plt_le {v w : Nat × Tr} (h : plt v w = true) : v.1 ≤ w.1 := by
  unfold plt at h
  split at h
  · omega
  · have := of_decide_eq_true h; omega
theorem BInv.step {ks : List Str} {b : Bst} (i : BInv ks b) {o : Op} (hn : IsName o.nm) (hr : o.row.length ≤ 2) (hk : o.kd ∈ ks) : BInv ks (bStep b o) := by
  unfold bStep
  split
  · rename_i ha
    obtain ⟨n1, n2, n3⟩ := newV_ok i hn hr ha
    split
    · rename_i hc
      refine ⟨tPut_nd i.nd, fun e he => ?_, fun j e he => ?_, fun e he => ?_⟩
      · rcases mem_tPut he with rfl | ⟨he, _⟩ | ⟨he, _⟩
        · exact hk
        · exact i.sub e he
        · exact i.sub e he
      · unfold tPut at he
        cases hh : tHas b o.kd with
        | true =>
          rw [hh, if_pos rfl, List.getElem?_map] at he
          rw [Option.map_eq_some_iff] at he
          obtain ⟨x, hx, rfl⟩ := he
          by_cases z : x.1 = o.kd
          · rw [if_pos z]
            have h1 := plt_le (hc.resolve_left (by rw [hh]; decide))
            have h2 : bp b o.kd = x.2 := by
              have h3 := tGet_of_mem i.nd (k := x.1) (v := x.2) (List.mem_of_getElem? hx)
              unfold bp; rw [← z, h3]; rfl
            have h3 := i.sz j x hx
            rw [h2] at h1
            show (newV b o).1 + 1 ≤ _
            omega
          · rw [if_neg z]; exact i.sz j x hx
        | false =>
          rw [hh, if_neg (by decide)] at he
          rcases Nat.lt_or_ge j b.length with l | l
          · rw [List.getElem?_append_left l] at he
            exact i.sz j e he
          · rw [List.getElem?_append_right l] at he
            have h1 : j - b.length = 0 := by
              have := (List.getElem?_eq_some_iff.mp he).1
              simp at this; omega
            rw [h1] at he
            simp at he
            subst he
            have : j = b.length := by omega
            rw [this]; exact n1
      · rcases mem_tPut he with rfl | ⟨he, _⟩ | ⟨he, _⟩
        · exact ⟨n2, n3⟩
        · exact i.good e he
        · exact i.good e he
    · exact i
  · exact i
theorem BInv.round {ks : List Str} : ∀ {ops : List Op} {b : Bst}, BInv ks b → (∀ o ∈ ops, IsName o.nm ∧ o.row.length ≤ 2 ∧ o.kd ∈ ks) → BInv ks (bRound ops b)
  | [], b, i, _ => i
  | o :: r, b, i, h => by
    obtain ⟨h1, h2, h3⟩ := h o List.mem_cons_self
    exact (i.step h1 h2 h3).round fun p hp => h p (List.mem_cons_of_mem _ hp)
theorem BInv.rounds {ks : List Str} {ops : List Op} (h : ∀ o ∈ ops, IsName o.nm ∧ o.row.length ≤ 2 ∧ o.kd ∈ ks) : ∀ n, BInv ks (bests ops n)
  | 0 => BInv.nil ks
  | n + 1 => (BInv.rounds h n).round h
end Mi
end
section
set_option maxHeartbeats 1000000
namespace Mi
open PySem L2
def bOb (b : Bst) : Ob := .dic (b.map (kvS bV))
theorem intsD_map {α : Type} (f : α → Int) (as : List α) : intsD (as.map fun a => .int (f a)) = some (as.map f) := by
  induction as with
  | nil => rfl
  | cons a r ih => simp [intsD, ih]
theorem blsD_map {α : Type} (f : α → Bool) (as : List α) : blsD (as.map fun a => .bl (f a)) = some (as.map f) := by
  induction as with
  | nil => rfl
  | cons a r ih => simp [blsD, ih]
theorem sum_nat {α : Type} (f : α → Nat) (as : List α) : (as.map fun a => (f a : Int)).sum = ((as.map f).sum : Nat) := by
  induction as with
  | nil => rfl
  | cons a r ih => rw [List.map_cons, List.sum_cons, ih, List.map_cons, List.sum_cons]; omega
/-- a comprehension over texts whose items change nothing that stands -/
theorem cpM {α : Type} {g : GX} {tt : TX} {te : EX} {L : List Nat} {ρ : Rho} {x : Kx} {Q : D → Hh → Prop} (h0 : Hh) (m : α → D) {as : List α} {xs : List D} (f : α → D) (hx : xs = as.map f) (hl : as.length ≤ 16777216)
    (step : ∀ a ∈ as, ∀ h1, Gr h0 h1 → Item Gr (fun a y => y = m a) (fun _ => False) g tt te L ρ (f a) a h1)
    (fin : ∀ h1, Gr h0 h1 → h1[h0.length]? = some (.lst (as.map m)) → Q (.ref h0.length) h1) {n0 : Nat} {hh : Hh} (en : n0 = h0.length := by simp) (eh : hh = h0 ++ [.lst []] := by simp) : @Ev D (compV g tt te n0 xs ρ L hh) ⟨Q⟩ x :=
  cpV h0 Gr (rl_gr _) (fun a y => y = m a) (fun _ => False) f hx hl step (fun ys h1 G e C => fin h1 G (by rw [e, C.map])) en eh
theorem kinds_few {ops : List Op} {ks : List Str} (h : ∀ o ∈ ops, ∀ k ∈ o.kds, k ∈ ks) : (kindsIn ops).length ≤ ks.length :=
  (nd_kindsIn ops).length_le_of_subset fun k hk => by obtain ⟨o, ho, hk⟩ := mem_kindsIn.mp hk; exact h o ho k hk
/-- operators in whose kinds trees are looked for -/
structure Sane (ops : List Op) : Prop where
  nd : (ops.map Op.nm).Nodup
  nms : ∀ o ∈ ops, IsName o.nm
  kds : ∀ o ∈ ops, ∀ k ∈ o.kds, IsName k
  row : ∀ o ∈ ops, o.row.length ≤ 2
  few : (kindsIn ops).length ≤ 4
  len : ops.length ≤ 12
theorem Sane.inv {ops : List Op} (s : Sane ops) : ∀ n, BInv (kindsIn ops) (bests ops n) := BInv.rounds fun o ho => ⟨s.nms o ho, s.row o ho, mem_kindsIn.mpr ⟨o, ho, List.mem_cons_self⟩⟩
theorem BInv.small {ks : List Str} {b : Bst} (i : BInv ks b) (l : ks.length ≤ 4) {e : Str × Nat × Tr} (he : e ∈ b) : e.2.1 ≤ 15 := by
  have h1 := i.le he
  have h2 : 2 ^ b.length ≤ 2 ^ 4 := Nat.pow_le_pow_right (by decide) (Nat.le_trans i.len l)
  omega
theorem least_trees_ok {n m : Nat} {L : List Nat} {h : Hh} {ops : List Op} {ks : List D} (e : h[n]? = some (dicOf ops)) (em : h[m]? = some (.lst ks)) (lk : ks.length ≤ 4) (s : Sane ops) (hL : ∀ x ∈ L, x < h.length) : Ok (bodyX 10 p_least_trees [.ref n, .ref m] L h) fun v h' => ∃ q, v = .ref q ∧ h.length ≤ q ∧ h'[q]? = some (bOb (bests ops (ks.length + 1))) ∧ Gr h h' := by
  unfold Ok p_least_trees
  rw [Ev_bodyX]
  have lt := lt_of e
  simp [Gr.app.get em]
  rw [show ((ks.length : Int) + 1) = ((ks.length + 1 : Nat) : Int) by omega, rng_n (by omega)]
  simp
  refine lpV (as := List.range (ks.length + 1)) (f := fun (i : Nat) => .int i) (fun pre ρ h2 => ∃ x3 x4 x5 x6 x7 x8, ρ = [some (.ref n), some (.ref m), some (.ref h.length), x3, x4, x5, x6, x7, x8, none] ∧ Gr h h2 ∧ h2[h.length]? = some (bOb (bests ops pre.length))) rfl ⟨none, none, none, none, none, none, rfl, Gr.app, by simp [bOb, bests]⟩ ?_ ?_
  · rintro pre a post ρ h2 ea ⟨x3, x4, x5, x6, x7, x8, rfl, G, e2⟩
    have lpre : pre.length < ks.length + 1 := by have := congrArg List.length ea; simp at this; omega
    have hrd : ∀ (pr : List Op), (∃ po, ops = pr ++ po) → BInv (kindsIn ops) (pr.foldl bStep (bests ops pre.length)) := by
      rintro pr ⟨po, eo⟩
      exact (s.inv pre.length).round fun o ho => by
        have : o ∈ ops := by rw [eo]; exact List.mem_append_left _ ho
        exact ⟨s.nms o this, s.row o this, mem_kindsIn.mpr ⟨o, this, List.mem_cons_self⟩⟩
    simp [G.get e, dicOf]
    refine lpV (as := ops) (f := fun o => .str o.nm) (fun pr ρ h3 => ∃ x4 x5 x6 x7 x8, ρ = [some (.ref n), some (.ref m), some (.ref h.length), some (.int a), x4, x5, x6, x7, x8, none] ∧ Gr h h3 ∧ h3[h.length]? = some (bOb (pr.foldl bStep (bests ops pre.length)))) rfl ⟨x4, x5, x6, x7, x8, rfl, G, e2⟩ ?_ ?_
    · rintro pr o po ρ h3 eo ⟨x4, x5, x6, x7, x8, rfl, G3, e3⟩
      have ho : o ∈ ops := by rw [eo]; simp
      have inv := hrd pr ⟨_, eo⟩
      have invN := hrd (pr ++ [o]) ⟨po, by rw [eo]; simp⟩
      rw [List.foldl_append] at invN
      generalize hb : pr.foldl bStep (bests ops pre.length) = b at *
      have hfold : (pr ++ [o]).foldl bStep (bests ops pre.length) = bStep b o := by rw [List.foldl_append, hb]; rfl
      have lr := s.row o ho
      simp [G3.get e, dicOf, valD_op s.nd ho, Op.v]
      refine cpM h3 (fun c => .bl (tHas b c)) D.str rfl (by omega) ?_ ?_
      · intro c hc h4 G4
        unfold Item
        simp [G4.get e3, bOb, tGet_has]
        exact ⟨Gr.refl, rfl⟩
      · intro h4 G4 e4
        have e34 := G4.get e3
        simp [e4, blsD_map]
        have hall : ((o.row.map (tHas b)).all id) = o.row.all (tHas b) := by rw [List.all_map]; rfl
        refine Br.go (fun ha => ?_) (fun ha => ⟨_, _, _, _, _, rfl, G3.trans G4, by rw [e34, hfold]; unfold bStep; rw [if_neg (by simpa using ha)]⟩)
        have ha' : o.row.all (tHas b) = true := by simpa using ha
        have hget : ∀ c ∈ o.row, tGet b c = some (bp b c) := fun c hc => (bp_mem (List.all_eq_true.mp ha' c hc)).2
        obtain ⟨n1, n2, n3⟩ := newV_ok inv (s.nms o ho) lr ha'
        simp
        refine cpM h4 (fun c => .int ((bp b c).1 : Nat)) D.str rfl (by omega) ?_ ?_
        · intro c hc h5 G5
          unfold Item
          simp [G5.get e34, bOb, hget c hc, bV]
          exact ⟨Gr.refl, rfl⟩
        · intro h5 G5 e5
          simp [e5, intsD_map, sum_nat]
          have e35 := G5.get e34
          refine cpM h5 (fun c => (bp b c).2.d) D.str rfl (by omega) ?_ ?_
          · intro c hc h6 G6
            unfold Item
            simp [G6.get e35, bOb, hget c hc, bV]
            exact ⟨Gr.refl, rfl⟩
          · intro h6 G6 e6
            have e36 := G6.get e35
            have G36 := ((G3.trans G4).trans G5).trans G6
            simp [e6]
            refine Br.yes (by omega) ?_
            have hv : D.tup [D.int (1 + (((o.row.map fun c => (bp b c).1).sum : Nat) : Int)), D.tup (D.str o.nm :: o.row.map fun c => (bp b c).2.d)] = bV (newV b o) := by
              unfold bV newV
              rw [Tr.d_node, List.map_map]
              congr 2
            have nl : h.length ≠ n ∧ h.length ∉ L := ⟨by omega, fun z => by have := hL _ z; omega⟩
            have nl' : h.length ∉ n :: L := fun z => (List.mem_cons.mp z).elim nl.1 nl.2
            have lb : b.length < 16777216 := by have := inv.len; have := s.few; omega
            have put : ∀ (cd : tHas b o.kd = false ∨ plt (newV b o) (bp b o.kd) = true), Gr h (h6.set h.length (.dic ((tPut b o.kd (newV b o)).map (kvS bV)))) ∧ (h6.set h.length (.dic ((tPut b o.kd (newV b o)).map (kvS bV))))[h.length]? = some (bOb (bStep b o)) := fun cd => by
              refine ⟨G36.put (Nat.le_refl _), ?_⟩
              rw [List.getElem?_set_self (lt_of e36)]
              unfold bStep bOb
              rw [if_pos ha', if_pos cd]
            simp [e36, bOb, tGet_has]
            refine Br.go (fun hh => ?_) (fun hh => ?_)
            · simp [e36, bOb, nl', nl.1, nl.2, lb]
              rw [hv, putD_t]
              obtain ⟨p1, p2⟩ := put (.inl hh)
              exact ⟨_, _, _, _, _, rfl, p1, by rw [hfold]; exact p2⟩
            · have hh' : tHas b o.kd = true := by simpa using hh
              obtain ⟨w1, w2⟩ := bp_mem hh'
              simp [e36, bOb, w2]
              have g1 := inv.good _ w1
              have d1 : (bp b o.kd).2.dep ≤ 60 := by
                have := inv.small s.few w1
                have := dep_le_size (bp b o.kd).2
                have := g1.2
                simp only at *
                omega
              have d2 : (newV b o).2.dep ≤ 60 := by
                have := dep_le_size (newV b o).2
                have h1 : 2 ^ (b.length + 1) ≤ 2 ^ 5 := Nat.pow_le_pow_right (by decide) (by have := inv.len; have := s.few; omega)
                omega
              rw [hv, bLtW_pair n2 g1.1 d2 d1]
              simp
              refine Br.go (fun hp => ?_) (fun hp => ⟨_, _, _, _, _, rfl, G36, by rw [e36, hfold]; unfold bStep; rw [if_pos ha', if_neg (by rw [hh']; simp; simpa using hp)]⟩)
              simp [e36, bOb, nl', nl.1, nl.2, lb]
              rw [hv, putD_t]
              obtain ⟨p1, p2⟩ := put (.inr hp)
              exact ⟨_, _, _, _, _, rfl, p1, by rw [hfold]; exact p2⟩
    · rintro ρ h3 ⟨x4, x5, x6, x7, x8, rfl, G3, e3⟩
      exact ⟨_, _, _, _, _, _, rfl, G3, by rw [e3, List.length_append]; rfl⟩
  · rintro ρ h2 ⟨x3, x4, x5, x6, x7, x8, rfl, G, e2⟩
    simp
    exact ⟨h.length, rfl, Nat.le_refl _, by rw [e2, List.length_range], G⟩
theorem Tame.gr {h h' : Hh} {x : D} (t : Tame h x) (G : Gr h h') : Tame h' x := ⟨fun n e => by
  rcases t.rf n e with ⟨xs, z⟩ | ⟨kvs, z⟩
  · exact .inl ⟨xs, G.get z⟩
  · exact .inr ⟨kvs, G.get z⟩, t.st⟩
theorem seqOf_gr {h h' : Hh} {x : D} (t : Tame h x) (G : Gr h h') : seqOf x h' = seqOf x h := by
  cases x with
  | ref n =>
    rcases t.rf n rfl with ⟨xs, z⟩ | ⟨kvs, z⟩ <;> simp [seqOf, lstOf, z, G.get z]
  | _ => rfl
theorem Tame3.gr {h h' : Hh} {x : D} (t : Tame3 h x) (G : Gr h h') : Tame3 h' x := by
  have e := seqOf_gr t.t1 G
  refine ⟨t.t1.gr G, fun xs hx y hy => ?_, fun xs hx y hy ys hz z hzz => ?_, fun xs hx y hy ys hz => ?_⟩
  all_goals rw [e] at hx
  · exact (t.t2 xs hx y hy).gr G
  · rw [seqOf_gr (t.t2 xs hx y hy) G] at hz
    exact (t.t3 xs hx y hy ys hz z hzz).gr G
  · rw [seqOf_gr (t.t2 xs hx y hy) G] at hz
    exact t.sz xs hx y hy ys hz
theorem entryP_gr {h h' : Hh} {x : D} (t : Tame3 h x) (G : Gr h h') : entryP h' x = entryP h x := by
  unfold entryP
  rw [seqOf_gr t.t1 G]
  cases e : seqOf x h with
  | none => rfl
  | some xs =>
    simp only [Option.bind_some]
    rcases xs with _ | ⟨k, _ | ⟨r, _ | ⟨q, xs⟩⟩⟩ <;> try rfl
    simp only [entryL]
    rw [seqOf_gr (t.t2 _ e r (by simp)) G]
theorem entry_names {h : Hh} {x : D} {p : Str × List Str} (e : entryP h x = some p) : IsName p.1 ∧ (∀ k ∈ p.2, IsName k) ∧ p.2.length ≤ 2 := by
  unfold entryP at e
  rw [Option.bind_eq_some_iff] at e
  obtain ⟨xs, _, e⟩ := e
  rcases xs with _ | ⟨k, _ | ⟨r, _ | ⟨q, xs⟩⟩⟩ <;> simp only [entryL] at e <;> try (cases e)
  split at e
  · rename_i hk
    rw [Option.bind_eq_some_iff] at e
    obtain ⟨ys, _, e⟩ := e
    split at e
    · rename_i hy
      cases e
      refine ⟨(nameD_str hk).2, fun k hk' => ?_, by simp; exact hy.1⟩
      obtain ⟨y, hy', rfl⟩ := List.mem_map.mp hk'
      exact (nameD_str (List.all_eq_true.mp hy.2 y hy')).2
    · cases e
  · cases e
def keyS : Key → Str
  | .inr s => s
  | .inl _ => ""
def opOf (h : Hh) (kvs : List (Key × D)) (nm : Str) : Option Op := (valD kvs (.inr nm)).bind fun v => (entryP h v).map fun p => ⟨nm, p.1, p.2⟩
/-- every kind has a tree -/
def Full (ops : List Op) : Prop := (bests ops ((kindsIn ops).length + 1)).length = (kindsIn ops).length
instance (ops : List Op) : Decidable (Full ops) := inferInstanceAs (Decidable (_ = _))
def chkK (h : Hh) (kvs : List (Key × D)) : Option (List Op) := if 1 ≤ kvs.length ∧ kvs.length ≤ 12 ∧ kvs.all (fun kv => nameD (keyV kv.1)) = true then ((sortS (kvs.map fun kv => keyS kv.1)).mapM (opOf h kvs)).bind fun ops => if (kindsIn ops).length ≤ 4 ∧ Full ops then some ops else none else none
def chk (h : Hh) (x : D) : Option (List Op) := match x with
  | .ref n => (match h[n]? with
    | some (.dic kvs) => chkK h kvs
    | _ => none)
  | _ => none
theorem mapM_nm {h : Hh} {kvs : List (Key × D)} : ∀ {ns : List Str} {ops : List Op}, ns.mapM (opOf h kvs) = some ops → ops.map Op.nm = ns ∧ ∀ o ∈ ops, ∃ v, valD kvs (.inr o.nm) = some v ∧ entryP h v = some (o.kd, o.row)
  | [], ops, e => by
    simp at e
    subst e
    exact ⟨rfl, fun o ho => nomatch ho⟩
  | n :: ns, ops, e => by
    rw [List.mapM_cons] at e
    simp only [bind, Option.bind_eq_some_iff, pure] at e
    obtain ⟨o, ho, os, hos, e⟩ := e
    cases e
    obtain ⟨h1, h2⟩ := mapM_nm hos
    unfold opOf at ho
    rw [Option.bind_eq_some_iff] at ho
    obtain ⟨v, hv, ho⟩ := ho
    rw [Option.map_eq_some_iff] at ho
    obtain ⟨p, hp, rfl⟩ := ho
    refine ⟨by rw [List.map_cons, h1], fun o ho => ?_⟩
    rcases List.mem_cons.mp ho with rfl | ho
    · exact ⟨v, hv, hp⟩
    · exact h2 o ho
theorem chk_sane {h : Hh} {kvs : List (Key × D)} {ops : List Op} (nd : (kvs.map (·.1)).Nodup) (l : kvs.length ≤ 12) (ha : kvs.all (fun kv => nameD (keyV kv.1)) = true) (e : (sortS (kvs.map fun kv => keyS kv.1)).mapM (opOf h kvs) = some ops) (few : (kindsIn ops).length ≤ 4) : Sane ops := by
  obtain ⟨h1, h2⟩ := mapM_nm e
  have hn : ∀ kv ∈ kvs, kv.1 = .inr (keyS kv.1) ∧ IsName (keyS kv.1) := fun kv hkv => by
    have := List.all_eq_true.mp ha kv hkv
    obtain ⟨k, v⟩ := kv
    cases k with
    | inl i => cases this
    | inr s => exact ⟨rfl, nameS_iff.mp this⟩
  have hnd : (kvs.map fun kv => keyS kv.1).Nodup := by
    have : (kvs.map (·.1)) = (kvs.map fun kv => keyS kv.1).map Sum.inr := by
      rw [List.map_map]
      exact List.map_congr_left fun kv hkv => (hn kv hkv).1
    rw [this] at nd
    exact (List.pairwise_map.mp nd).imp fun h z => h (congrArg _ z)
  refine ⟨?_, fun o ho => ?_, fun o ho k hk => ?_, fun o ho => ?_, few, ?_⟩
  · rw [h1]; exact (List.mergeSort_perm _ _).nodup_iff.mpr hnd
  · have := List.mem_map_of_mem (f := Op.nm) ho
    rw [h1, mem_sortS] at this
    obtain ⟨kv, hkv, hz⟩ := List.mem_map.mp this
    rw [← hz]; exact (hn kv hkv).2
  · obtain ⟨v, _, hv⟩ := h2 o ho
    obtain ⟨p1, p2, _⟩ := entry_names hv
    rcases List.mem_cons.mp hk with rfl | hk
    · exact p1
    · exact p2 k hk
  · obtain ⟨v, _, hv⟩ := h2 o ho
    exact (entry_names hv).2.2
  · have := congrArg List.length h1
    rw [List.length_map, len_sortS, List.length_map] at this
    omega
theorem checked_ok {f0 f1 f2 f3 : FX} (e0 : f0 = bodyX 2 p_is_name) (e1 : f1 = bodyX 4 (p_checked_entry (bodyX 1 p_is_row) (bodyX 2 p_is_name))) (e2 : f2 = bodyX 6 p_kinds_in) (e3 : f3 = bodyX 10 p_least_trees) {x : D} {L : List Nat} {h : Hh} (t : Tame h x) (hL : ∀ n ∈ L, n < h.length)
    (hk : ∀ n kvs, x = .ref n → h[n]? = some (.dic kvs) → n ∉ L ∧ (kvs.map (·.1)).Nodup ∧ ∀ kv ∈ kvs, Tame3 h kv.2 ∧ ∀ s, kv.1 = .inr s → s.length ≤ 16777216) :
    Ok (bodyX 6 (p_checked_operators f0 f1 f2 f3) [x] L h) fun v h' => Gr h h' ∧ ((chk h x = none ∧ v = .non) ∨ ∃ ops m, chk h x = some ops ∧ Sane ops ∧ Full ops ∧ v = .ref m ∧ h.length ≤ m ∧ h'[m]? = some (dicOf ops)) := by
  unfold Ok p_checked_operators
  rw [Ev_bodyX]
  subst e0 e1 e2 e3
  have no : (∀ n kvs, x = .ref n → h[n]? ≠ some (.dic kvs)) → chk h x = none := fun z => by
    cases x with
    | ref n =>
      unfold chk
      rcases q : h[n]? with _ | ⟨_ | kvs | _ | _ | _⟩ <;> simp only [q]
      exact absurd q (z n kvs rfl)
    | _ => rfl
  cases x with
  | ref n =>
    rcases t.rf n rfl with ⟨xs, e⟩ | ⟨kvs, e⟩
    · simp [e, isB]
      exact ⟨Gr.refl, .inl ⟨no fun n' kvs z => by cases z; rw [e]; simp, rfl⟩⟩
    · obtain ⟨nL, nd, ht⟩ := hk n kvs rfl e
      have hchk : chk h (.ref n) = chkK h kvs := by unfold chk; simp only [e]
      have fail : ∀ {h' : Hh}, Gr h h' → chkK h kvs = none → @Stop ⟨Gr h h' ∧ ((chk h (D.ref n) = none ∧ D.non = .non) ∨ ∃ ops m, chk h (.ref n) = some ops ∧ Sane ops ∧ Full ops ∧ D.non = .ref m ∧ h.length ≤ m ∧ h'[m]? = some (dicOf ops))⟩ := fun G z => ⟨G, .inl ⟨hchk.trans z, rfl⟩⟩
      simp [e, isB]
      refine Br.go (fun h1 => ?_) (fun h1 => fail Gr.refl (by unfold chkK; rw [if_neg (fun z => h1 (by omega))]))
      simp
      refine Br.go (fun h2 => ?_) (fun h2 => fail Gr.refl (by unfold chkK; rw [if_neg (fun z => h2 (by omega))]))
      simp [e, nL]
      have G1 : Gr h (h ++ [.lst (keysOf keyV kvs)]) := Gr.app
      have lt := lt_of e
      refine lpL (as := kvs) (fun pre ρ h2 => Gr (h ++ [.lst (keysOf keyV kvs)]) h2 ∧ (∃ y, ρ = [some (.ref n), some (.ref h.length), y, none, none, none]) ∧ pre.all (fun kv => nameD (keyV kv.1)) = true) (fun kv => keyV kv.1) (by omega) ⟨Gr.refl, ⟨none, rfl⟩, rfl⟩ ?_ ?_ ?_
      · rintro pre ρ h2 ⟨G2, _⟩
        exact G2.get (get_new _ _)
      · rintro pre a post ρ h2 ea ⟨G2, ⟨y, rfl⟩, hp⟩
        simp
        have ha : a ∈ kvs := by rw [ea]; simp
        have ta : Tame h2 (keyV a.1) := by
          obtain ⟨k, v⟩ := a
          cases k with
          | inl i => exact ⟨fun n z => (by cases z), fun s z => (by cases z)⟩
          | inr s => exact ⟨fun n z => (by cases z), fun s' z => (by cases z; exact (ht _ ha).2 s rfl)⟩
        refine use (is_name_ok ta) ?_
        rintro _ _ ⟨rfl, rfl⟩
        simp
        refine Br.go (fun hn => ⟨G2, ⟨_, rfl⟩, by simp only [List.all_append, hp, List.all_cons, hn]; rfl⟩) (fun hn => fail (G1.trans G2) (by unfold chkK; rw [if_neg (fun z => hn (List.all_eq_true.mp z.2.2 a ha))]))
      · rintro ρ h2 ⟨G2, ⟨y, rfl⟩, hall⟩
        have hcond : 1 ≤ kvs.length ∧ kvs.length ≤ 12 ∧ kvs.all (fun kv => nameD (keyV kv.1)) = true := ⟨by omega, by omega, hall⟩
        have hstr : keysOf keyV kvs = (kvs.map fun kv => keyS kv.1).map D.str := by
          unfold keysOf
          rw [List.map_map]
          apply List.map_congr_left
          intro kv hkv
          have := List.all_eq_true.mp hall kv hkv
          obtain ⟨k, v⟩ := kv
          cases k with
          | inl i => cases this
          | inr s => rfl
        have G02 := G1.trans G2
        have l2 := G02.len
        have eK := G2.get (get_new h (.lst (keysOf keyV kvs)))
        rw [hstr] at eK
        have lt2 := lt_of eK
        generalize hss : (kvs.map fun kv => keyS kv.1) = ss at *
        have lss : ss.length = kvs.length := by rw [← hss, List.length_map]
        generalize hns : sortS ss = ns
        have lns : ns.length = kvs.length := by rw [← hns, len_sortS, lss]
        have hnds : ss.Nodup := by
          have h3 : ∀ kv ∈ kvs, kv.1 = .inr (keyS kv.1) := fun kv hkv => by
            have := List.all_eq_true.mp hall kv hkv
            obtain ⟨k, v⟩ := kv
            cases k with
            | inl i => cases this
            | inr s => rfl
          have : (kvs.map (·.1)) = ss.map Sum.inr := by
            rw [← hss, List.map_map]
            exact List.map_congr_left h3
          rw [this] at nd
          exact (List.pairwise_map.mp nd).imp fun h z => h (congrArg _ z)
        have hndn : ns.Nodup := by rw [← hns]; exact (List.mergeSort_perm _ _).nodup_iff.mpr hnds
        have hget : ∀ s ∈ ns, ∃ v, valD kvs (.inr s) = some v ∧ Tame3 h v := fun s hs => by
          rw [← hns, mem_sortS, ← hss] at hs
          obtain ⟨kv, hkv, rfl⟩ := List.mem_map.mp hs
          have h3 : (kvs.any fun kv' => decide (kv'.1 = Sum.inr (keyS kv.1))) = true := List.any_eq_true.mpr ⟨kv, hkv, decide_eq_true (by
            have := List.all_eq_true.mp hall kv hkv
            obtain ⟨k, v⟩ := kv
            cases k with
            | inl i => cases this
            | inr s => rfl)⟩
          unfold valD
          obtain ⟨x, hx⟩ : ∃ x, kvs.find? (fun kv' => decide (kv'.1 = Sum.inr (keyS kv.1))) = some x := by
            cases q : kvs.find? (fun kv' => decide (kv'.1 = Sum.inr (keyS kv.1))) with
            | some x => exact ⟨x, rfl⟩
            | none =>
              rw [List.find?_eq_none] at q
              obtain ⟨y, hy, hy2⟩ := List.any_eq_true.mp h3
              exact absurd hy2 (q y hy)
          exact ⟨x.2, by rw [hx]; rfl, (ht x (List.mem_of_find?_eq_some hx)).1⟩
        simp [(Gr.new h2 (.dic [])).get eK, hns, show ss.length < 64 by omega]
        refine lpL (as := ns) (fun pre ρ h3 => Gr h2 h3 ∧ h3[h2.length + 1]? = some (.lst (ns.map .str)) ∧ ∃ y z ops, ρ = [some (.ref n), some (.ref h.length), y, some (.ref h2.length), none, z] ∧ pre.mapM (opOf h kvs) = some ops ∧ h3[h2.length]? = some (dicOf ops)) D.str (by omega) ⟨Gr.app, by simp, y, none, [], rfl, rfl, by simp [dicOf]⟩ ?_ ?_ ?_
        · rintro pre ρ h3 ⟨_, z, _⟩
          exact z
        · rintro pre a post ρ h3 ea ⟨G3, e3, y, z, ops, rfl, hops, e4⟩
          have ha : a ∈ ns := by rw [ea]; simp
          obtain ⟨v, hv, tv⟩ := hget a ha
          have Gh3 := G02.trans G3
          simp [Gh3.get e, hv]
          refine use (checked_entry_ok rfl rfl (tv.gr Gh3)) ?_
          rintro _ _ ⟨rfl, rfl⟩
          rw [entryP_gr tv Gh3]
          have hfail : entryP h v = none → chkK h kvs = none := fun z => by
            unfold chkK
            rw [if_pos hcond, hss, hns, ea]
            have : (pre ++ a :: post).mapM (opOf h kvs) = none := by
              rw [List.mapM_append, hops, List.mapM_cons]
              have : opOf h kvs a = none := by unfold opOf; rw [hv]; simp [z]
              rw [this]; rfl
            rw [this]; rfl
          cases hent : entryP h v with
          | none =>
            simp [entryD]
            exact fail Gh3 (hfail hent)
          | some p =>
            have nl : h2.length ∉ L := fun z => by have := hL _ z; omega
            obtain ⟨hmap, _⟩ := mapM_nm hops
            have hfr : a ∉ ops.map Op.nm := by
              rw [hmap]
              intro z
              rw [ea] at hndn
              have := (List.nodup_append.mp hndn).2.2 a z a (by simp)
              exact this rfl
            have lo : ops.length < 16777216 := by
              have := congrArg List.length hmap
              have := congrArg List.length ea
              simp at *
              omega
            have ep := putD_new (o := ⟨a, p.1, p.2⟩) hfr
            simp only [Op.v] at ep
            simp [entryD, e4, dicOf, nl, lo, ep]
            refine ⟨G3.put (by omega), ?_, _, _, ops ++ [⟨a, p.1, p.2⟩], rfl, ?_, ?_⟩
            · rw [List.getElem?_set_ne (by omega)]; exact e3
            · have : opOf h kvs a = some ⟨a, p.1, p.2⟩ := by unfold opOf; rw [hv]; simp [hent]
              rw [List.mapM_append, hops, List.mapM_cons, this]; rfl
            · rw [List.getElem?_set_self (lt_of e4)]; simp [dicOf]
        · rintro ρ h3 ⟨G3, e3, y, z, ops, rfl, hops, e4⟩
          have Gh3 := G02.trans G3
          rw [← hns, ← hss] at hops
          obtain ⟨hmap, hents⟩ := mapM_nm hops
          have lo : ops.length ≤ 12 := by
            have := congrArg List.length hmap
            rw [hss, hns] at this
            simp at this
            omega
          have hndo : (ops.map Op.nm).Nodup := by rw [hmap, hss, hns]; exact hndn
          have hrow : ∀ o ∈ ops, o.row.length ≤ 2 := fun o ho => by
            obtain ⟨v, _, hv⟩ := hents o ho
            exact (entry_names hv).2.2
          simp
          refine use (kinds_in_ok e4 hndo hrow (by omega)) ?_
          rintro _ h4 ⟨m, rfl, lm, em, G4⟩
          have Gh4 := Gh3.trans G4
          simp [em]
          have hfin : chkK h kvs = if (kindsIn ops).length ≤ 4 ∧ Full ops then some ops else none := by
            unfold chkK
            rw [if_pos hcond, hops]; rfl
          refine Br.go (fun h5 => fail Gh4 (by rw [hfin, if_neg (fun z => by omega)])) (fun h5 => ?_)
          have hs : Sane ops := chk_sane nd (by omega) hall hops (by omega)
          simp
          refine use (least_trees_ok (G4.get e4) em (by simp; omega) hs (fun n hn => by have := hL n hn; have := Gh4.len; omega)) ?_
          rintro _ h5 ⟨q, rfl, lq, eq, G5⟩
          simp [eq, bOb, G5.get em]
          refine Br.go (fun h6 => ?_) (fun h6 => fail (Gh4.trans G5) (by rw [hfin, if_neg]; rintro ⟨_, z⟩; exact h6 (congrArg Nat.cast z)))
          have hf : Full ops := Int.ofNat.inj h6
          refine ⟨Gh4.trans G5, .inr ⟨ops, h2.length, ?_, hs, hf, rfl, by omega, G5.get (G4.get e4)⟩⟩
          rw [hchk, hfin, if_pos ⟨by omega, hf⟩]
  | frl xs =>
    simp [uIsi, tyD, isB]
    exact ⟨Gr.refl, .inl ⟨rfl, rfl⟩⟩
  | _ =>
    simp [isB]
    exact ⟨Gr.refl, .inl ⟨rfl, rfl⟩⟩
end Mi
end
section
set_option maxHeartbeats 1000000
namespace Mi
open PySem L2
structure Lang (ops : List Op) : Prop where
  sane : Sane ops
  ne : 1 ≤ ops.length
  rank : ∃ rk : Str → Nat, ∀ k ∈ kindsIn ops, rk k ≤ (kindsIn ops).length ∧ ∃ o ∈ ops, o.kd = k ∧ ∀ c ∈ o.row, rk c < rk k
theorem tHas_put {α : Type} {b : List (Str × α)} {k c : Str} {v : α} (h : tHas b c = true ∨ c = k) : tHas (tPut b k v) c = true := by
  rw [tHas_iff, tPut_keys]
  rcases h with h | rfl
  · rw [tHas_iff] at h
    split
    · exact h
    · exact List.mem_append_left _ h
  · split
    · rename_i z; exact tHas_iff.mp z
    · simp
theorem has_step {b : Bst} {o : Op} {c : Str} (h : tHas b c = true) : tHas (bStep b o) c = true := by
  unfold bStep
  split
  · split
    · exact tHas_put (.inl h)
    · exact h
  · exact h
theorem has_fold {c : Str} : ∀ {ops : List Op} {b : Bst}, tHas b c = true → tHas (bRound ops b) c = true
  | [], b, h => h
  | o :: r, b, h => has_fold (ops := r) (has_step h)
theorem has_new {c : Str} {o : Op} (hk : o.kd = c) : ∀ {ops : List Op} {b : Bst}, o ∈ ops → (∀ x ∈ o.row, tHas b x = true) → tHas (bRound ops b) c = true
  | p :: r, b, ho, h => by
    rcases List.mem_cons.mp ho with rfl | ho
    · refine has_fold (ops := r) ?_
      unfold bStep
      rw [if_pos (List.all_eq_true.mpr h)]
      split
      · exact tHas_put (.inr hk.symm)
      · rename_i z
        rw [← hk]
        cases q : tHas b o.kd with
        | true => rfl
        | false => exact absurd (.inl q) z
    · exact has_new hk (ops := r) ho fun x hx => has_step (h x hx)
theorem has_rank {ops : List Op} {rk : Str → Nat} (hr : ∀ k ∈ kindsIn ops, ∃ o ∈ ops, o.kd = k ∧ ∀ c ∈ o.row, rk c < rk k) : ∀ (n : Nat) (k : Str), k ∈ kindsIn ops → rk k < n → tHas (bests ops n) k = true
  | 0, k, _, h => by omega
  | n + 1, k, hk, h => by
    obtain ⟨o, ho, e, hc⟩ := hr k hk
    refine has_new e ho fun x hx => ?_
    have h1 := hc x hx
    exact has_rank hr n x (mem_kindsIn.mpr ⟨o, ho, List.mem_cons_of_mem _ hx⟩) (by omega)
theorem Lang.full {ops : List Op} (l : Lang ops) : Full ops := by
  obtain ⟨rk, hr⟩ := l.rank
  have inv := l.sane.inv ((kindsIn ops).length + 1)
  refine Nat.le_antisymm inv.len ?_
  have := (nd_kindsIn ops).length_le_of_subset (l₂ := (bests ops ((kindsIn ops).length + 1)).map (·.1)) fun k hk => by
    obtain ⟨h1, h2⟩ := hr k hk
    exact tHas_iff.mp (has_rank (fun k hk => (hr k hk).2) _ k hk (by omega))
  rw [List.length_map] at this
  exact this
theorem Drawn.lang {ops : List Op} (d : Drawn ops) : Lang ops := by
  obtain ⟨ks, l4, hks⟩ := d.few
  refine ⟨⟨d.nd, d.nms, d.kds, d.row, Nat.le_trans (kinds_few hks) l4, by have := d.len; omega⟩, by have := d.two; omega, fun _ => 0, fun k hk => ⟨Nat.zero_le _, ?_⟩⟩
  obtain ⟨o, ho, hk⟩ := mem_kindsIn.mp hk
  obtain ⟨p, hp, h1, h2⟩ := d.leaf o ho k hk
  exact ⟨p, hp, h1, fun c hc => by rw [h2] at hc; cases hc⟩
theorem kinds_same {a b : List Op} (h : ∀ o, o ∈ a ↔ o ∈ b) : (∀ k, k ∈ kindsIn a ↔ k ∈ kindsIn b) ∧ (kindsIn a).length = (kindsIn b).length := by
  have h1 : ∀ k, k ∈ kindsIn a ↔ k ∈ kindsIn b := fun k => by
    rw [mem_kindsIn, mem_kindsIn]
    exact ⟨fun ⟨o, ho, hk⟩ => ⟨o, (h o).mp ho, hk⟩, fun ⟨o, ho, hk⟩ => ⟨o, (h o).mpr ho, hk⟩⟩
  exact ⟨h1, Nat.le_antisymm ((nd_kindsIn a).length_le_of_subset fun k hk => (h1 k).mp hk) ((nd_kindsIn b).length_le_of_subset fun k hk => (h1 k).mpr hk)⟩
theorem nd_of_map {α β : Type} {f : α → β} : ∀ {as : List α}, (as.map f).Nodup → as.Nodup
  | [], _ => List.nodup_nil
  | a :: r, h => by
    rw [List.map_cons, List.nodup_cons] at h
    exact List.nodup_cons.mpr ⟨fun z => h.1 (List.mem_map_of_mem z), nd_of_map h.2⟩
theorem Lang.perm {a b : List Op} (l : Lang a) (nd : (b.map Op.nm).Nodup) (h : ∀ o, o ∈ b ↔ o ∈ a) : Lang b := by
  obtain ⟨k1, k2⟩ := kinds_same h
  have len : b.length = a.length := Nat.le_antisymm ((nd_of_map nd).length_le_of_subset fun o ho => (h o).mp ho) ((nd_of_map l.sane.nd).length_le_of_subset fun o ho => (h o).mpr ho)
  obtain ⟨rk, hr⟩ := l.rank
  refine ⟨⟨nd, fun o ho => l.sane.nms o ((h o).mp ho), fun o ho => l.sane.kds o ((h o).mp ho), fun o ho => l.sane.row o ((h o).mp ho), by rw [k2]; exact l.sane.few, by rw [len]; exact l.sane.len⟩, by rw [len]; exact l.ne, rk, fun k hk => ?_⟩
  obtain ⟨h1, o, ho, h2⟩ := hr k ((k1 k).mp hk)
  exact ⟨by rw [k2]; exact h1, o, (h o).mpr ho, h2⟩
/-- the same operators, in the order of their names -/
structure Held (ops held : List Op) : Prop where
  lang : Lang held
  mem : ∀ o, o ∈ held ↔ o ∈ ops
  nms : held.map Op.nm = sortS (ops.map Op.nm)
theorem entry_op {h : Hh} {o : Op} (hk : IsName o.kd) (hr : ∀ k ∈ o.row, IsName k) (l : o.row.length ≤ 2) : entryP h o.v = some (o.kd, o.row) := by
  unfold entryP Op.v
  simp only [seqOf, Option.bind_some, entryL, nameD, nameS_iff.mpr hk, if_true, List.length_map, l, true_and]
  have h1 : (o.row.map D.str).all nameD = true := by
    rw [List.all_map]
    exact List.all_eq_true.mpr fun k hk => nameS_iff.mpr (hr k hk)
  rw [if_pos h1, List.map_map]
  have h2 : o.row.map (strD ∘ D.str) = o.row := by
    have : (strD ∘ D.str) = id := rfl
    rw [this, List.map_id]
  rw [h2]; rfl
theorem mapM_total {h : Hh} {kvs : List (Key × D)} : ∀ {ns : List Str}, (∀ n ∈ ns, ∃ o, opOf h kvs n = some o) → ∃ os, ns.mapM (opOf h kvs) = some os
  | [], _ => ⟨[], rfl⟩
  | n :: ns, p => by
    obtain ⟨o, ho⟩ := p n List.mem_cons_self
    obtain ⟨os, hos⟩ := mapM_total (ns := ns) fun m hm => p m (List.mem_cons_of_mem _ hm)
    exact ⟨o :: os, by rw [List.mapM_cons, ho, hos]; rfl⟩
/-- a language is let by -/
theorem chk_lang {h : Hh} {n : Nat} {ops : List Op} (e : h[n]? = some (dicOf ops)) (l : Lang ops) : ∃ held, chk h (.ref n) = some held ∧ Held ops held := by
  have s := l.sane
  have hkey : (ops.map Op.kv).map (fun kv => keyS kv.1) = ops.map Op.nm := by rw [List.map_map]; rfl
  have hop : ∀ o ∈ ops, opOf h (ops.map Op.kv) o.nm = some o := fun o ho => by
    unfold opOf
    rw [valD_op s.nd ho]
    simp only [Option.bind_some]
    rw [entry_op (s.kds o ho _ List.mem_cons_self) (fun k hk => s.kds o ho k (List.mem_cons_of_mem _ hk)) (s.row o ho)]; rfl
  obtain ⟨held, hh⟩ := mapM_total (h := h) (kvs := ops.map Op.kv) (ns := sortS (ops.map Op.nm)) fun m hm => by
    obtain ⟨o, ho, rfl⟩ := List.mem_map.mp (mem_sortS.mp hm)
    exact ⟨o, hop o ho⟩
  obtain ⟨m1, m2⟩ := mapM_nm hh
  have nd : (held.map Op.nm).Nodup := by rw [m1]; exact (List.mergeSort_perm _ _).nodup_iff.mpr s.nd
  have hm1 : ∀ o ∈ held, o ∈ ops := fun o ho => by
    have h1 : o.nm ∈ ops.map Op.nm := by rw [← mem_sortS, ← m1]; exact List.mem_map_of_mem ho
    obtain ⟨p, hp, e⟩ := List.mem_map.mp h1
    obtain ⟨v, h2, h3⟩ := m2 o ho
    have h4 := hop p hp
    unfold opOf at h4
    rw [e, h2] at h4
    simp only [Option.bind_some, h3, Option.map_some] at h4
    rw [← Option.some.inj h4] at hp
    exact hp
  have hm : ∀ o, o ∈ held ↔ o ∈ ops := fun o => ⟨hm1 o, fun ho => by
    have h1 : o.nm ∈ held.map Op.nm := by rw [m1, mem_sortS]; exact List.mem_map_of_mem ho
    obtain ⟨p, hp, e⟩ := List.mem_map.mp h1
    have h2 := find_op s.nd (hm1 p hp)
    have h3 := find_op s.nd ho
    rw [e, h3] at h2
    rw [Option.some.inj h2]; exact hp⟩
  have lh := l.perm nd hm
  refine ⟨held, ?_, lh, hm, m1⟩
  have hchk : chk h (.ref n) = chkK h (ops.map Op.kv) := by unfold chk; simp only [e]; rfl
  rw [hchk]
  unfold chkK
  rw [hkey, hh, if_pos, Option.bind_some, if_pos ⟨lh.sane.few, lh.full⟩]
  have := s.len
  have := l.ne
  refine ⟨by rw [List.length_map]; omega, by rw [List.length_map]; omega, ?_⟩
  rw [List.all_map]
  exact List.all_eq_true.mpr fun o ho => nameS_iff.mpr (s.nms o ho)
def srcOb (c : Nat) (m : Nat) (root : Str) (ops : List Op) : Ob := .ins c [("held", .ref m), ("root", .str root), ("kind_names", .tup ((kindsIn ops).map .str))]
structure IsSrc (c : Nat) (h : Hh) (n : Nat) (ops : List Op) (root : Str) : Prop where
  ob : ∃ m, h[n]? = some (srcOb c m root ops) ∧ h[m]? = some (dicOf ops) ∧ 4 ≤ m
  sane : Lang ops
  root : root ∈ kindsIn ops
  four : 4 ≤ n
theorem IsSrc.gr {c : Nat} {h h' : Hh} {n : Nat} {ops : List Op} {root : Str} (s : IsSrc c h n ops root) (G : Gr h h') : IsSrc c h' n ops root := by
  obtain ⟨⟨m, e1, e2, l⟩, a, b, d⟩ := s
  exact ⟨⟨m, G.get e1, G.get e2, l⟩, a, b, d⟩
theorem IsSrc.bx {c : Nat} {h h' : Hh} {n : Nat} {ops : List Op} {root : Str} (s : IsSrc c h n ops root) (G : Bx h h') : IsSrc c h' n ops root := by
  obtain ⟨⟨m, e1, e2, l⟩, a, b, d⟩ := s
  exact ⟨⟨m, G.lst d e1, G.lst l e2, l⟩, a, b, d⟩
theorem tame3_op {h : Hh} {o : Op} (l : o.row.length ≤ 2) (nm : ∀ k ∈ o.kds, IsName k) : Tame3 h o.v := by
  have ts : ∀ s, IsName s → Tame h (.str s) := fun s n => ⟨fun n z => (by cases z), fun s' z => (by cases z; have := n.len; omega)⟩
  have tt : ∀ xs, Tame h (.tup xs) := fun xs => ⟨fun n z => (by cases z), fun s' z => (by cases z)⟩
  refine ⟨tt _, fun xs e y hy => ?_, fun xs e y hy ys ez z hz => ?_, fun xs e y hy ys ez => ?_⟩ <;> (have e' : [D.str o.kd, .tup (o.row.map .str)] = xs := Option.some.inj e) <;> subst e' <;> simp only [List.mem_cons, List.mem_nil_iff, or_false] at hy <;> rcases hy with rfl | rfl
  · exact ts _ (nm _ List.mem_cons_self)
  · exact tt _
  · simp [seqOf, lstOf] at ez
  · have e' : o.row.map .str = ys := Option.some.inj ez
    subst e'
    obtain ⟨k, hk, rfl⟩ := List.mem_map.mp hz
    exact ts _ (nm _ (List.mem_cons_of_mem _ hk))
  · simp [seqOf, lstOf] at ez
  · have e' : o.row.map .str = ys := Option.some.inj ez
    subst e'
    rw [List.length_map]; omega
theorem tame3_ops {h : Hh} {ops : List Op} (s : Sane ops) : ∀ kv ∈ ops.map Op.kv, Tame3 h kv.2 ∧ ∀ s, kv.1 = .inr s → s.length ≤ 16777216 := fun kv hkv => by
  obtain ⟨o, ho, rfl⟩ := List.mem_map.mp hkv
  exact ⟨tame3_op (s.row o ho) (s.kds o ho), fun z hz => by cases hz; have := (s.nms o ho).len; omega⟩
theorem nd_kv {ops : List Op} (nd : (ops.map Op.nm).Nodup) : ((ops.map Op.kv).map (·.1)).Nodup := by
  have : (ops.map Op.kv).map (·.1) = (ops.map Op.nm).map Sum.inr := by rw [List.map_map, List.map_map]; rfl
  rw [this]
  exact List.pairwise_map.mpr (nd.imp fun h z => h (Sum.inr.inj z))
@[simp] theorem ne_hr : (Str.ofString "held" = Str.ofString "root") = False := by decide +kernel
@[simp] theorem ne_hk : (Str.ofString "held" = Str.ofString "kind_names") = False := by decide +kernel
@[simp] theorem ne_rk : (Str.ofString "root" = Str.ofString "kind_names") = False := by decide +kernel
@[simp] theorem lk_h (a b c : D) : List.lookup (Str.ofString "held") [(Str.ofString "held", a), (Str.ofString "root", b), (Str.ofString "kind_names", c)] = some a := by simp [List.lookup]
theorem beq_str (a b : Str) : (a == b) = decide (a = b) := by
  rw [Bool.eq_iff_iff]; simp
@[simp] theorem ne_rh : (Str.ofString "root" = Str.ofString "held") = False := by decide +kernel
@[simp] theorem ne_kh : (Str.ofString "kind_names" = Str.ofString "held") = False := by decide +kernel
@[simp] theorem ne_kr : (Str.ofString "kind_names" = Str.ofString "root") = False := by decide +kernel
@[simp] theorem lk_r (a b c : D) : List.lookup (Str.ofString "root") [(Str.ofString "held", a), (Str.ofString "root", b), (Str.ofString "kind_names", c)] = some b := by simp [List.lookup, beq_str]
@[simp] theorem lk_k (a b c : D) : List.lookup (Str.ofString "kind_names") [(Str.ofString "held", a), (Str.ofString "root", b), (Str.ofString "kind_names", c)] = some c := by simp [List.lookup, beq_str]
/-- what a source is made of, or refused for -/
theorem source_ok {f0 f1 : FX} {c0 c : Nat} {l0 : List Nat} (e0 : f0 = bodyX 6 (p_checked_operators (bodyX 2 p_is_name) (bodyX 4 (p_checked_entry (bodyX 1 p_is_row) (bodyX 2 p_is_name))) (bodyX 6 p_kinds_in) (bodyX 10 p_least_trees))) (e1 : f1 = bodyX 6 p_kinds_in) (hc : c ∈ l0) {x root : D} {L : List Nat} {h : Hh} (t : Tame h x) (tr : Tame h root) (hL : ∀ n ∈ L, n < h.length) (l4 : 4 ≤ h.length)
    (hk : ∀ n kvs, x = .ref n → h[n]? = some (.dic kvs) → n ∉ L ∧ (kvs.map (·.1)).Nodup ∧ ∀ kv ∈ kvs, Tame3 h kv.2 ∧ ∀ s, kv.1 = .inr s → s.length ≤ 16777216) :
    OkX (bodyX 5 (p_Source___init__ f0 c0 f1 l0) [.ref h.length, x, root] L (h ++ [.ins c []])) (fun v h' => Gr h h' ∧ v = .non ∧ ∃ ops r, chk h x = some ops ∧ Sane ops ∧ Full ops ∧ root = .str r ∧ r ∈ kindsIn ops ∧ ∃ m, h'[h.length]? = some (srcOb c m r ops) ∧ h'[m]? = some (dicOf ops) ∧ 4 ≤ m)
      (fun c' p h' => Gr h h' ∧ c' = c0 ∧ ((chk h x = none ∧ p = some x) ∨ ∃ ops, chk h x = some ops ∧ p = some root ∧ ∀ r, root = .str r → r ∉ kindsIn ops)) := by
  unfold OkX p_Source___init__
  rw [Ev_bodyX]
  subst e0 e1
  have Ga : Gr h (h ++ [.ins c []]) := Gr.app
  have hchk : chk (h ++ [.ins c []]) x = chk h x := by
    cases x with
    | ref n =>
      rcases t.rf n rfl with ⟨xs, z⟩ | ⟨kvs, z⟩
      · unfold chk; simp only [Ga.get z, z]
      · obtain ⟨_, _, ht⟩ := hk n kvs rfl z
        unfold chk; simp only [Ga.get z, z]
        unfold chkK
        split
        · congr 1
          refine congrArg (fun f : Str → Option Op => List.mapM (m := Option) f (sortS (kvs.map fun kv => keyS kv.1))) ?_
          funext nm
          unfold opOf
          cases q : valD kvs (.inr nm) with
          | none => rfl
          | some v =>
            simp only [Option.bind_some]
            unfold valD at q
            rw [Option.map_eq_some_iff] at q
            obtain ⟨kv, q1, rfl⟩ := q
            rw [entryP_gr (ht kv (List.mem_of_find?_eq_some q1)).1 Ga]
        · rfl
    | _ => rfl
  simp
  refine use (checked_ok rfl rfl rfl rfl (t.gr Ga) (fun n hn => by have := hL n hn; simp; omega) (fun n kvs ex ekv => ?_)) ?_
  · subst ex
    rcases t.rf n rfl with ⟨xs, z⟩ | ⟨kvs', z⟩
    · rw [Ga.get z] at ekv; cases ekv
    · rw [Ga.get z] at ekv
      cases ekv
      obtain ⟨k1, k2, k3⟩ := hk n kvs rfl z
      exact ⟨k1, k2, fun kv hkv => ⟨(k3 kv hkv).1.gr Ga, (k3 kv hkv).2⟩⟩
  rintro v h1 ⟨G1, ⟨hch, rfl⟩ | ⟨ops, m, hch, s, fu, rfl, lm, em⟩⟩
  · simp
    rw [hchk] at hch
    exact ⟨Ga.trans G1, rfl, .inl ⟨hch, rfl⟩⟩
  · rw [hchk] at hch
    have lm' : h.length + 1 ≤ m := by simpa using lm
    simp
    refine use (kinds_in_ok em s.nd s.row (by have := s.len; omega)) ?_
    rintro _ h2 ⟨q, rfl, lq, eq, G2⟩
    have G02 := (Ga.trans G1).trans G2
    have eS : h2[h.length]? = some (.ins c []) := G2.get (G1.get (get_new _ _))
    have fail : (∀ r, root = .str r → r ∉ kindsIn ops) → @Stop ⟨Gr h h2 ∧ c0 = c0 ∧ ((chk h x = none ∧ some root = some x) ∨ ∃ ops, chk h x = some ops ∧ some root = some root ∧ ∀ r, root = .str r → r ∉ kindsIn ops)⟩ := fun z => ⟨G02, rfl, .inr ⟨ops, hch, rfl, z⟩⟩
    cases root with
    | str r =>
      simp [isB, eq]
      refine Br.go (fun hr => ?_) (fun hr => fail fun r' z => by cases z; simpa using hr)
      have hr' : r ∈ kindsIn ops := by simpa using hr
      have ne : h.length ≠ q := by have := G1.len; simp at this; omega
      have l2 := lt_of eS
      have gs : ∀ o, (h2.set h.length o)[h.length]? = some o := fun o => List.getElem?_set_self l2
      have gn : ∀ o, (h2.set h.length o)[q]? = some (.lst ((kindsIn ops).map .str)) := fun o => by rw [List.getElem?_set_ne ne]; exact eq
      clear l2
      simp [eS, hc, putFD, gs, gn]
      refine ⟨?_, rfl, ops, r, hch, s, fu, rfl, hr', m, ?_, ?_, by omega⟩
      · exact G02.put (Nat.le_refl _)
      · exact gs _
      · rw [List.getElem?_set_ne (by omega)]; exact G2.get em
    | ref n =>
      rcases tr.rf n rfl with ⟨xs, z⟩ | ⟨kvs, z⟩ <;> simp [G02.get z, isB] <;> exact fail fun r' z => by cases z
    | frl xs =>
      simp [uIsi, tyD, isB]
      exact fail fun r' z => by cases z
    | _ =>
      simp [isB]
      exact fail fun r' z => by cases z
theorem make_source {f0 f1 : FX} {c0 c : Nat} {l0 : List Nat} (e0 : f0 = bodyX 6 (p_checked_operators (bodyX 2 p_is_name) (bodyX 4 (p_checked_entry (bodyX 1 p_is_row) (bodyX 2 p_is_name))) (bodyX 6 p_kinds_in) (bodyX 10 p_least_trees))) (e1 : f1 = bodyX 6 p_kinds_in) (hc : c ∈ l0) {n : Nat} {r : Str} {ops : List Op} {L : List Nat} {h : Hh} (e : h[n]? = some (dicOf ops)) (l : Lang ops) (hr : r ∈ kindsIn ops) (hL : ∀ n ∈ L, n < h.length) (hn : n ∉ L) (l4 : 4 ≤ h.length) :
    Ok (bodyX 5 (p_Source___init__ f0 c0 f1 l0) [.ref h.length, .ref n, .str r] L (h ++ [.ins c []])) (fun v h' => Gr h h' ∧ v = .non ∧ ∃ held, Held ops held ∧ IsSrc c h' h.length held r) := by
  have t : Tame h (.ref n) := ⟨fun m z => (by cases z; exact .inr ⟨_, e⟩), fun s z => (by cases z)⟩
  have rl : r.length ≤ 16777216 := by
    obtain ⟨o, ho, hk⟩ := mem_kindsIn.mp hr
    have := (l.sane.kds o ho r hk).len; omega
  have tr : Tame h (.str r) := ⟨fun m z => (by cases z), fun s z => (by cases z; exact rl)⟩
  have := source_ok (c0 := c0) e0 e1 hc t tr hL l4 (fun m kvs z ekv => by
    cases z
    rw [e] at ekv
    cases ekv
    exact ⟨hn, nd_kv l.sane.nd, tame3_ops l.sane⟩)
  obtain ⟨held, hch, hd⟩ := chk_lang e l
  have hr' : r ∈ kindsIn held := ((kinds_same hd.mem).1 r).mpr hr
  unfold OkX at this
  unfold Ok
  generalize bodyX 5 (p_Source___init__ f0 c0 f1 l0) [.ref h.length, .ref n, .str r] L (h ++ [.ins c []]) = q at this
  cases q with
  | ok v h' =>
    obtain ⟨G, hv, ops', r', hch', s, f, er, hr2, m, e1, e2, lm⟩ := this
    rw [hch] at hch'
    cases hch'
    cases er
    exact ⟨G, hv, held, hd, ⟨m, e1, e2, lm⟩, hd.lang, hr2, l4⟩
  | exc c' p h' =>
    obtain ⟨_, _, ⟨hz, _⟩ | ⟨ops', hz, _, hz2⟩⟩ := this
    · rw [hch] at hz; cases hz
    · rw [hch] at hz; cases hz
      exact absurd hr' (hz2 r rfl)
  | bad => exact this
def firstW (f : Nat → Option (List Nat)) (n : Nat) : Option (List Nat) := (List.range n).findSome? fun i => (f i).map (i :: ·)
def wrongN (ops : List Op) : Nat → D → Option Str → Option (List Nat)
  | 0, _, _ => some []
  | n + 1, d, kd => match d with
    | .tup (.str nm :: kids) => (match ops.find? fun o => decide (o.nm = nm) with
      | none => some []
      | some o => if kids.length ≠ o.row.length ∨ (∃ k, kd = some k ∧ o.kd ≠ k) then some [] else firstW (fun i => wrongN ops n (kids.getD i .non) o.row[i]?) o.row.length)
    | _ => some []
def pathD : Option (List Nat) → D
  | none => .non
  | some p => .tup (p.map fun (i : Nat) => .int i)
mutual
/-- every reference is to a list or a dict -/
def D.tame (h : Hh) : D → Prop
  | .tup xs => D.tames h xs
  | .frl xs => D.tames h xs
  | .ref n => (∃ xs, h[n]? = some (.lst xs)) ∨ ∃ kvs, h[n]? = some (.dic kvs)
  | _ => True
def D.tames (h : Hh) : List D → Prop
  | [] => True
  | x :: xs => x.tame h ∧ D.tames h xs
end
theorem tames_mem {h : Hh} : ∀ {xs : List D}, D.tames h xs ↔ ∀ x ∈ xs, x.tame h
  | [] => by simp [D.tames]
  | x :: xs => by rw [D.tames, tames_mem, List.forall_mem_cons]
end Mi
end
section
set_option maxHeartbeats 1000000
namespace Mi
open PySem L2
@[simp] theorem lkn_check (a b c : D) : List.lookup (Str.ofString "check") [(Str.ofString "held", a), (Str.ofString "root", b), (Str.ofString "kind_names", c)] = none := by simp [List.lookup, beq_str, show (Str.ofString "check" = Str.ofString "held") = False by decide +kernel, show (Str.ofString "check" = Str.ofString "root") = False by decide +kernel, show (Str.ofString "check" = Str.ofString "kind_names") = False by decide +kernel]
@[simp] theorem lkn_kind_of (a b c : D) : List.lookup (Str.ofString "kind_of") [(Str.ofString "held", a), (Str.ofString "root", b), (Str.ofString "kind_names", c)] = none := by simp [List.lookup, beq_str, show (Str.ofString "kind_of" = Str.ofString "held") = False by decide +kernel, show (Str.ofString "kind_of" = Str.ofString "root") = False by decide +kernel, show (Str.ofString "kind_of" = Str.ofString "kind_names") = False by decide +kernel]
@[simp] theorem lkn_size_of (a b c : D) : List.lookup (Str.ofString "size_of") [(Str.ofString "held", a), (Str.ofString "root", b), (Str.ofString "kind_names", c)] = none := by simp [List.lookup, beq_str, show (Str.ofString "size_of" = Str.ofString "held") = False by decide +kernel, show (Str.ofString "size_of" = Str.ofString "root") = False by decide +kernel, show (Str.ofString "size_of" = Str.ofString "kind_names") = False by decide +kernel]
@[simp] theorem lkn_levels_of (a b c : D) : List.lookup (Str.ofString "levels_of") [(Str.ofString "held", a), (Str.ofString "root", b), (Str.ofString "kind_names", c)] = none := by simp [List.lookup, beq_str, show (Str.ofString "levels_of" = Str.ofString "held") = False by decide +kernel, show (Str.ofString "levels_of" = Str.ofString "root") = False by decide +kernel, show (Str.ofString "levels_of" = Str.ofString "kind_names") = False by decide +kernel]
@[simp] theorem lkn_least_tree (a b c : D) : List.lookup (Str.ofString "least_tree") [(Str.ofString "held", a), (Str.ofString "root", b), (Str.ofString "kind_names", c)] = none := by simp [List.lookup, beq_str, show (Str.ofString "least_tree" = Str.ofString "held") = False by decide +kernel, show (Str.ofString "least_tree" = Str.ofString "root") = False by decide +kernel, show (Str.ofString "least_tree" = Str.ofString "kind_names") = False by decide +kernel]
@[simp] theorem lkn_all_trees (a b c : D) : List.lookup (Str.ofString "all_trees") [(Str.ofString "held", a), (Str.ofString "root", b), (Str.ofString "kind_names", c)] = none := by simp [List.lookup, beq_str, show (Str.ofString "all_trees" = Str.ofString "held") = False by decide +kernel, show (Str.ofString "all_trees" = Str.ofString "root") = False by decide +kernel, show (Str.ofString "all_trees" = Str.ofString "kind_names") = False by decide +kernel]
/-- what a question comes to: told, or the path -/
def told (ops : List Op) (m : Tr → Str → D) (d : D) (v : D) : Prop := (∃ t k, d = t.d ∧ t.ok ops k ∧ t.dep ≤ 200 ∧ v = .tup [.str "told", m t k]) ∨ ∃ q, wrongN ops 200 d none = some q ∧ v = .tup [.str "wrong", pathD (some q)]
@[simp] theorem strOk_told : PyData.strOk (Str.ofString "told") = true := by decide +kernel
@[simp] theorem strOk_wrong : PyData.strOk (Str.ofString "wrong") = true := by decide +kernel
@[simp] theorem bNe_bl (a b : Bool) (h : Hh) : bNe (.bl a) (.bl b) h = .ok (.bl (!decide (a = b))) h := rfl
@[simp] theorem bEq_bl (a b : Bool) (h : Hh) : bEq (.bl a) (.bl b) h = .ok (.bl (decide (a = b))) h := rfl
end Mi
end
section
set_option maxHeartbeats 1000000
namespace Mi
open PySem L2
mutual
theorem tame_bx {h h' : Hh} (B : Bag h 3 2) (X : Bx h h') : ∀ {d : D}, d.tame h → d.tame h'
  | .tup xs, t => by rw [D.tame] at t ⊢; exact tames_bx B X t
  | .frl xs, t => by rw [D.tame] at t ⊢; exact tames_bx B X t
  | .ref n, t => by
    rw [D.tame] at t ⊢
    by_cases e : n = 3
    · subst e
      obtain ⟨_, ns, p, q, m, s, e1, _⟩ := X.bag B
      exact .inl ⟨_, e1⟩
    · rcases t with ⟨xs, z⟩ | ⟨kvs, z⟩
      · exact .inl ⟨xs, X.get e z⟩
      · exact .inr ⟨kvs, X.get e z⟩
  | .non, _ => by simp only [D.tame]
  | .bl _, _ => by simp only [D.tame]
  | .int _, _ => by simp only [D.tame]
  | .str _, _ => by simp only [D.tame]
theorem tames_bx {h h' : Hh} (B : Bag h 3 2) (X : Bx h h') : ∀ {xs : List D}, D.tames h xs → D.tames h' xs
  | [], _ => by simp only [D.tames]
  | x :: xs, t => by rw [D.tames] at t ⊢; exact ⟨tame_bx B X t.1, tames_bx B X t.2⟩
end
/-- a value that a law may hand in: tame, not deep, not long -/
structure Thing (h : Hh) (n : Nat) (d : D) : Prop where
  tm : d.tame h
  dp : d.dp ≤ n
  ln : ∀ xs, d = .tup xs → xs.length ≤ 10
theorem Thing.bx {h h' : Hh} {n : Nat} {d : D} (t : Thing h n d) (B : Bag h 3 2) (X : Bx h h') : Thing h' n d := ⟨tame_bx B X t.tm, t.dp, t.ln⟩
theorem Thing.mono {h : Hh} {n m : Nat} {d : D} (t : Thing h n d) (l : n ≤ m) : Thing h m d := ⟨t.tm, Nat.le_trans t.dp l, t.ln⟩
end Mi
end
section
set_option maxHeartbeats 1000000
namespace Mi
open PySem L2
open PySem.W (alike alikeAll dataLt keyToks keyToksAll)
open PyProof.Rows (lexLt)
def pKey (v : Nat × Tr) : List (Int ⊕ List Nat) := keyToks (bV v).py
theorem bV_py (v : Nat × Tr) : (bV v).py = .tuple [.int v.1, v.2.d.py] := by unfold bV; simp [D.py, D.pys]
theorem plt_key {v w : Nat × Tr} (gv : v.2.gd = true) (gw : w.2.gd = true) : plt v w = lexLt PyProof.Rows.itemOrd (pKey v) (pKey w) := by
  have a1 : alike (.int (v.1 : Int)) (.int (w.1 : Int)) = true := by simp [alike]
  show _ = dataLt (bV v).py (bV w).py
  rw [bV_py, bV_py, PySem.W.dataLt_pair a1 (alike_tr _ _)]
  unfold plt
  simp only [PyData.eqv, beq_iff_eq, Int.natCast_inj, PySem.W.dataLt_int, Int.ofNat_lt]
  split
  · split
    · rename_i h1 h2
      have := (eqv_pl v.2.d w.2.d (by rw [pl_tr]; exact gv) (by rw [pl_tr]; exact gw)).mp h2
      rw [d_inj this, Tr.lt_irrefl]
    · rfl
  · rfl
/-- not greater -/
def ple (v w : Nat × Tr) : Prop := plt w v = false
theorem ple_refl (v : Nat × Tr) : ple v v := by unfold ple plt; rw [if_pos rfl]; exact Tr.lt_irrefl _
theorem ple_trans {u v w : Nat × Tr} (gu : u.2.gd = true) (gv : v.2.gd = true) (gw : w.2.gd = true) (h1 : ple u v) (h2 : ple v w) : ple u w := by
  unfold ple at *
  rw [plt_key gv gu] at h1
  rw [plt_key gw gv] at h2
  rw [plt_key gw gu]
  cases e : lexLt PyProof.Rows.itemOrd (pKey w) (pKey u) with
  | false => rfl
  | true =>
    rcases PyProof.Rows.lex_negTrans (O := PyProof.Rows.itemOrd) (pKey w) (pKey v) (pKey u) e with z | z
    · rw [h2] at z; cases z
    · rw [h1] at z; cases z
theorem ple_of_lt {v w : Nat × Tr} (gv : v.2.gd = true) (gw : w.2.gd = true) (h : plt v w = true) : ple v w := by
  unfold ple
  rw [plt_key gv gw] at h
  rw [plt_key gw gv]
  cases e : lexLt PyProof.Rows.itemOrd (pKey w) (pKey v) with
  | false => rfl
  | true =>
    have := PyProof.Rows.lex_trans (O := PyProof.Rows.itemOrd) _ _ _ h e
    rw [PyProof.Rows.lex_irrefl] at this
    cases this
/-- a tree made of a value for each kind -/
def mk (f : Str → Nat × Tr) (o : Op) : Nat × Tr := (1 + (o.row.map fun c => (f c).1).sum, .node o.nm (o.row.map fun c => (f c).2))
theorem newV_mk (b : Bst) (o : Op) : newV b o = mk (bp b) o := rfl
theorem bp_put {b : Bst} {k c : Str} {v : Nat × Tr} : bp (tPut b k v) c = if c = k then v else bp b c := by
  unfold bp
  rw [tGet_put]
  split <;> rfl
theorem has_put {α : Type} {b : List (Str × α)} {k c : Str} {v : α} : tHas (tPut b k v) c = (tHas b c || decide (c = k)) := by
  rw [← tGet_has, ← tGet_has, tGet_put]
  by_cases h : c = k
  · rw [if_pos h]; simp [h]
  · rw [if_neg h]; simp [h]
/-- every value is a tree of its kind -/
def BOk (ops : List Op) (b : Bst) : Prop := ∀ c, tHas b c = true → (bp b c).2.ok ops c ∧ (bp b c).2.size = (bp b c).1
theorem oks_map {ops : List Op} {f : Str → Nat × Tr} : ∀ {row : List Str}, (∀ c ∈ row, (f c).2.ok ops c) → Tr.oks ops (row.map fun c => (f c).2) row
  | [], _ => by rw [List.map_nil, Tr.oks]
  | c :: r, h => by
    rw [List.map_cons, Tr.oks]
    exact ⟨c, r, rfl, h c List.mem_cons_self, oks_map fun d hd => h d (List.mem_cons_of_mem _ hd)⟩
theorem mk_ok {ops : List Op} {f : Str → Nat × Tr} {o : Op} (ho : o ∈ ops) (h : ∀ c ∈ o.row, (f c).2.ok ops c ∧ (f c).2.size = (f c).1) : (mk f o).2.ok ops o.kd ∧ (mk f o).2.size = (mk f o).1 := by
  unfold mk
  simp only
  refine ⟨?_, ?_⟩
  · rw [Tr.ok]
    exact ⟨o, ho, rfl, rfl, oks_map fun c hc => (h c hc).1⟩
  · rw [Tr.size, sizes_map fun c hc => (h c hc).2]
    omega
theorem BOk.step {ops : List Op} {b : Bst} {o : Op} (h : BOk ops b) (ho : o ∈ ops) : BOk ops (bStep b o) := by
  unfold bStep
  split
  · rename_i ha
    split
    · intro c hc
      rw [has_put] at hc
      rw [bp_put]
      by_cases e : c = o.kd
      · rw [if_pos e, e, newV_mk]
        exact mk_ok ho fun d hd => h d (List.all_eq_true.mp ha d hd)
      · rw [if_neg e]
        simp only [e, decide_false, Bool.or_false] at hc
        exact h c hc
    · exact h
  · exact h
theorem BOk.round {all : List Op} : ∀ {ops : List Op} {b : Bst}, BOk all b → (∀ o ∈ ops, o ∈ all) → BOk all (bRound ops b)
  | [], b, h, _ => h
  | o :: r, b, h, i => (h.step (i o List.mem_cons_self)).round (ops := r) fun p hp => i p (List.mem_cons_of_mem _ hp)
/-- the values only get better -/
def Bet (b b' : Bst) : Prop := ∀ c, tHas b c = true → tHas b' c = true ∧ ple (bp b' c) (bp b c)
section
variable {ops : List Op} (hn : ∀ o ∈ ops, IsName o.nm)
include hn
theorem BOk.gd {b : Bst} (h : BOk ops b) {c : Str} (hc : tHas b c = true) : (bp b c).2.gd = true := gd_ok hn _ c (h c hc).1
theorem Bet.step {b : Bst} {o : Op} (h : BOk ops b) (ho : o ∈ ops) : Bet b (bStep b o) := by
  intro c hc
  refine ⟨has_step hc, ?_⟩
  have h' := h.step ho
  unfold bStep
  split
  · rename_i ha
    split
    · rename_i hz
      rw [bp_put]
      split
      · rename_i e
        subst e
        have hp := hz.resolve_left (by rw [hc]; decide)
        refine ple_of_lt ?_ (h.gd hn hc) hp
        exact gd_ok hn _ _ (mk_ok ho fun d hd => h d (List.all_eq_true.mp ha d hd)).1
      · exact ple_refl _
    · exact ple_refl _
  · exact ple_refl _
theorem Bet.trans {b b1 b2 : Bst} (h : BOk ops b) (h1 : BOk ops b1) (h2 : BOk ops b2) (a : Bet b b1) (c : Bet b1 b2) : Bet b b2 := fun k hk => by
  obtain ⟨a1, a2⟩ := a k hk
  obtain ⟨c1, c2⟩ := c k a1
  exact ⟨c1, ple_trans (h2.gd hn c1) (h1.gd hn a1) (h.gd hn hk) c2 a2⟩
end
end Mi
end
section
set_option maxHeartbeats 1000000
namespace Mi
open PySem L2
theorem kinds_snoc {ops : List Op} {o : Op} (hr : ∀ c ∈ o.row, c ∈ kindsIn ops) (hk : o.kd ∉ kindsIn ops) : (kindsIn (ops ++ [o])).length = (kindsIn ops).length + 1 ∧ ∀ k, k ∈ kindsIn (ops ++ [o]) ↔ k ∈ kindsIn ops ∨ k = o.kd := by
  have hm : ∀ k, k ∈ kindsIn (ops ++ [o]) ↔ k ∈ kindsIn ops ∨ k = o.kd := fun k => by
    rw [mem_kindsIn, mem_kindsIn]
    constructor
    · rintro ⟨p, hp, hk'⟩
      rcases List.mem_append.mp hp with hp | hp
      · exact .inl ⟨p, hp, hk'⟩
      · rw [List.mem_singleton.mp hp] at hk'
        rcases List.mem_cons.mp hk' with z | z
        · exact .inr z
        · exact .inl (mem_kindsIn.mp (hr k z))
    · rintro (⟨p, hp, hk'⟩ | rfl)
      · exact ⟨p, List.mem_append_left _ hp, hk'⟩
      · exact ⟨o, by simp, List.mem_cons_self⟩
  refine ⟨?_, hm⟩
  have nd1 := nd_kindsIn (ops ++ [o])
  have nd2 : (o.kd :: kindsIn ops).Nodup := List.nodup_cons.mpr ⟨hk, nd_kindsIn ops⟩
  have := nd1.length_le_of_subset (l₂ := o.kd :: kindsIn ops) fun k hk' => by
    rcases (hm k).mp hk' with z | z
    · exact List.mem_cons_of_mem _ z
    · rw [z]; exact List.mem_cons_self
  have := nd2.length_le_of_subset (l₂ := kindsIn (ops ++ [o])) fun k hk' => by
    rcases List.mem_cons.mp hk' with z | z
    · exact (hm k).mpr (.inr z)
    · exact (hm k).mpr (.inl z)
  rw [List.length_cons] at *
  omega
theorem Lang.snoc {ops : List Op} {o : Op} (l : Lang ops) (hn : IsName o.nm) (hf : o.nm ∉ ops.map Op.nm) (hkn : IsName o.kd) (hk : o.kd ∉ kindsIn ops) (hr : ∀ c ∈ o.row, c ∈ kindsIn ops) (lr : o.row.length ≤ 2) (lo : ops.length < 12) (lk : (kindsIn ops).length < 4) : Lang (ops ++ [o]) := by
  obtain ⟨k1, k2⟩ := kinds_snoc hr hk
  have s := l.sane
  have mem : ∀ {P : Op → Prop}, (∀ p ∈ ops, P p) → P o → ∀ p ∈ ops ++ [o], P p := fun h1 h2 p hp => by
    rcases List.mem_append.mp hp with hp | hp
    · exact h1 p hp
    · rw [List.mem_singleton.mp hp]; exact h2
  refine ⟨⟨?_, mem s.nms hn, mem s.kds fun k hk' => ?_, mem s.row lr, by omega, by simp; omega⟩, by simp, ?_⟩
  · rw [List.map_append]
    refine List.nodup_append.mpr ⟨s.nd, by simp, fun a ha b hb e => ?_⟩
    simp only [List.map_cons, List.map_nil, List.mem_singleton] at hb
    subst hb e
    exact hf ha
  · rcases List.mem_cons.mp hk' with z | z
    · rw [z]; exact hkn
    · obtain ⟨p, hp, hz⟩ := mem_kindsIn.mp (hr k z)
      exact s.kds p hp k hz
  · obtain ⟨rk, hrk⟩ := l.rank
    obtain ⟨F, hF⟩ : ∃ F : Str → Nat, F = fun k => if k = o.kd then (kindsIn ops).length + 1 else rk k := ⟨_, rfl⟩
    have F1 : ∀ k, k ≠ o.kd → F k = rk k := fun k hne => by rw [hF]; exact if_neg hne
    have F2 : F o.kd = (kindsIn ops).length + 1 := by rw [hF]; exact if_pos rfl
    refine ⟨F, fun k hk' => ?_⟩
    rcases (k2 k).mp hk' with z | rfl
    · have hne : k ≠ o.kd := fun e => hk (e ▸ z)
      obtain ⟨h1, p, hp, h2, h3⟩ := hrk k z
      rw [F1 k hne]
      refine ⟨by omega, p, List.mem_append_left _ hp, h2, fun c hc => ?_⟩
      have hcm : c ∈ kindsIn ops := mem_kindsIn.mpr ⟨p, hp, List.mem_cons_of_mem _ hc⟩
      rw [F1 c (fun e => hk (e ▸ hcm))]
      exact h3 c hc
    · rw [F2]
      refine ⟨by omega, o, by simp, rfl, fun c hc => ?_⟩
      have hcm := hr c hc
      rw [F1 c (fun e => hk (e ▸ hcm))]
      have := (hrk c hcm).1
      omega
end Mi
end
section
set_option maxHeartbeats 1000000
namespace Mi
open PySem L2
inductive Pat where
  | leaf (x : Str)
  | node (nm : Str) (ts : List Pat)
mutual
def Pat.d : Pat → D
  | .leaf x => .str x
  | .node nm ts => .tup (.str nm :: Pat.ds ts)
def Pat.ds : List Pat → List D
  | [] => []
  | t :: ts => t.d :: Pat.ds ts
end
mutual
/-- its levels of operators -/
def Pat.dep : Pat → Nat
  | .leaf _ => 0
  | .node _ ts => Pat.deps ts + 1
def Pat.deps : List Pat → Nat
  | [] => 0
  | t :: ts => max t.dep (Pat.deps ts)
end
theorem Pat.dep_mem {ts : List Pat} {t : Pat} (h : t ∈ ts) : t.dep ≤ Pat.deps ts := by
  induction ts with
  | nil => cases h
  | cons a r ih =>
    rw [Pat.deps]
    rcases List.mem_cons.mp h with rfl | h
    · omega
    · have := ih h; omega
theorem Pat.kid {nm : Str} {ts : List Pat} {n : Nat} (l : (Pat.node nm ts).dep ≤ n + 1) : ∀ t ∈ ts, t.dep ≤ n := fun t ht => by
  rw [Pat.dep] at l
  have := Pat.dep_mem ht
  omega
mutual
/-- at most two children everywhere -/
def Pat.two : Pat → Prop
  | .leaf _ => True
  | .node _ ts => ts.length ≤ 2 ∧ Pat.twos ts
def Pat.twos : List Pat → Prop
  | [] => True
  | t :: ts => t.two ∧ Pat.twos ts
end
mutual
/-- the leaves with their paths -/
def Pat.lvs : Pat → List Nat → List (Str × List Nat)
  | .leaf x, p => [(x, p)]
  | .node _ ts, p => Pat.lvss ts p 0
def Pat.lvss : List Pat → List Nat → Nat → List (Str × List Nat)
  | [], _, _ => []
  | t :: ts, p, i => t.lvs (p ++ [i]) ++ Pat.lvss ts p (i + 1)
end
mutual
/-- the paths of the operators, the top itself but at the empty path -/
def Pat.inn : Pat → List Nat → List (List Nat)
  | .leaf _, _ => []
  | .node _ ts, p => (if p = [] then [] else [p]) ++ Pat.inns ts p 0
def Pat.inns : List Pat → List Nat → Nat → List (List Nat)
  | [], _, _ => []
  | t :: ts, p, i => t.inn (p ++ [i]) ++ Pat.inns ts p (i + 1)
end
theorem zip_at {α : Type} {ts : List α} {pre post : List (α × Nat)} {a : α × Nat} (e : ts.zipIdx = pre ++ a :: post) : a.2 = pre.length ∧ ts[a.2]? = some a.1 ∧ a.1 ∈ ts ∧ pre.length < ts.length := by
  have h1 : ts.zipIdx[pre.length]? = some a := by rw [e]; simp
  rw [List.getElem?_zipIdx] at h1
  cases h2 : ts[pre.length]? with
  | none => rw [h2] at h1; cases h1
  | some x =>
    rw [h2] at h1
    simp at h1
    subst h1
    have := List.mem_of_getElem? h2
    exact ⟨rfl, h2, this, (List.getElem?_eq_some_iff.mp h2).1⟩
def pthD (p : List Nat) : D := .tup (p.map fun (i : Nat) => .int i)
end Mi
end
section
set_option maxHeartbeats 1000000
namespace Mi
open PySem L2
section
variable {x : Kx} {ρ : Rho} {L : List Nat} {h : Hh} {q : Kn D}
@[simp ↓] theorem Ev_eSortSet (a : EX) : @Ev D (eSortSet a ρ L h) q x = @Ev D (a ρ L h) ⟨fun v h1 => @Ev D (fSortSet v h1) q x⟩ x := Ev_bind _ _ _
@[simp] theorem fSortSet_ref (n : Nat) (h : Hh) : fSortSet (.ref n) h = match h[n]? with
    | some (.lst xs) => (match strsD xs with
      | some ss => if ss.length < 4000 ∧ ss.eraseDups.length < 64 then .ok (.ref h.length) (h ++ [.lst ((sortS ss.eraseDups).map .str)]) else .bad
      | none => .bad)
    | _ => .bad := by
  simp only [fSortSet, lstOf]
  rcases h[n]? with _ | ⟨_ | _ | _ | _ | _⟩ <;> rfl
@[simp ↓] theorem Ev_eOwnEq (c : Nat) (f : FX) (a b : EX) : @Ev D (eOwnEq c f a b ρ L h) q x = @Ev D (a ρ L h) ⟨fun v h1 => @Ev D (b ρ L h1) ⟨fun y h2 => @Ev D (match v, y with
  | .ref n, .ref k => (match h2[n]?, h2[k]? with
    | some (.ins c' _), some (.ins c2 _) => if c' = c ∧ c2 = c then (f [v, y] L h2).noExc.bind fun v h3 => match v with
      | .bl k => .ok (.bl k) h3
      | _ => .bad else .bad
    | _, _ => .bad)
  | _, _ => .bad) q x⟩ x⟩ x := by
  unfold eOwnEq
  rw [Ev_bind]
  refine Ev_cong fun v h1 => ?_
  rw [Ev_bind]
@[simp ↓] theorem Ev_eOwnLen (c : Nat) (f : FX) (a : EX) : @Ev D (eOwnLen c f a ρ L h) q x = @Ev D (a ρ L h) ⟨fun v h1 => @Ev D (match v with
  | .ref n => (match h1[n]? with
    | some (.ins c' _) => if c' = c then (f [v] L h1).noExc.bind fun v h3 => match v with
      | .int i => if 0 ≤ i ∧ i < 2 ^ 63 then .ok (.int i) h3 else .bad
      | _ => .bad else .bad
    | _ => .bad)
  | _ => .bad) q x⟩ x := by
  unfold eOwnLen
  rw [Ev_bind]
@[simp ↓] theorem Ev_eEqDic (a b : EX) : @Ev D (eEqDic a b ρ L h) q x = @Ev D (a ρ L h) ⟨fun v h1 => @Ev D (b ρ L h1) ⟨fun y h2 => @Ev D (match v, y with
  | .ref n, .ref k => (match h2[n]?, h2[k]? with
    | some (.dic ka), some (.dic kb) => if n ∈ L ∨ k ∈ L then .bad else (match dicEq kb h2 ka with
      | some r => .ok (.bl (decide (ka.length = kb.length) && r)) h2
      | none => .bad)
    | _, _ => .bad)
  | _, _ => .bad) q x⟩ x⟩ x := by
  unfold eEqDic
  rw [Ev_bind]
  refine Ev_cong fun v h1 => ?_
  rw [Ev_bind]
end
structure Rule where
  pl : Str
  pat : Pat
  cost : Int
def Rule.d (r : Rule) : D := .tup [.str r.pl, r.pat.d, .int r.cost]
structure Rule.fit (r : Rule) : Prop where
  two : r.pat.two
  dep : r.pat.dep ≤ 3
def Rule.names (r : Rule) : List Str := r.pl :: (r.pat.lvs []).map (·.1)
def namesR (rs : List Rule) : List Str := rs.flatMap Rule.names
def placesOf (rs : List Rule) : List Str := sortS (namesR rs).eraseDups
def Rule.inn (q : Rule × Nat) : List D := (q.1.pat.inn []).map fun p => .tup [.int q.2, pthD p]
def itemsOf (rs : List Rule) : List D := (placesOf rs).map (fun s => .tup [.str s]) ++ rs.zipIdx.flatMap Rule.inn
end Mi
end
section
set_option maxHeartbeats 1000000
namespace Mi
open PySem L2
mutual
/-- no text is too long -/
def D.sml : D → Prop
  | .str s => s.length ≤ 16777216
  | .tup xs => D.smls xs
  | _ => True
def D.smls : List D → Prop
  | [] => True
  | x :: xs => x.sml ∧ D.smls xs
end
theorem smls_mem : ∀ {xs : List D}, D.smls xs ↔ ∀ x ∈ xs, x.sml
  | [] => by simp [D.smls]
  | x :: xs => by rw [D.smls, smls_mem, List.forall_mem_cons]
theorem tame_of {h : Hh} {d : D} (t : d.tame h) (s : d.sml) : Tame h d := by
  refine ⟨fun n e => ?_, fun x e => ?_⟩
  · subst e
    rw [D.tame] at t
    exact t
  · subst e
    rw [D.sml] at s
    exact s
end Mi
end
section
set_option maxHeartbeats 1000000
namespace Mi
open PySem L2
end Mi
end
section
set_option maxHeartbeats 1000000
namespace Mi
open PySem L2
end Mi
end
section
set_option maxHeartbeats 1000000
namespace Mi
open PySem L2
mutual
/-- a pattern for a kind -/
def Pat.okp (ops : List Op) : Pat → Option Str → Prop
  | .leaf x, _ => IsName x
  | .node nm ts, kd => ∃ o ∈ ops, o.nm = nm ∧ (kd = none ∨ kd = some o.kd) ∧ Pat.okps ops ts o.row
def Pat.okps (ops : List Op) : List Pat → List Str → Prop
  | [], ks => ks = []
  | t :: ts, ks => ∃ k r, ks = k :: r ∧ t.okp ops (some k) ∧ Pat.okps ops ts r
end
theorem okps_at {ops : List Op} : ∀ {ts : List Pat} {ks : List Str}, Pat.okps ops ts ks → ts.length = ks.length ∧ ∀ (i : Nat) (t : Pat), ts[i]? = some t → ∃ k, ks[i]? = some k ∧ t.okp ops (some k)
  | [], ks, h => by
    rw [Pat.okps] at h
    subst h
    exact ⟨rfl, fun i t e => by simp at e⟩
  | t :: ts, ks, h => by
    rw [Pat.okps] at h
    obtain ⟨k, r, rfl, h1, h2⟩ := h
    obtain ⟨h3, h4⟩ := okps_at h2
    refine ⟨by simp [h3], fun i u e => ?_⟩
    cases i with
    | zero => simp at e; subst e; exact ⟨k, rfl, h1⟩
    | succ i =>
      rw [List.getElem?_cons_succ] at e
      exact h4 i u e
theorem okp_two {ops : List Op} (hr : ∀ o ∈ ops, o.row.length ≤ 2) : ∀ (n : Nat) (t : Pat) (kd : Option Str), t.dep ≤ n → t.okp ops kd → t.two
  | _, .leaf x, _, _, _ => by rw [Pat.two]; trivial
  | 0, .node nm ts, _, l, _ => by rw [Pat.dep] at l; omega
  | n + 1, .node nm ts, kd, l, h => by
    rw [Pat.okp] at h
    obtain ⟨o, ho, rfl, hk, h⟩ := h
    obtain ⟨h1, h2⟩ := okps_at h
    rw [Pat.two]
    refine ⟨by rw [h1]; exact hr o ho, ?_⟩
    have : ∀ t ∈ ts, t.two := fun t ht => by
      obtain ⟨i, hi⟩ := List.mem_iff_getElem?.mp ht
      obtain ⟨k, ek, ok⟩ := h2 i t hi
      exact okp_two hr n t _ (Pat.kid l t ht) ok
    clear h h1 h2 l
    induction ts with
    | nil => rw [Pat.twos]; trivial
    | cons a r ih => rw [Pat.twos]; exact ⟨this a List.mem_cons_self, ih fun t ht => this t (List.mem_cons_of_mem _ ht)⟩
structure Rule.good (ops : List Op) (r : Rule) : Prop where
  nm : IsName r.pl
  pat : r.pat.okp ops none
  dep : r.pat.dep ≤ 3
  lo : 0 ≤ r.cost
  hi : r.cost ≤ 1000
  chain : ∀ x, r.pat = .leaf x → x ≠ r.pl
theorem Rule.good.fits {ops : List Op} (s : Sane ops) {r : Rule} (g : r.good ops) : r.fit := ⟨okp_two s.row 3 r.pat none g.dep g.pat, g.dep⟩
end Mi
end
section
set_option maxHeartbeats 1000000
namespace Mi
open PySem L2
def SeqR (h : Hh) (x : D) (xs : List D) : Prop := (∃ n, x = .ref n ∧ h[n]? = some (.lst xs)) ∨ x = .tup xs
def unlike (rs : List Rule) : Prop := rs.Pairwise fun a b => ¬ (a.pl = b.pl ∧ a.pat.d = b.pat.d)
end Mi
end
section
set_option maxHeartbeats 1000000
namespace Mi
open PySem L2
def tgtOb (c s q : Nat) (goal : Str) : Ob := .ins c [("source", .ref s), ("kept", .ref q), ("goal", .str goal)]
structure Goods (ops : List Op) (rs : List Rule) : Prop where
  g : ∀ r ∈ rs, r.good ops
  dj : unlike rs
  l1 : 1 ≤ rs.length
  l16 : rs.length ≤ 16
  lp : (placesOf rs).length ≤ 6
  li : (itemsOf rs).length ≤ 24
theorem Goods.few {ops : List Op} {rs : List Rule} (G : Goods ops rs) : (namesR rs).eraseDups.length < 64 := by
  have : (placesOf rs).length = (namesR rs).eraseDups.length := by unfold placesOf; rw [len_sortS]
  have := G.lp
  omega
structure IsTgt (cs c : Nat) (h : Hh) (n : Nat) (s : Nat) (ops : List Op) (root : Str) (rs : List Rule) (goal : Str) : Prop where
  src : IsSrc cs h s ops root
  ob : ∃ q, h[n]? = some (tgtOb c s q goal) ∧ h[q]? = some (.lst (rs.map Rule.d)) ∧ 4 ≤ q
  gds : Goods ops rs
  goal : goal ∈ rs.map Rule.pl
  four : 4 ≤ n
theorem IsTgt.gr {cs c : Nat} {h h' : Hh} {n s : Nat} {ops : List Op} {root : Str} {rs : List Rule} {goal : Str} (t : IsTgt cs c h n s ops root rs goal) (G : Gr h h') : IsTgt cs c h' n s ops root rs goal := by
  obtain ⟨a, ⟨q, b1, b2, b3⟩, d, e, f⟩ := t
  exact ⟨a.gr G, ⟨q, G.get b1, G.get b2, b3⟩, d, e, f⟩
theorem IsTgt.bx {cs c : Nat} {h h' : Hh} {n s : Nat} {ops : List Op} {root : Str} {rs : List Rule} {goal : Str} (t : IsTgt cs c h n s ops root rs goal) (G : Bx h h') : IsTgt cs c h' n s ops root rs goal := by
  obtain ⟨a, ⟨q, b1, b2, b3⟩, d, e, f⟩ := t
  exact ⟨a.bx G, ⟨q, G.lst f b1, G.lst b3 b2, b3⟩, d, e, f⟩
theorem SeqR.gr {h h' : Hh} {x : D} {xs : List D} (t : SeqR h x xs) (G : Gr h h') : SeqR h' x xs := by
  rcases t with ⟨n, rfl, e⟩ | rfl
  · exact .inl ⟨n, rfl, G.get e⟩
  · exact .inr rfl
@[simp] theorem ne_t_source_kept : (Str.ofString "source" = Str.ofString "kept") = False := by decide +kernel
@[simp] theorem ne_t_source_goal : (Str.ofString "source" = Str.ofString "goal") = False := by decide +kernel
@[simp] theorem ne_t_kept_source : (Str.ofString "kept" = Str.ofString "source") = False := by decide +kernel
@[simp] theorem ne_t_kept_goal : (Str.ofString "kept" = Str.ofString "goal") = False := by decide +kernel
@[simp] theorem ne_t_goal_source : (Str.ofString "goal" = Str.ofString "source") = False := by decide +kernel
@[simp] theorem ne_t_goal_kept : (Str.ofString "goal" = Str.ofString "kept") = False := by decide +kernel
@[simp] theorem lk_t_source (a b c : D) : List.lookup (Str.ofString "source") [(Str.ofString "source", a), (Str.ofString "kept", b), (Str.ofString "goal", c)] = some a := by simp [List.lookup, beq_str]
@[simp] theorem lk_t_kept (a b c : D) : List.lookup (Str.ofString "kept") [(Str.ofString "source", a), (Str.ofString "kept", b), (Str.ofString "goal", c)] = some b := by simp [List.lookup, beq_str]
@[simp] theorem lk_t_goal (a b c : D) : List.lookup (Str.ofString "goal") [(Str.ofString "source", a), (Str.ofString "kept", b), (Str.ofString "goal", c)] = some c := by simp [List.lookup, beq_str]
@[simp] theorem lkn_t_item_list (a b c : D) : List.lookup (Str.ofString "item_list") [(Str.ofString "source", a), (Str.ofString "kept", b), (Str.ofString "goal", c)] = none := by simp [List.lookup, beq_str, show (Str.ofString "item_list" = Str.ofString "source") = False by decide +kernel, show (Str.ofString "item_list" = Str.ofString "kept") = False by decide +kernel, show (Str.ofString "item_list" = Str.ofString "goal") = False by decide +kernel]
@[simp] theorem lkn_t_without (a b c : D) : List.lookup (Str.ofString "without") [(Str.ofString "source", a), (Str.ofString "kept", b), (Str.ofString "goal", c)] = none := by simp [List.lookup, beq_str, show (Str.ofString "without" = Str.ofString "source") = False by decide +kernel, show (Str.ofString "without" = Str.ofString "kept") = False by decide +kernel, show (Str.ofString "without" = Str.ofString "goal") = False by decide +kernel]
@[simp] theorem lkn_t_priced (a b c : D) : List.lookup (Str.ofString "priced") [(Str.ofString "source", a), (Str.ofString "kept", b), (Str.ofString "goal", c)] = none := by simp [List.lookup, beq_str, show (Str.ofString "priced" = Str.ofString "source") = False by decide +kernel, show (Str.ofString "priced" = Str.ofString "kept") = False by decide +kernel, show (Str.ofString "priced" = Str.ofString "goal") = False by decide +kernel]
/-- a list that is no part of it may change -/
theorem IsTgt.set {cs c : Nat} {h : Hh} {n s k q : Nat} {ops : List Op} {root : Str} {rs : List Rule} {goal : Str} {xs ys : List D} (t : IsTgt cs c h n s ops root rs goal) (e : h[n]? = some (tgtOb c s q goal)) (hq : q ≠ k) (ek : h[k]? = some (.lst xs)) : IsTgt cs c (h.set k (.lst ys)) n s ops root rs goal := by
  obtain ⟨⟨⟨m, a1, a2, a3⟩, b1, b2, b3⟩, ⟨q', c1, c2, c3⟩, d1, d2, d3⟩ := t
  obtain rfl : q' = q := by
    rw [e] at c1
    simp [tgtOb] at c1
    exact c1.symm
  have n1 : s ≠ k := fun z => by subst z; rw [ek] at a1; cases a1
  have n2 : m ≠ k := fun z => by subst z; rw [ek] at a2; cases a2
  have n3 : n ≠ k := fun z => by subst z; rw [ek] at c1; cases c1
  refine ⟨⟨⟨m, ?_, ?_, a3⟩, b1, b2, b3⟩, ⟨q', ?_, ?_, c3⟩, d1, d2, d3⟩
  · rw [List.getElem?_set_ne (Ne.symm n1)]; exact a1
  · rw [List.getElem?_set_ne (Ne.symm n2)]; exact a2
  · rw [List.getElem?_set_ne (Ne.symm n3)]; exact c1
  · rw [List.getElem?_set_ne (Ne.symm hq)]; exact c2
theorem IsSrc.set {c : Nat} {h : Hh} {n k : Nat} {ops : List Op} {root : Str} {xs ys : List D} (t : IsSrc c h n ops root) (ek : h[k]? = some (.lst xs)) : IsSrc c (h.set k (.lst ys)) n ops root := by
  obtain ⟨⟨m, a1, a2, a3⟩, b1, b2, b3⟩ := t
  have n1 : n ≠ k := fun z => by subst z; rw [ek] at a1; cases a1
  have n2 : m ≠ k := fun z => by subst z; rw [ek] at a2; cases a2
  refine ⟨⟨m, ?_, ?_, a3⟩, b1, b2, b3⟩
  · rw [List.getElem?_set_ne (Ne.symm n1)]; exact a1
  · rw [List.getElem?_set_ne (Ne.symm n2)]; exact a2
mutual
theorem okp_mono {a b : List Op} (h : ∀ o, o ∈ a → o ∈ b) : ∀ (t : Pat) (kd : Option Str), t.okp a kd → t.okp b kd
  | .leaf x, _, p => by rw [Pat.okp] at *; exact p
  | .node nm ts, kd, p => by
    rw [Pat.okp] at *
    obtain ⟨o, ho, e, hk, p⟩ := p
    exact ⟨o, h o ho, e, hk, okps_mono h ts _ p⟩
theorem okps_mono {a b : List Op} (h : ∀ o, o ∈ a → o ∈ b) : ∀ (ts : List Pat) (ks : List Str), Pat.okps a ts ks → Pat.okps b ts ks
  | [], _, p => by rw [Pat.okps] at *; exact p
  | t :: ts, ks, p => by
    rw [Pat.okps] at *
    obtain ⟨k, r, e, h1, h2⟩ := p
    exact ⟨k, r, e, okp_mono h t _ h1, okps_mono h ts r h2⟩
end
theorem Rule.good.mono {a b : List Op} (h : ∀ o, o ∈ a → o ∈ b) {r : Rule} (g : r.good a) : r.good b := ⟨g.nm, okp_mono h _ _ g.pat, g.dep, g.lo, g.hi, g.chain⟩
theorem Goods.mono {a b : List Op} (h : ∀ o, o ∈ a → o ∈ b) {rs : List Rule} (g : Goods a rs) : Goods b rs := ⟨fun r hr => (g.g r hr).mono h, g.dj, g.l1, g.l16, g.lp, g.li⟩
end Mi
end
section
set_option maxHeartbeats 1000000
namespace Mi
open PySem L2
end Mi
end
section
set_option maxHeartbeats 1000000
namespace Mi
open PySem L2
def Pat.isN : Pat → Nat
  | .leaf _ => 0
  | .node _ _ => 1
mutual
/-- the operators below the top -/
def Pat.cnt : Pat → Nat
  | .leaf _ => 0
  | .node _ ts => Pat.cnts ts
def Pat.cnts : List Pat → Nat
  | [] => 0
  | t :: ts => (t.cnt + t.isN) + Pat.cnts ts
end
mutual
theorem inn_cnt : ∀ (t : Pat) (p : List Nat), (t.inn p).length = t.cnt + if p = [] then 0 else t.isN
  | .leaf x, p => by rw [Pat.inn, Pat.cnt, Pat.isN]; simp
  | .node _ ts, p => by
    rw [Pat.inn, Pat.cnt, Pat.isN, List.length_append, inns_cnt ts p 0]
    by_cases h : p = [] <;> simp [h] <;> omega
theorem inns_cnt : ∀ (ts : List Pat) (p : List Nat) (i : Nat), (Pat.inns ts p i).length = Pat.cnts ts
  | [], _, _ => by rw [Pat.inns, Pat.cnts]; rfl
  | t :: ts, p, i => by
    rw [Pat.inns, Pat.cnts, List.length_append, inn_cnt t, inns_cnt ts p (i + 1), if_neg (by simp)]
end
theorem inn_top (t : Pat) : (t.inn []).length = t.cnt := by rw [inn_cnt]; simp
end Mi
end
section
set_option maxHeartbeats 1000000
namespace Mi
open PySem L2
end Mi
end
section
set_option maxHeartbeats 1000000
namespace Mi
open PySem L2
def cntR (rs : List Rule) : Nat := (rs.map fun r => r.pat.cnt).sum
theorem cnt_flat : ∀ (zs : List (Rule × Nat)), (zs.flatMap Rule.inn).length = cntR (zs.map Prod.fst)
  | [] => rfl
  | z :: zs => by
    rw [List.flatMap_cons, List.length_append, cnt_flat zs]
    unfold Rule.inn cntR
    rw [List.length_map, inn_top]
    simp
end Mi
end
section
set_option maxHeartbeats 1000000
namespace Mi
open PySem L2
end Mi
end
section
set_option maxHeartbeats 1000000
namespace Mi
open PySem L2
/-- is it an integer -/
def intD : D → Bool
  | .int _ => true
  | _ => false
theorem is_integerD {x : D} {L : List Nat} {h : Hh} (t : Tame h x) : Ok (bodyX 1 p_is_integer [x] L h) fun v h' => v = .bl (intD x) ∧ h = h' := by
  unfold Ok p_is_integer
  rw [Ev_bodyX]
  cases x with
  | ref n =>
    rcases t.rf n rfl with ⟨xs, e⟩ | ⟨kvs, e⟩
    · simp [isB, e]; exact ⟨rfl, rfl⟩
    · simp [isB, e]; exact ⟨rfl, rfl⟩
  | frl xs => simp [isB, uIsi, tyD]; exact ⟨rfl, rfl⟩
  | _ => simp [isB]; exact ⟨rfl, rfl⟩
theorem SeqR.seq {h : Hh} {x : D} {xs : List D} (s : SeqR h x xs) : seqOf x h = some xs := by
  rcases s with ⟨n, rfl, en⟩ | rfl
  · simp [seqOf, lstOf, en]
  · rfl
theorem SeqR.tame {h : Hh} {x : D} {xs : List D} (s : SeqR h x xs) : Tame h x := by
  rcases s with ⟨n, rfl, en⟩ | rfl
  · exact ⟨fun k z => (by cases z; exact .inl ⟨_, en⟩), fun k z => nomatch z⟩
  · exact ⟨fun k z => (nomatch z), fun k z => (nomatch z)⟩
end Mi
end
section
set_option maxHeartbeats 1000000
namespace Mi
open PySem L2
theorem cntR_sub {a b : List Rule} (s : a.Sublist b) : cntR a ≤ cntR b := by
  induction s with
  | slnil => exact Nat.le_refl _
  | cons x _ ih => unfold cntR at *; rw [List.map_cons, List.sum_cons]; omega
  | cons_cons x _ ih => unfold cntR at *; rw [List.map_cons, List.map_cons, List.sum_cons, List.sum_cons]; omega
theorem places_le {a b : List Rule} (s : ∀ r ∈ a, r ∈ b) : (placesOf a).length ≤ (placesOf b).length := by
  unfold placesOf
  rw [len_sortS, len_sortS]
  refine (nodup_ded _).length_le_of_subset fun x hx => ?_
  rw [List.mem_eraseDups] at hx ⊢
  obtain ⟨r, hr, hx⟩ := List.mem_flatMap.mp hx
  exact List.mem_flatMap.mpr ⟨r, s r hr, hx⟩
theorem items_len (rs : List Rule) : (itemsOf rs).length = (placesOf rs).length + cntR rs := by
  unfold itemsOf
  rw [List.length_append, List.length_map, cnt_flat, List.zipIdx_map_fst]
theorem Goods.sub {ops : List Op} {a b : List Rule} (g : Goods ops b) (s : a.Sublist b) (ne : 1 ≤ a.length) : Goods ops a := by
  refine ⟨fun r hr => g.g r (s.subset hr), g.dj.sublist s, ne, Nat.le_trans s.length_le g.l16, Nat.le_trans (places_le fun r hr => s.subset hr) g.lp, ?_⟩
  have h1 := g.li
  rw [items_len] at h1 ⊢
  have h2 := places_le fun r hr => s.subset hr
  have h3 := cntR_sub s
  omega
end Mi
end
section
set_option maxHeartbeats 1000000
namespace Mi
open PySem L2
end Mi
end
section
set_option maxHeartbeats 1000000
namespace Mi
open PySem L2
def selfD (h : Hh) (x : D) : Prop := (∃ k, x = .ref k) ∨ (toPy 60 h x).isSome = true
@[simp] theorem self_str {h : Hh} (s : Str) : selfD h (.str s) := .inr rfl
@[simp] theorem self_bl {h : Hh} (b : Bool) : selfD h (.bl b) := .inr rfl
@[simp] theorem self_int {h : Hh} (b : Int) : selfD h (.int b) := .inr rfl
@[simp] theorem self_non {h : Hh} : selfD h .non := .inr rfl
@[simp] theorem self_r {h : Hh} (k : Nat) : selfD h (.ref k) := .inl ⟨k, rfl⟩
theorem eqE_self {h : Hh} {x : D} (s : selfD h x) : eqE h x x = some true := by
  rcases s with ⟨k, rfl⟩ | s
  · simp [eqE]
  · obtain ⟨p, hp⟩ := Option.isSome_iff_exists.mp s
    have := SeqAt.eqv_refl_plain p (toPy_plain 60 hp).1
    unfold eqE
    split
    · simp
    · simp [hp, this]
theorem eqTs_self {h : Hh} : ∀ {xs : List D}, (∀ x ∈ xs, selfD h x) → eqTs h xs xs = some true
  | [], _ => rfl
  | x :: xs, s => by
    rw [eqTs, eqE_self (s x List.mem_cons_self), eqTs_self fun y hy => s y (List.mem_cons_of_mem _ hy)]; rfl
theorem eqD_tup_self {h : Hh} {xs : List D} (s : ∀ x ∈ xs, selfD h x) : eqD (.tup xs) (.tup xs) h = some true := by
  have e1 : scEq (.tup xs) (.tup xs) = none := rfl
  unfold eqD
  rw [e1]
  simp only
  cases e2 : toPy 66 h (.tup xs) with
  | none => exact eqTs_self s
  | some a =>
    simp only
    split
    · rw [SeqAt.eqv_refl_plain a (toPy_plain 66 e2).1]
    · exact eqTs_self s
theorem bEq_tup_self {h : Hh} {xs : List D} (s : ∀ x ∈ xs, selfD h x) : bEq (.tup xs) (.tup xs) h = .ok (.bl true) h := by unfold bEq; rw [eqD_tup_self s]
@[simp] theorem bEq_blbl (a b : Bool) (h : Hh) : bEq (.bl a) (.bl b) h = .ok (.bl (decide (a = b))) h := rfl
end Mi
namespace Mi
open PySem L2
end Mi
end
section
set_option maxHeartbeats 1000000
namespace Mi
open PySem L2
/-- what is asked of a thing before it may be looked at -/
def calmD (h : Hh) (d : D) : Prop := d.tame h ∧ d.sml
mutual
theorem tame_gr {h h' : Hh} (G : Gr h h') : ∀ {d : D}, d.tame h → d.tame h'
  | .ref n, t => by
    rw [D.tame] at *
    exact t.elim (fun ⟨xs, e⟩ => .inl ⟨xs, G.get e⟩) fun ⟨xs, e⟩ => .inr ⟨xs, G.get e⟩
  | .tup xs, t => by
    rw [D.tame] at *
    exact tames_gr G t
  | .non, _ => by simp only [D.tame]
  | .bl _, _ => by simp only [D.tame]
  | .int _, _ => by simp only [D.tame]
  | .str _, _ => by simp only [D.tame]
  | .frl xs, t => by
    rw [D.tame] at *
    exact tames_gr G t
theorem tames_gr {h h' : Hh} (G : Gr h h') : ∀ {xs : List D}, D.tames h xs → D.tames h' xs
  | [], _ => by rw [D.tames]; trivial
  | x :: xs, t => by
    rw [D.tames] at *
    exact ⟨tame_gr G t.1, tames_gr G t.2⟩
end
theorem calm_gr {h h' : Hh} {d : D} (c : calmD h d) (G : Gr h h') : calmD h' d := ⟨tame_gr G c.1, c.2⟩
end Mi
end
section
set_option maxHeartbeats 1000000
namespace Mi
open PySem L2
theorem bEqL_self {d : D} (p : d.pl = true) (l : d.dp < 220) (h : Hh) : bEqL d d h = .ok (.bl true) h := by
  unfold bEqL eqL
  have e := toPy_pl d 220 h p l
  rw [e]
  simp only
  rw [SeqAt.eqv_refl_plain _ (toPy_plain _ e).1]
end Mi
end
section
set_option maxHeartbeats 1000000
namespace Mi
open PySem L2
/-- the greatest, or what stands for none -/
def maxOf (o : Option (List Int)) (d : D) (h : Hh) : R D := match o with
  | some [] => .ok d h
  | some (i :: is) => .ok (.int (is.foldl (fun a b => if b > a then b else a) i)) h
  | none => .bad
section
variable {ρ : Rho} {L : List Nat} {h : Hh} {k : Ks} {x : Kx} {q : Kn D}
@[simp ↓] theorem Sv_sForE (a : EX) (g : GX) (s : SX) : @Sv (sForE a g s ρ L h) k = @Ev D (a ρ L h) ⟨fun v h1 => @Sv (match v with
  | .tup xs => loopV g s (enumD xs) ρ L h1
  | .ref n => loopE g s n fuel 0 ρ L h1
  | _ => .bad) k⟩ ⟨fun c p h => @Sv (.exc c p ρ h) k⟩ := Sv_toS _ _ _
@[simp ↓] theorem Ev_eMaxD (a b : AX) : @Ev D (eMaxD a b ρ L h) q x = @Ev (List D) (a ρ L h) ⟨fun xs h1 => @Ev (List D) (b ρ L h1) ⟨fun ds h2 => @Ev D (match xs, ds with
  | [x], [d] => maxOf ((lstOf x h2).bind intsD) d h2
  | _, _ => .bad) q x⟩ x⟩ x := by
  unfold eMaxD
  rw [Ev_bind]
  refine Ev_cong fun v h1 => ?_
  rw [Ev_bind]
  rfl
theorem lpE_go {n : Nat} {g : GX} {b : SX} {N : Rho → Hh → Prop} {T : D → Hh → Prop} {X : Nat → Option D → Rho → Hh → Prop} {B C : Rho → Hh → Prop} {P : List D → Rho → Hh → Prop} {as : List D}
    (hn : ∀ pre ρ h, P pre ρ h → h[n]? = some (.lst as))
    (step : ∀ pre a post ρ h, as = pre ++ a :: post → P pre ρ h → @Sv (turn g b (.tup [.int pre.length, a]) ρ L h) ⟨fun ρ h => @Stop ⟨P (pre ++ [a]) ρ h⟩, T, X, N, fun ρ h => @Stop ⟨P (pre ++ [a]) ρ h⟩⟩) (fin : ∀ ρ h, P as ρ h → N ρ h) :
    ∀ (fu : Nat) (post pre : List D) (ρ : Rho) (h : Hh), post.length < fu → as = pre ++ post → P pre ρ h → @Sv (loopE g b n fu pre.length ρ L h) ⟨N, T, X, B, C⟩
  | 0, post, pre, ρ, h, l, e, p => by omega
  | fu + 1, post, pre, ρ, h, l, e, p => by
    unfold loopE
    simp only [hn pre ρ h p]
    cases post with
    | nil =>
      rw [List.append_nil] at e
      subst e
      rw [List.getElem?_eq_none (Nat.le_refl _)]
      exact fin ρ h p
    | cons a post =>
      have st := step pre a post ρ h e p
      have r := fun ρ h q => lpE_go (B := B) (C := C) hn step fin fu post (pre ++ [a]) ρ h (by rw [List.length_cons] at l; omega) (by rw [e]; simp) q
      unfold turn at st
      have g1 : as[pre.length]? = some a := by rw [e]; simp
      rw [g1]
      simp only
      rw [List.length_append] at r
      generalize (g (.tup [.int pre.length, a]) ρ L h).toS ρ (fun ρ1 h1 => b ρ1 L h1) = t at st
      cases t with
      | nx ρ2 h2 => exact r ρ2 h2 st
      | cnt ρ2 h2 => exact r ρ2 h2 st
      | brk ρ2 h2 => exact st
      | ret d h2 => exact st
      | exc c q ρ2 h2 => exact st
      | bad => exact st
/-- enumerate of a list or a tuple -/
theorem lpE {n : Nat} {g : GX} {b : SX} {N : Rho → Hh → Prop} {T : D → Hh → Prop} {X : Nat → Option D → Rho → Hh → Prop} {B C : Rho → Hh → Prop} (P : List D → Rho → Hh → Prop) {as : List D} (hl : as.length < 100000) (p : P [] ρ h)
    (hn : ∀ pre ρ h, P pre ρ h → h[n]? = some (.lst as))
    (step : ∀ pre a post ρ h, as = pre ++ a :: post → P pre ρ h → @Sv (turn g b (.tup [.int pre.length, a]) ρ L h) ⟨fun ρ h => @Stop ⟨P (pre ++ [a]) ρ h⟩, T, X, N, fun ρ h => @Stop ⟨P (pre ++ [a]) ρ h⟩⟩) (fin : ∀ ρ h, P as ρ h → N ρ h) : @Sv (loopE g b n fuel 0 ρ L h) ⟨N, T, X, B, C⟩ :=
  lpE_go hn step fin fuel as [] ρ h (by unfold fuel; exact hl) rfl p
theorem lpT_go {g : GX} {b : SX} {N : Rho → Hh → Prop} {T : D → Hh → Prop} {X : Nat → Option D → Rho → Hh → Prop} {B C : Rho → Hh → Prop} (P : List D → Rho → Hh → Prop) {as : List D}
    (step : ∀ pre a post ρ h, as = pre ++ a :: post → P pre ρ h → @Sv (turn g b (.tup [.int pre.length, a]) ρ L h) ⟨fun ρ h => @Stop ⟨P (pre ++ [a]) ρ h⟩, T, X, N, fun ρ h => @Stop ⟨P (pre ++ [a]) ρ h⟩⟩) (fin : ∀ ρ h, P as ρ h → N ρ h) (p : P [] ρ h) : @Sv (loopV g b (enumD as) ρ L h) ⟨N, T, X, B, C⟩ := by
  unfold enumD
  refine lpV (as := as.zipIdx) (f := fun q => .tup [.int q.2, q.1]) (fun pre ρ h => P (pre.map (·.1)) ρ h) rfl p ?_ ?_
  · intro pre a post ρ h ea pp
    obtain ⟨h1, h2, h3, h4⟩ := zip_at ea
    have e : as = pre.map (·.1) ++ a.1 :: post.map (·.1) := by
      have := congrArg (List.map (·.1)) ea
      rw [List.zipIdx_map_fst] at this
      simpa using this
    have := step (pre.map (·.1)) a.1 (post.map (·.1)) ρ h e pp
    rw [List.length_map, ← h1] at this
    have e3 : (pre ++ [a]).map (·.1) = pre.map (·.1) ++ [a.1] := by simp
    rw [e3]
    exact this
  · intro ρ h pp
    rw [List.zipIdx_map_fst] at pp
    exact fin ρ h pp
end
abbrev Tk := Tr × Str
def kidsOf (ts : List Tk) : List Str → List D → Option (List Tr)
  | [], [] => some []
  | k :: r, .int i :: xs => if 0 ≤ i then (match ts[i.toNat]? with
    | some u => if u.2 = k then (kidsOf ts r xs).map (u.1 :: ·) else none
    | none => none) else none
  | _, _ => none
/-- the tree that a row makes of those before it -/
def stepRow (ops : List Op) (ts : List Tk) (d : D) : Option Tk := match d with
  | .tup (.str nm :: xs) => (match ops.find? fun o => decide (o.nm = nm) with
    | some o => (kidsOf ts o.row xs).map fun us => (.node nm us, o.kd)
    | none => none)
  | _ => none
def rowsT (ops : List Op) : List Tk → List D → List Tk ⊕ Nat
  | ts, [] => .inl ts
  | ts, d :: ds => match stepRow ops ts d with
    | some z => rowsT ops (ts ++ [z]) ds
    | none => .inr ts.length
def rowsQ (ops : List Op) (x : D) (h : Hh) : List Tk ⊕ Int := match seqOf x h with
  | some xs => if 1 ≤ xs.length ∧ xs.length ≤ 12000 then (match rowsT ops [] xs with
    | .inl ts => .inl ts
    | .inr i => .inr i) else .inr (-1)
  | none => .inr (-1)
def fwD : List Tk ⊕ Int → D
  | .inl _ => .non
  | .inr i => .int i
def goodNum (ts : List Tk) (k : Str) (d : D) : Bool := match d with
  | .int i => decide (0 ≤ i) && (match ts[i.toNat]? with
    | some u => decide (u.2 = k)
    | none => false)
  | _ => false
theorem kids_good {ts : List Tk} : ∀ {ks : List Str} {xs : List D}, xs.length = ks.length → ((kidsOf ts ks xs).isSome = true ↔ ∀ (i : Nat) k d, ks[i]? = some k → xs[i]? = some d → goodNum ts k d = true)
  | [], [], _ => by simp [kidsOf]
  | k :: ks, x :: xs, hl => by
    have ih := kids_good (ts := ts) (ks := ks) (xs := xs) (by simpa using hl)
    constructor
    · intro z i k' d e1 e2
      cases x with
      | int n =>
        rw [kidsOf] at z
        split at z
        · rename_i h0
          split at z
          · rename_i u hu
            split at z
            · rename_i hk
              cases i with
              | zero =>
                cases e1; cases e2
                simp [goodNum, h0, hu, hk]
              | succ i =>
                refine ih.mp (by simpa using z) i k' d (by simpa using e1) (by simpa using e2)
            · cases z
          · cases z
        · cases z
      | _ => simp [kidsOf] at z
    · intro z
      have z0 := z 0 k x rfl rfl
      have zs := ih.mpr fun i k' d e1 e2 => z (i + 1) k' d (by simpa using e1) (by simpa using e2)
      cases x with
      | int n =>
        rw [kidsOf]
        unfold goodNum at z0
        simp only [Bool.and_eq_true, decide_eq_true_eq] at z0
        obtain ⟨h0, h1⟩ := z0
        rw [if_pos h0]
        cases hu : ts[n.toNat]? with
        | none => rw [hu] at h1; cases h1
        | some u =>
          rw [hu] at h1
          simp only [decide_eq_true_eq] at h1
          simp only
          rw [if_pos h1]
          simpa using zs
      | _ => cases z0
  | [], _ :: _, h => by simp at h
  | _ :: _, [], h => by simp at h
theorem kids_len {ts : List Tk} : ∀ {ks : List Str} {xs : List D} {us : List Tr}, kidsOf ts ks xs = some us → xs.length = ks.length
  | [], [], _, _ => rfl
  | k :: ks, .int i :: xs, us, e => by
    rw [kidsOf] at e
    split at e
    · split at e
      · split at e
        · rw [Option.map_eq_some_iff] at e
          obtain ⟨vs, e, _⟩ := e
          simp [kids_len e]
        · cases e
      · cases e
    · cases e
  | [], _ :: _, _, e => by simp [kidsOf] at e
  | _ :: _, [], _, e => by simp [kidsOf] at e
  | _ :: _, .non :: _, _, e => by simp [kidsOf] at e
  | _ :: _, .bl _ :: _, _, e => by simp [kidsOf] at e
  | _ :: _, .str _ :: _, _, e => by simp [kidsOf] at e
  | _ :: _, .tup _ :: _, _, e => by simp [kidsOf] at e
  | _ :: _, .frl _ :: _, _, e => by simp [kidsOf] at e
  | _ :: _, .ref _ :: _, _, e => by simp [kidsOf] at e
def FitR (F : FX) : Prop := ∀ (h : Hh) (L : List Nat) (q m : Nat) (ops : List Op) (ts : List Tk) (d : D), h[q]? = some (dicOf ops) → Lang ops → h[m]? = some (.lst (ts.map fun t => D.str t.2)) → ts.length ≤ 100000 → calmD h d → Ok (F [.ref q, .ref m, d] L h) fun v h' => v = .bl (stepRow ops ts d).isSome ∧ h = h'
theorem fits_row_ok {f0 : FX} (e0 : f0 = bodyX 1 p_is_integer) : FitR (bodyX 7 (p_fits_row f0)) := by
  subst e0
  intro h L q m ops ts d e la em lts c
  unfold Ok p_fits_row
  rw [Ev_bodyX]
  cases d with
  | tup xs =>
    cases xs with
    | nil => simp [isB]; exact ⟨rfl, rfl⟩
    | cons a xs =>
      have ca : calmD h a := ⟨by have := c.1; simp only [D.tame, D.tames] at this; exact this.1, by have := c.2; simp only [D.sml, D.smls] at this; exact this.1⟩
      have cx : ∀ y ∈ xs, calmD h y := fun y hy => ⟨by have := c.1; simp only [D.tame, D.tames] at this; exact tames_mem.mp this.2 y hy, by have := c.2; simp only [D.sml, D.smls] at this; exact smls_mem.mp this.2 y hy⟩
      have ne : ¬ ((xs.length : Int) + 1 = 0) := by omega
      cases a with
      | str nm =>
        simp [isB, e, dicOf, ne]
        rw [valD_find]
        cases hf : ops.find? fun o => decide (o.nm = nm) with
        | none =>
          simp
          exact ⟨by simp [stepRow, hf], rfl⟩
        | some o =>
          have ho := List.mem_of_find?_eq_some hf
          have lr := la.sane.row o ho
          simp [Op.v]
          by_cases hl : xs.length = o.row.length
          · have gk := kids_good (ts := ts) hl
            have val : (stepRow ops ts (.tup (.str nm :: xs))).isSome = (kidsOf ts o.row xs).isSome := by
              unfold stepRow
              simp only [hf]
              cases kidsOf ts o.row xs <;> rfl
            rw [val]
            simp [e, dicOf, valD_find, hf, Op.v, hl]
            refine lpT_go (fun pre ρ h' => (∃ x4 x5 x6, ρ = [some (.ref q), some (.ref m), some (.tup (.str nm :: xs)), some (.tup (o.row.map .str)), x4, x5, x6]) ∧ h = h' ∧ ∀ (i : Nat) k d, i < pre.length → o.row[i]? = some k → xs[i]? = some d → goodNum ts k d = true) ?_ ?_ ⟨⟨_, _, _, rfl⟩, rfl, fun i k d z => (nomatch z)⟩
            · rintro pre a post ρ _ ea ⟨⟨x4, x5, x6, rfl⟩, rfl, hp⟩
              have lp : pre.length < o.row.length := by have := congrArg List.length ea; simp at this; omega
              obtain ⟨k, hk⟩ : ∃ k, o.row[pre.length]? = some k := ⟨_, List.getElem?_eq_getElem lp⟩
              have eak : a = .str k := by
                have : (o.row.map D.str)[pre.length]? = some a := by rw [ea]; simp
                rw [List.getElem?_map, hk] at this
                exact (Option.some.inj this).symm
              subst eak
              obtain ⟨y, hy⟩ : ∃ y, xs[pre.length]? = some y := ⟨_, List.getElem?_eq_getElem (by omega)⟩
              have cy := cx y (List.mem_of_getElem? hy)
              simp [atI_n1, hy]
              refine use (is_integerD (tame_of cy.1 cy.2)) ?_
              rintro _ _ ⟨rfl, rfl⟩
              have fin : goodNum ts k y = true → (∀ (i : Nat) k d, i < (pre ++ [D.str k]).length → o.row[i]? = some k → xs[i]? = some d → goodNum ts k d = true) := fun g i k' d li e1 e2 => by
                by_cases z : i < pre.length
                · exact hp i k' d z e1 e2
                · have : i = pre.length := by simp at li; omega
                  subst this
                  rw [hk] at e1
                  rw [hy] at e2
                  cases e1; cases e2
                  exact g
              have bad : goodNum ts k y = false → (D.bl false = .bl (kidsOf ts o.row xs).isSome) := fun g => by
                congr 1
                cases z : (kidsOf ts o.row xs).isSome with
                | false => rfl
                | true =>
                  have := gk.mp z pre.length k y hk hy
                  rw [g] at this
                  cases this
              cases y with
              | int n =>
                simp [intD, em]
                refine Br.go (fun h0 => ?_) (fun h0 => ?_)
                · simp [em]
                  refine Br.go (fun h1 => ?_) (fun h1 => ?_)
                  · obtain ⟨n, rfl⟩ : ∃ j : Nat, n = j := ⟨n.toNat, by omega⟩
                    obtain ⟨u, hu⟩ : ∃ u, ts[n]? = some u := ⟨_, List.getElem?_eq_getElem (by omega)⟩
                    simp [em, atI_n, hu]
                    by_cases hk2 : u.2 = k
                    · have g : goodNum ts k (.int (n : Int)) = true := by simp [goodNum, hu, hk2]
                      simp [hk2]
                      exact ⟨⟨_, _, _, rfl⟩, rfl, by simpa using fin g⟩
                    · have g : goodNum ts k (.int (n : Int)) = false := by simp [goodNum, hu, hk2]
                      simp [hk2]
                      exact ⟨bad g, rfl⟩
                  · have g : goodNum ts k (.int n) = false := by
                      simp only [goodNum, List.getElem?_eq_none (show ts.length ≤ n.toNat by omega)]
                      simp
                    simp
                    exact ⟨bad g, rfl⟩
                · have g : goodNum ts k (.int n) = false := by simp [goodNum, h0]
                  simp
                  exact ⟨bad g, rfl⟩
              | _ =>
                simp [intD]
                exact ⟨bad rfl, rfl⟩
            · rintro ρ _ ⟨⟨x4, x5, x6, rfl⟩, rfl, hp⟩
              have : (kidsOf ts o.row xs).isSome = true := gk.mpr fun i k d e1 e2 => hp i k d (by rw [List.length_map]; exact (List.getElem?_eq_some_iff.mp e1).1) e1 e2
              rw [this]
              simp
              exact ⟨rfl, rfl⟩
          · have ne2 : ¬ ((xs.length : Int) = o.row.length) := by omega
            have : (stepRow ops ts (.tup (.str nm :: xs))).isSome = false := by
              unfold stepRow
              simp only [hf]
              have : kidsOf ts o.row xs = none := by
                cases z : kidsOf ts o.row xs with
                | none => rfl
                | some us => exact absurd (kids_len z) hl
              rw [this]
              rfl
            rw [this]
            simp [e, dicOf, valD_find, hf, Op.v, ne2]
            exact ⟨rfl, rfl⟩
      | ref n =>
        have t := (tame_of ca.1 ca.2).rf n rfl
        rcases t with ⟨ys, z⟩ | ⟨kvs, z⟩ <;> simp [isB, z, ne] <;> exact ⟨rfl, rfl⟩
      | frl ys => simp [isB, uIsi, tyD, ne]; exact ⟨rfl, rfl⟩
      | _ => simp [isB, ne]; exact ⟨rfl, rfl⟩
  | ref n =>
    have t := (tame_of c.1 c.2).rf n rfl
    rcases t with ⟨ys, z⟩ | ⟨kvs, z⟩ <;> simp [isB, z] <;> exact ⟨rfl, rfl⟩
  | frl ys => simp [isB, uIsi, tyD]; exact ⟨rfl, rfl⟩
  | _ => simp [isB]; exact ⟨rfl, rfl⟩
end Mi
end
section
set_option maxHeartbeats 1000000
namespace Mi
open PySem L2
theorem rowsT_app {ops : List Op} : ∀ (pre : List D) (ts : List Tk) (post : List D), rowsT ops ts (pre ++ post) = match rowsT ops ts pre with
    | .inl us => rowsT ops us post
    | .inr i => .inr i
  | [], ts, post => by rw [List.nil_append, rowsT]
  | d :: pre, ts, post => by
    rw [List.cons_append, rowsT, rowsT]
    cases stepRow ops ts d with
    | none => rfl
    | some z => exact rowsT_app pre _ post
theorem rowsT_len {ops : List Op} : ∀ {pre : List D} {ts us : List Tk}, rowsT ops ts pre = .inl us → us.length = ts.length + pre.length
  | [], ts, us, e => by rw [rowsT] at e; cases e; rfl
  | d :: pre, ts, us, e => by
    rw [rowsT] at e
    split at e
    · have := rowsT_len e
      rw [this, List.length_append, List.length_cons, List.length_cons, List.length_nil]
      omega
    · cases e
theorem rowsT_snoc {ops : List Op} {pre : List D} {us : List Tk} {d : D} {z : Tk} (e : rowsT ops [] pre = .inl us) (s : stepRow ops us d = some z) : rowsT ops [] (pre ++ [d]) = .inl (us ++ [z]) := by
  rw [rowsT_app, e]
  simp only [rowsT, s]
theorem rowsT_stop {ops : List Op} {pre post : List D} {us : List Tk} {d : D} (e : rowsT ops [] pre = .inl us) (s : stepRow ops us d = none) : rowsT ops [] (pre ++ d :: post) = .inr pre.length := by
  rw [rowsT_app, e]
  simp only [rowsT, s]
  rw [rowsT_len e]
  simp
theorem step_shape {ops : List Op} {ts : List Tk} {d : D} {z : Tk} (e : stepRow ops ts d = some z) : ∃ nm xs o us, d = .tup (.str nm :: xs) ∧ (ops.find? fun o => decide (o.nm = nm)) = some o ∧ kidsOf ts o.row xs = some us ∧ z = (.node nm us, o.kd) := by
  unfold stepRow at e
  split at e
  · rename_i nm xs
    split at e
    · rename_i o ho
      rw [Option.map_eq_some_iff] at e
      obtain ⟨us, h1, h2⟩ := e
      exact ⟨nm, xs, o, us, rfl, ho, h1, h2.symm⟩
    · cases e
  · cases e
/-- what may be asked for rows -/
structure RowsOk (h : Hh) (x : D) : Prop where
  calm : calmD h x
  nf : ∀ xs, x ≠ .frl xs
  items : ∀ xs, seqOf x h = some xs → ∀ d ∈ xs, calmD h d
theorem seq_ref {h : Hh} {n : Nat} {xs : List D} (e : h[n]? = some (.lst xs)) : seqOf (.ref n) h = some xs := by simp [seqOf, lstOf, e]
theorem seq_gr {h h' : Hh} (G : Gr h h') {x : D} {xs : List D} (e : seqOf x h = some xs) : seqOf x h' = some xs := by
  cases x with
  | ref n =>
    simp only [seqOf, lstOf] at e ⊢
    cases z : h[n]? with
    | none => rw [z] at e; cases e
    | some o =>
      rw [z] at e
      rw [G.get z]
      exact e
  | tup ys => exact e
  | frl ys => exact e
  | _ => cases e
theorem seq_gr_none {h h' : Hh} (G : Gr h h') {x : D} (c : calmD h x) (e : seqOf x h = none) : seqOf x h' = none := by
  cases x with
  | ref n =>
    rcases (tame_of c.1 c.2).rf n rfl with ⟨ys, z⟩ | ⟨kvs, z⟩
    · rw [seq_ref z] at e; cases e
    · simp [seqOf, lstOf, G.get z]
  | tup ys => cases e
  | frl ys => cases e
  | _ => rfl
theorem RowsOk.gr {h h' : Hh} {x : D} (r : RowsOk h x) (G : Gr h h') : RowsOk h' x := ⟨calm_gr r.calm G, r.nf, fun xs e d hd => by
  cases z : seqOf x h with
  | none => rw [seq_gr_none G r.calm z] at e; cases e
  | some ys =>
    rw [seq_gr G z] at e
    cases e
    exact calm_gr (r.items _ z d hd) G⟩
theorem rowsQ_gr {ops : List Op} {h h' : Hh} {x : D} (r : RowsOk h x) (G : Gr h h') : rowsQ ops x h' = rowsQ ops x h := by
  unfold rowsQ
  cases z : seqOf x h with
  | none => rw [seq_gr_none G r.calm z]
  | some ys => rw [seq_gr G z]
def FwS (F : FX) (cs : Nat) : Prop := ∀ (h : Hh) (L : List Nat) (s : Nat) (ops : List Op) (root : Str) (x : D), IsSrc cs h s ops root → RowsOk h x → Ok (F [.ref s, x] L h) fun v h' => v = fwD (rowsQ ops x h) ∧ Gr h h'
theorem first_wrong_ok {f0 f1 : FX} {cs : Nat} {l0 : List Nat} (e0 : f0 = bodyX 1 p_is_row) (h1 : FitR f1) (hc : cs ∈ l0) : FwS (bodyX 6 (p_first_wrong f0 l0 f1)) cs := by
  subst e0
  intro h L s ops root x S R
  obtain ⟨⟨q, e1, e2, l⟩, la, b, d4⟩ := S
  unfold srcOb at e1
  unfold Ok p_first_wrong
  rw [Ev_bodyX]
  refine Sv_cut (fun ρ h' => (∃ xs, seqOf x h = some xs ∧ 1 ≤ xs.length ∧ xs.length ≤ 12000) ∧ ρ = [some (.ref s), some x, none, none, none, none] ∧ h = h') ?_ ?_
  · simp
    refine use (is_row_ok (tame_of R.calm.1 R.calm.2)) ?_
    rintro _ _ ⟨rfl, rfl⟩
    cases z : seqOf x h with
    | none =>
      simp [uNeg]
      refine ⟨?_, Gr.refl⟩
      unfold rowsQ
      rw [z]
      rfl
    | some xs =>
      have len : fLen [x] h = .ok (.int xs.length) h := by
        cases x with
        | ref n =>
          rcases (tame_of R.calm.1 R.calm.2).rf n rfl with ⟨ys, w⟩ | ⟨kvs, w⟩
          · rw [seq_ref w] at z
            cases z
            simp [w]
          · simp [seqOf, lstOf, w] at z
        | tup ys => cases z; rfl
        | frl ys => exact absurd rfl (R.nf ys)
        | _ => cases z
      have bad : ¬ (1 ≤ xs.length ∧ xs.length ≤ 12000) → fwD (rowsQ ops x h) = .int (-1) := fun w => by
        unfold rowsQ
        rw [z]
        simp only
        rw [if_neg w]
        rfl
      simp [len, uNeg]
      refine Br.go (fun g1 => ?_) (fun g1 => ?_)
      · simp
        refine Br.go (fun g2 => ?_) (fun g2 => ?_)
        · exact ⟨⟨xs, rfl, by omega, by omega⟩, rfl, rfl⟩
        · exact ⟨(bad (by omega)).symm, Gr.refl⟩
      · exact ⟨(bad (by omega)).symm, Gr.refl⟩
  rintro _ _ ⟨⟨xs, z, lo, hi⟩, rfl, rfl⟩
  have val : rowsQ ops x h = match rowsT ops [] xs with
    | .inl ts => .inl ts
    | .inr i => .inr i := by
    unfold rowsQ
    rw [z]
    simp only
    refine (if_pos ⟨lo, hi⟩).trans ?_
    cases rowsT ops [] xs <;> rfl
  have cm := R.items xs z
  refine Sv_cut (fun ρ h' => ρ = [some (.ref s), some x, some (.ref q), none, none, none] ∧ h = h') ?_ ?_
  · simp [e1, hc]
    exact ⟨rfl, rfl⟩
  rintro _ _ ⟨rfl, rfl⟩
  refine Sv_cut (fun ρ h' => ρ = [some (.ref s), some x, some (.ref q), some (.ref h.length), none, none] ∧ h' = h ++ [.lst []]) ?_ ?_
  · simp
    exact ⟨rfl, rfl⟩
  rintro _ _ ⟨rfl, rfl⟩
  have lq := lt_of e2
  let P : List D → Rho → Hh → Prop := fun pre ρ h' => (∃ x4 x5, ρ = [some (.ref s), some x, some (.ref q), some (.ref h.length), x4, x5]) ∧ Gr h h' ∧ ∃ ts : List Tk, rowsT ops [] pre = .inl ts ∧ h'[h.length]? = some (.lst (ts.map fun t => D.str t.2))
  have step : ∀ pre a post ρ h', xs = pre ++ a :: post → P pre ρ h' → @Sv (turn (gTupX 2 (gsCons (gVar 4) (gsCons (gVar 5) gsNil))) (sSeq (sIf (xNot (tTru (eCall 3 f1 (aCons (eVar 2) (aCons (eVar 3) (aCons (eVar 5) aNil)))))) (sRet (eVar 4)) sNil)
    (sDrop (eApp (eVar 3) (eBin bIx (eBin bIx (eVar 2) (eBin bIx (eVar 5) (eC (.int 0)))) (eC (.int 0)))))) (.tup [.int pre.length, a]) ρ L h') ⟨fun ρ h => @Stop ⟨P (pre ++ [a]) ρ h⟩, fun d h' => @Ev D (.ok d h') ⟨fun v h' => @Stop ⟨v = fwD (rowsQ ops x h) ∧ Gr h h'⟩⟩ nox, fun c p ρ h => @Ev D (.exc c p h) ⟨fun v h' => @Stop ⟨v = fwD (rowsQ ops x h) ∧ Gr h h'⟩⟩ nox, fun ρ h' => @Sv (sRet (eC .non) ρ L h') ⟨fun _ h' => @Ev D (.ok .non h') ⟨fun v h' => @Stop ⟨v = fwD (rowsQ ops x h) ∧ Gr h h'⟩⟩ nox, fun d h' => @Ev D (.ok d h') ⟨fun v h' => @Stop ⟨v = fwD (rowsQ ops x h) ∧ Gr h h'⟩⟩ nox, fun c p _ h' => @Ev D (.exc c p h') ⟨fun v h' => @Stop ⟨v = fwD (rowsQ ops x h) ∧ Gr h h'⟩⟩ nox, fun _ _ => False, fun _ _ => False⟩, fun ρ h => @Stop ⟨P (pre ++ [a]) ρ h⟩⟩ := by
    rintro pre a post ρ h' ea ⟨⟨x4, x5, rfl⟩, G, ts, er, em⟩
    have lt := rowsT_len er
    have lp : pre.length ≤ 12000 := by have := congrArg List.length ea; simp at this; omega
    have ca := calm_gr (cm a (by rw [ea]; simp)) G
    have lt' := lt_of em
    simp
    refine use (h1 h' L q h.length ops ts a (G.get e2) la em (by simp at lt; omega) ca) ?_
    rintro _ _ ⟨rfl, rfl⟩
    cases hs : stepRow ops ts a with
    | none =>
      simp
      refine ⟨?_, G⟩
      rw [val, ea, rowsT_stop er hs]
      rfl
    | some zz =>
      obtain ⟨nm, ys, o, us, rfl, hf, hk, rfl⟩ := step_shape hs
      have lt2 : ts.length < 16777216 := by simp at lt; omega
      simp [G.get e2, dicOf, em, valD_find, hf, Op.v]
      refine Br.yes (by simpa using lt2) ?_
      refine ⟨⟨_, _, rfl⟩, G.put (Nat.le_refl _), ts ++ [(.node nm us, o.kd)], rowsT_snoc er hs, ?_⟩
      rw [List.getElem?_set_self lt']
      simp
  have fin : ∀ ρ h', P xs ρ h' → @Sv (sRet (eC .non) ρ L h') ⟨fun _ h' => @Ev D (.ok .non h') ⟨fun v h' => @Stop ⟨v = fwD (rowsQ ops x h) ∧ Gr h h'⟩⟩ nox, fun d h' => @Ev D (.ok d h') ⟨fun v h' => @Stop ⟨v = fwD (rowsQ ops x h) ∧ Gr h h'⟩⟩ nox, fun c p _ h' => @Ev D (.exc c p h') ⟨fun v h' => @Stop ⟨v = fwD (rowsQ ops x h) ∧ Gr h h'⟩⟩ nox, fun _ _ => False, fun _ _ => False⟩ := by
    rintro ρ h' ⟨_, G, ts, er, _⟩
    simp
    refine ⟨?_, G⟩
    rw [val, er]
    rfl
  have start : P [] [some (.ref s), some x, some (.ref q), some (.ref h.length), none, none] (h ++ [.lst []]) := ⟨⟨_, _, rfl⟩, Gr.app, [], rfl, by simp⟩
  rw [Sv_sSeq, Sv_sForE]
  cases x with
  | tup ys =>
    cases z
    simp only [Ev_eVar, List.getElem?_cons_succ, List.getElem?_cons_zero, Om_some, Ev_ok]
    exact lpT_go P step fin start
  | ref n =>
    simp only [Ev_eVar, List.getElem?_cons_succ, List.getElem?_cons_zero, Om_some, Ev_ok]
    have en : h[n]? = some (.lst xs) := by
      rcases (tame_of R.calm.1 R.calm.2).rf n rfl with ⟨ys, w⟩ | ⟨kvs, w⟩
      · rw [seq_ref w] at z
        cases z
        exact w
      · simp [seqOf, lstOf, w] at z
    exact lpE P (by omega) start (fun pre ρ h' ⟨_, G, _⟩ => G.get en) step fin
  | frl ys => exact absurd rfl (R.nf ys)
  | _ => cases z
def IfS (F : FX) (cs : Nat) : Prop := ∀ (h : Hh) (L : List Nat) (s : Nat) (ops : List Op) (root : Str) (x : D), IsSrc cs h s ops root → RowsOk h x → Ok (F [.ref s, x] L h) fun v h' => v = .bl (rowsQ ops x h).isLeft ∧ Gr h h'
theorem is_folded_ok {f0 : FX} {cs : Nat} (h0 : FwS f0 cs) : IfS (bodyX 2 (p_is_folded f0)) cs := by
  intro h L s ops root x S R
  unfold Ok p_is_folded
  rw [Ev_bodyX]
  simp
  refine use (h0 h L s ops root x S R) ?_
  rintro _ h1 ⟨rfl, G⟩
  cases rowsQ ops x h with
  | inl ts => simp [uIsN, fwD]; exact ⟨rfl, G⟩
  | inr i => simp [uIsN, fwD]; exact ⟨rfl, G⟩
end Mi
end
section
set_option maxHeartbeats 1000000
namespace Mi
open PySem L2
theorem lpSeq {g : GX} {b : SX} {L : List Nat} {ρ : Rho} {h : Hh} {N : Rho → Hh → Prop} {T : D → Hh → Prop} {X : Nat → Option D → Rho → Hh → Prop} {B C : Rho → Hh → Prop} (P : List D → Rho → Hh → Prop) {x : D} {xs : List D} (hl : xs.length < 100000) (p : P [] ρ h)
    (hn : x = .tup xs ∨ ∃ n, x = .ref n ∧ ∀ pre ρ h, P pre ρ h → h[n]? = some (.lst xs))
    (step : ∀ pre a post ρ h, xs = pre ++ a :: post → P pre ρ h → @Sv (turn g b a ρ L h) ⟨fun ρ h => @Stop ⟨P (pre ++ [a]) ρ h⟩, T, X, N, fun ρ h => @Stop ⟨P (pre ++ [a]) ρ h⟩⟩) (fin : ∀ ρ h, P xs ρ h → N ρ h) : @Sv (forD g b x ρ L h) ⟨N, T, X, B, C⟩ := by
  rcases hn with rfl | ⟨n, rfl, hn⟩
  · rw [forD_tup]
    exact lpV (as := xs) (f := id) P (by simp) p step fin
  · rw [forD_ref]
    exact lpL (as := xs) P id hl p (by simpa using hn) step fin
theorem rows_seq {ops : List Op} {h : Hh} {x : D} {ts : List Tk} (e : rowsQ ops x h = .inl ts) : ∃ xs, seqOf x h = some xs ∧ 1 ≤ xs.length ∧ xs.length ≤ 12000 ∧ rowsT ops [] xs = .inl ts := by
  unfold rowsQ at e
  split at e
  · rename_i xs z
    split at e
    · rename_i hl
      split at e
      · rename_i us w
        cases e
        exact ⟨xs, z, hl.1, hl.2, w⟩
      · cases e
    · cases e
  · cases e
theorem RowsOk.walk {h : Hh} {x : D} {xs : List D} (r : RowsOk h x) (z : seqOf x h = some xs) : x = .tup xs ∨ ∃ n, x = .ref n ∧ h[n]? = some (.lst xs) := by
  cases x with
  | tup ys => cases z; exact .inl rfl
  | ref n =>
    rcases (tame_of r.calm.1 r.calm.2).rf n rfl with ⟨ys, w⟩ | ⟨kvs, w⟩
    · rw [seq_ref w] at z
      cases z
      exact .inr ⟨n, rfl, w⟩
    · simp [seqOf, lstOf, w] at z
  | frl ys => exact absurd rfl (r.nf ys)
  | _ => cases z
theorem step_ex {ops : List Op} {pre post : List D} {us ts : List Tk} {a : D} (e : rowsT ops [] (pre ++ a :: post) = .inl ts) (e2 : rowsT ops [] pre = .inl us) : ∃ z, stepRow ops us a = some z := by
  rw [rowsT_app, e2] at e
  simp only [rowsT] at e
  cases z : stepRow ops us a with
  | none => rw [z] at e; cases e
  | some y => exact ⟨y, rfl⟩
/-- a row's numbers and what they stand for -/
theorem kids_pairs {us : List Tk} : ∀ {ks : List Str} {xs : List D} {vs : List Tr}, kidsOf us ks xs = some vs → ∃ ps : List (Nat × Tk), xs = (ps.map fun p => D.int p.1) ∧ vs = (ps.map fun p => p.2.1) ∧ (∀ p ∈ ps, us[p.1]? = some p.2) ∧ (ps.map fun p => p.2.2) = ks
  | [], [], _, e => by
    rw [kidsOf] at e
    cases e
    exact ⟨[], rfl, rfl, fun p hp => (nomatch hp), rfl⟩
  | k :: ks, .int i :: xs, vs, e => by
    rw [kidsOf] at e
    split at e
    · rename_i h0
      split at e
      · rename_i u hu
        split at e
        · rename_i hk
          rw [Option.map_eq_some_iff] at e
          obtain ⟨vs', e, rfl⟩ := e
          obtain ⟨ps, rfl, rfl, h3, h4⟩ := kids_pairs e
          refine ⟨(i.toNat, u) :: ps, by simp; omega, rfl, fun p hp => ?_, by simp [hk, h4]⟩
          rcases List.mem_cons.mp hp with rfl | hp
          · exact hu
          · exact h3 p hp
        · cases e
      · cases e
    · cases e
  | [], _ :: _, _, e => by simp [kidsOf] at e
  | _ :: _, [], _, e => by simp [kidsOf] at e
  | _ :: _, .non :: _, _, e => by simp [kidsOf] at e
  | _ :: _, .bl _ :: _, _, e => by simp [kidsOf] at e
  | _ :: _, .str _ :: _, _, e => by simp [kidsOf] at e
  | _ :: _, .tup _ :: _, _, e => by simp [kidsOf] at e
  | _ :: _, .frl _ :: _, _, e => by simp [kidsOf] at e
  | _ :: _, .ref _ :: _, _, e => by simp [kidsOf] at e
theorem pick_ok {x : Kx} {Q : D → Hh → Prop} {i k : Nat} {ρ : Rho} {L : List Nat} {h : Hh} {m : Nat} {us : List Tk} {f : Tk → D} {ps : List (Nat × Tk)} (hi : ρ[k]? = some (some (.ref m))) (ik : i ≠ k) (li : i < ρ.length) (em : h[m]? = some (.lst (us.map f))) (hp : ∀ p ∈ ps, us[p.1]? = some p.2) (lp : ps.length ≤ 1000)
    (fin : ∀ h1, Gr h h1 → h1[h.length]? = some (.lst (ps.map fun p => f p.2)) → Q (.ref h.length) h1) : @Ev D (compV (gVar i) tYesX (eBin bIx (eVar k) (eVar i)) h.length (ps.map fun p => D.int p.1) ρ L (h ++ [.lst []])) ⟨Q⟩ x := by
  refine cpV h Gr (rl_gr _) (fun (p : Nat × Tk) y => y = f p.2) (fun _ => False) (as := ps) (fun p => D.int p.1) rfl (by omega) ?_ ?_
  · intro p hpm h1 G1
    have e1 : (us.map f)[p.1]? = some (f p.2) := by rw [List.getElem?_map, hp p hpm]; rfl
    unfold Item
    simp [gVar, List.getElem?_set_ne ik, hi, List.getElem?_set_self li, G1.get em, atI_n, e1]
    exact ⟨Gr.refl, rfl⟩
  · intro ys h1 G1 e1 C
    exact fin h1 G1 (by rw [e1, C.map])
theorem sum_min (vs : List Tr) : min 10001 (1 + (vs.map fun t => (min 10001 (t.size : Int))).sum) = min 10001 ((Tr.sizes vs + 1 : Nat) : Int) := by
  have key : ∀ vs : List Tr, ((vs.map fun t => (min 10001 (t.size : Int))).sum ≤ (Tr.sizes vs : Int)) ∧ ((Tr.sizes vs : Int) ≤ 10000 → (vs.map fun t => (min 10001 (t.size : Int))).sum = (Tr.sizes vs : Int)) ∧ (10000 < (Tr.sizes vs : Int) → 10000 < (vs.map fun t => (min 10001 (t.size : Int))).sum) := by
    intro vs
    induction vs with
    | nil => rw [Tr.sizes]; simp
    | cons t r ih =>
      obtain ⟨h1, h2, h3⟩ := ih
      rw [Tr.sizes, List.map_cons, List.sum_cons]
      have nn : 0 ≤ (r.map fun t => (min 10001 (t.size : Int))).sum := by
        clear h1 h2 h3
        induction r with
        | nil => simp
        | cons a r ih => rw [List.map_cons, List.sum_cons]; omega
      refine ⟨by omega, fun z => by have := h2 (by omega); omega, fun z => ?_⟩
      by_cases z1 : 10000 < (t.size : Int)
      · omega
      · by_cases z2 : 10000 < (Tr.sizes r : Int)
        · have := h3 z2; omega
        · have := h2 (by omega); omega
  obtain ⟨h1, h2, h3⟩ := key vs
  by_cases z : (Tr.sizes vs : Int) ≤ 10000
  · have := h2 z; omega
  · have := h3 (by omega); omega
theorem fold_deps : ∀ (vs : List Tr) (n : Nat), (vs.map fun t => (t.dep : Int)).foldl (fun a b => if b > a then b else a) (n : Int) = ((max n (Tr.deps vs) : Nat) : Int)
  | [], n => by rw [Tr.deps]; simp
  | t :: vs, n => by
    rw [List.map_cons, List.foldl_cons, Tr.deps]
    have : (if (t.dep : Int) > (n : Int) then (t.dep : Int) else (n : Int)) = ((max n t.dep : Nat) : Int) := by
      split <;> omega
    rw [this, fold_deps vs (max n t.dep)]
    congr 1
    omega
theorem deps_mem {t : Tr} : ∀ {vs : List Tr}, t ∈ vs → t.dep ≤ Tr.deps vs
  | a :: r, h => by
    rw [Tr.deps]
    rcases List.mem_cons.mp h with rfl | h
    · exact Nat.le_max_left _ _
    · exact Nat.le_trans (deps_mem h) (Nat.le_max_right _ _)
def szD (t : Tk) : D := .int (min 10001 (t.1.size : Int))
def lvD (t : Tk) : D := .int t.1.dep
def trD (t : Tk) : D := if 200 < t.1.dep then .non else t.1.d
theorem maxD_deps {h : Hh} (ps : List (Nat × Tk)) : maxOf (intsD (ps.map fun p => lvD p.2)) (D.int 0) h = .ok (.int (Tr.deps (ps.map fun p => p.2.1) : Nat)) h := by
  have : intsD (ps.map fun p => lvD p.2) = some (ps.map fun p => (p.2.1.dep : Int)) := intsD_map (fun p : Nat × Tk => (p.2.1.dep : Int)) ps
  rw [this]
  cases ps with
  | nil => rw [List.map_nil, List.map_nil, Tr.deps]; rfl
  | cons p r =>
    rw [List.map_cons, List.map_cons, Tr.deps]
    have := fold_deps (r.map fun p => p.2.1) p.2.1.dep
    rw [List.map_map] at this
    unfold maxOf
    simp only
    congr 2
def UnfS (F : FX) (cs cb cm : Nat) : Prop := ∀ (h : Hh) (L : List Nat) (s : Nat) (ops : List Op) (root : Str) (x : D), IsSrc cs h s ops root → RowsOk h x →
  OkX (F [.ref s, x] L h) (fun v h' => ∃ ts t, rowsQ ops x h = .inl ts ∧ ts.getLast? = some t ∧ t.1.size ≤ 10000 ∧ t.1.dep ≤ 200 ∧ v = t.1.d ∧ Gr h h')
    (fun c p h' => Gr h h' ∧ ((c = cb ∧ ∃ i, rowsQ ops x h = .inr i ∧ p = some (.int i)) ∨ (c = cm ∧ ∃ ts t, rowsQ ops x h = .inl ts ∧ ts.getLast? = some t ∧ ((10000 < t.1.size ∧ p = some (.int 10000)) ∨ (t.1.size ≤ 10000 ∧ 200 < t.1.dep ∧ p = some (.int 200))))))
theorem unfolded_ok {f0 : FX} {cs cb cm : Nat} (h0 : FwS f0 cs) : UnfS (bodyX 8 (p_unfolded f0 cb cm)) cs cb cm := by
  intro h L s ops root x S R
  unfold OkX p_unfolded
  rw [Ev_bodyX]
  simp
  refine use (h0 h L s ops root x S R) ?_
  rintro _ h1 ⟨rfl, G1⟩
  cases hq : rowsQ ops x h with
  | inr i =>
    simp [uNotN, fwD]
    exact ⟨G1, .inl ⟨rfl, i, rfl, rfl⟩⟩
  | inl ts =>
    obtain ⟨xs, z, lo, hi, et⟩ := rows_seq hq
    have sn := S.sane.sane
    simp only [fwD, Sv_sAsgV]
    refine Sv_cut (fun ρ h' => ρ = [some (.ref s), some x, some .non, none, none, none, none, none] ∧ h1 = h') ?_ ?_
    · simp [uNotN]
      exact ⟨rfl, rfl⟩
    rintro _ _ ⟨rfl, rfl⟩
    refine Sv_cut (fun ρ h' => ρ = [some (.ref s), some x, some .non, some (.ref h1.length), none, none, none, none] ∧ h' = h1 ++ [.lst []]) ?_ ?_
    · simp
      exact ⟨rfl, rfl⟩
    rintro _ _ ⟨rfl, rfl⟩
    refine Sv_cut (fun ρ h' => ρ = [some (.ref s), some x, some .non, some (.ref h1.length), some (.ref (h1.length + 1)), none, none, none] ∧ h' = h1 ++ [.lst [], .lst []]) ?_ ?_
    · simp
      exact ⟨rfl, rfl⟩
    rintro _ _ ⟨rfl, rfl⟩
    refine Sv_cut (fun ρ h' => ρ = [some (.ref s), some x, some .non, some (.ref h1.length), some (.ref (h1.length + 1)), some (.ref (h1.length + 2)), none, none] ∧ h' = h1 ++ [.lst [], .lst [], .lst []]) ?_ ?_
    · simp
      exact ⟨rfl, rfl⟩
    rintro _ _ ⟨rfl, rfl⟩
    generalize hN : h1.length = N
    have R1 := R.gr G1
    have hw := R1.walk (seq_gr G1 z)
    refine Sv_cut (fun ρ h' => (∃ x6 x7, ρ = [some (.ref s), some x, some .non, some (.ref N), some (.ref (N + 1)), some (.ref (N + 2)), x6, x7]) ∧ Gr h1 h' ∧ h'[N]? = some (.lst (ts.map szD)) ∧ h'[N + 1]? = some (.lst (ts.map lvD)) ∧ h'[N + 2]? = some (.lst (ts.map trD))) ?_ ?_
    · simp
      refine lpSeq (xs := xs) (fun pre ρ h' => (∃ x6 x7, ρ = [some (.ref s), some x, some .non, some (.ref N), some (.ref (N + 1)), some (.ref (N + 2)), x6, x7]) ∧ Gr h1 h' ∧ ∃ us, rowsT ops [] pre = .inl us ∧ h'[N]? = some (.lst (us.map szD)) ∧ h'[N + 1]? = some (.lst (us.map lvD)) ∧ h'[N + 2]? = some (.lst (us.map trD))) (by omega) ⟨⟨_, _, rfl⟩, Gr.app, [], rfl, by subst hN; simp, by subst hN; simp, by subst hN; simp⟩ ?_ ?_ ?_
      · rcases hw with e | ⟨n, e, en⟩
        · exact .inl e
        · exact .inr ⟨n, e, fun pre ρ h' ⟨_, G, _⟩ => G.get en⟩
      · rintro pre a post ρ h2 ea ⟨⟨x6, x7, rfl⟩, G2, us, er, e1, e2, e3⟩
        rw [ea] at et
        obtain ⟨y, hy⟩ := step_ex et er
        obtain ⟨nm, ys, o, vs, rfl, hf, hk, rfl⟩ := step_shape hy
        obtain ⟨ps, rfl, rfl, hp, hks⟩ := kids_pairs hk
        have ho := List.mem_of_find?_eq_some hf
        have lrow := sn.row o ho
        have lps : ps.length ≤ 2 := by rw [← hks] at lrow; simpa using lrow
        have lus := rowsT_len er
        have lpre : pre.length ≤ 12000 := by have := congrArg List.length ea; simp at this; omega
        have lus2 : us.length < 16777216 := by simp at lus; omega
        have l1 := lt_of e1
        have l2 := lt_of e2
        have l3 := lt_of e3
        rw [Sv_turn]
        simp only [List.set_cons_succ, List.set_cons_zero]
        refine Sv_cut (fun ρ h' => (∃ x7, ρ = [some (.ref s), some x, some .non, some (.ref N), some (.ref (N + 1)), some (.ref (N + 2)), some (.tup (.str nm :: ps.map fun p => D.int p.1)), x7]) ∧ Gr h1 h' ∧ h'[N]? = some (.lst ((us ++ [(Tr.node nm (ps.map fun p => p.2.1), o.kd)]).map szD)) ∧ h'[N + 1]? = some (.lst (us.map lvD)) ∧ h'[N + 2]? = some (.lst (us.map trD))) ?_ ?_
        · simp [e1, Ev_bind]
          refine pick_ok (k := 3) (m := N) (us := us) (f := szD) (ps := ps) rfl (by decide) (by simp) e1 hp (by omega) ?_
          intro h3 G3 e4
          have hin : intsD (ps.map fun p => szD p.2) = some ((ps.map fun p => p.2.1).map fun t => min 10001 (t.size : Int)) := by
            rw [List.map_map]
            exact (intsD_map (fun p : Nat × Tk => min 10001 (p.2.1.size : Int)) ps)
          simp [e4, hin, G3.get e1]
          refine Br.yes lus2 ?_
          have le3 := lt_of (G3.get e1)
          refine ⟨⟨_, rfl⟩, (G2.trans G3).put (by omega), ?_, ?_, ?_⟩
          · rw [List.getElem?_set_self le3]
            have := sum_min (ps.map fun p => p.2.1)
            simp only [List.map_map] at this
            simp [szD, Tr.size]
            simpa using this
          · rw [List.getElem?_set_ne (by omega)]; exact G3.get e2
          · rw [List.getElem?_set_ne (by omega)]; exact G3.get e3
        rintro _ h3 ⟨⟨x7', rfl⟩, G3, f1, f2, f3⟩
        refine Sv_cut (fun ρ h' => (∃ x7, ρ = [some (.ref s), some x, some .non, some (.ref N), some (.ref (N + 1)), some (.ref (N + 2)), some (.tup (.str nm :: ps.map fun p => D.int p.1)), x7]) ∧ Gr h1 h' ∧ h'[N]? = some (.lst ((us ++ [(Tr.node nm (ps.map fun p => p.2.1), o.kd)]).map szD)) ∧ h'[N + 1]? = some (.lst ((us ++ [(Tr.node nm (ps.map fun p => p.2.1), o.kd)]).map lvD)) ∧ h'[N + 2]? = some (.lst (us.map trD))) ?_ ?_
        · simp [f2, Ev_bind]
          refine pick_ok (k := 4) (m := N + 1) (us := us) (f := lvD) (ps := ps) rfl (by decide) (by simp) f2 hp (by omega) ?_
          intro h4 G4 e4
          simp [lstOf, e4]
          rw [maxD_deps]
          simp [G4.get f2]
          refine Br.yes lus2 ?_
          have le4 := lt_of (G4.get f2)
          refine ⟨⟨_, rfl⟩, (G3.trans G4).put (by omega), ?_, ?_, ?_⟩
          · rw [List.getElem?_set_ne (by omega)]; simpa using G4.get f1
          · rw [List.getElem?_set_self le4]
            simp [lvD, Tr.dep]
            omega
          · rw [List.getElem?_set_ne (by omega)]; exact G4.get f3
        rintro _ h4 ⟨⟨x7', rfl⟩, G4, g1, g2, g3⟩
        have last : atI ((us ++ [(Tr.node nm (ps.map fun p => p.2.1), o.kd)]).map lvD) (-1) = some (lvD (Tr.node nm (ps.map fun p => p.2.1), o.kd)) := by
          rw [List.map_append, List.map_cons, List.map_nil]
          exact atI_last
        have l4 := lt_of g3
        generalize hz : (Tr.node nm (ps.map fun p => p.2.1), o.kd) = zt at *
        have hdep : zt.1.dep = Tr.deps (ps.map fun p => p.2.1) + 1 := by rw [← hz, Tr.dep]
        simp [g2, uNeg, atI_last, lvD]
        refine Br.go (fun hg => ?_) (fun hg => ?_)
        · simp [g3]
          refine Br.yes lus2 ?_
          refine ⟨⟨_, _, rfl⟩, G4.put (by omega), us ++ [zt], rowsT_snoc er hy, ?_, ?_, ?_⟩
          · rw [List.getElem?_set_ne (by omega)]; exact g1
          · rw [List.getElem?_set_ne (by omega)]; exact g2
          · rw [List.getElem?_set_self l4]
            simp [trD]
            intro w
            exact absurd w (by omega)
        · simp [g3, Ev_bind]
          refine pick_ok (k := 5) (m := N + 2) (us := us) (f := trD) (ps := ps) rfl (by decide) (by simp) g3 hp (by omega) ?_
          intro h5 G5 e5
          have tr : (ps.map fun p => trD p.2) = (ps.map fun p => p.2.1).map Tr.d := by
            rw [List.map_map]
            refine List.map_congr_left fun p hpm => ?_
            have : p.2.1.dep ≤ Tr.deps (ps.map fun p => p.2.1) := deps_mem (List.mem_map_of_mem (f := fun p : Nat × Tk => p.2.1) hpm)
            show trD p.2 = p.2.1.d
            unfold trD
            rw [if_neg (by omega)]
          rw [tr] at e5
          simp [e5, G5.get g3]
          refine Br.yes (by omega) ?_
          simp [G5.get g3]
          refine Br.yes lus2 ?_
          have l5 := lt_of (G5.get g3)
          refine ⟨⟨_, _, rfl⟩, (G4.trans G5).put (by omega), us ++ [zt], rowsT_snoc er hy, ?_, ?_, ?_⟩
          · rw [List.getElem?_set_ne (by omega)]; exact G5.get g1
          · rw [List.getElem?_set_ne (by omega)]; exact G5.get g2
          · rw [List.getElem?_set_self l5]
            rw [List.map_append, List.map_cons, List.map_nil]
            congr 3
            unfold trD
            rw [if_neg (by omega), ← hz, Tr.d_node, List.map_map]
      · rintro ρ h2 ⟨⟨x6, x7, rfl⟩, G2, us, er, e1, e2, e3⟩
        rw [et] at er
        cases er
        exact ⟨⟨_, _, rfl⟩, G2, e1, e2, e3⟩
    rintro _ h2 ⟨⟨x6, x7, rfl⟩, G2, e1, e2, e3⟩
    have G := G1.trans G2
    have lts := rowsT_len et
    obtain ⟨ts', t, rfl⟩ : ∃ ts' t, ts = ts' ++ [t] := by
      rcases List.eq_nil_or_concat ts with rfl | ⟨a, b, e⟩
      · simp at lts; omega
      · exact ⟨a, b, by rw [e, List.concat_eq_append]⟩
    have gl : (ts' ++ [t]).getLast? = some t := by simp
    simp [e1, e2, e3, uNeg, atI_last, szD, lvD]
    refine Br.go (fun hs => ?_) (fun hs => ?_)
    · simp
      exact ⟨G, .inr ⟨rfl, ts' ++ [t], t, rfl, gl, .inl ⟨by omega, rfl⟩⟩⟩
    · simp [e1, e2, e3, uNeg, atI_last, szD, lvD]
      refine Br.go (fun hd => ?_) (fun hd => ?_)
      · simp
        exact ⟨G, .inr ⟨rfl, ts' ++ [t], t, rfl, gl, .inr ⟨by omega, by omega, rfl⟩⟩⟩
      · simp [e1, e2, e3, uNeg, atI_last]
        refine ⟨ts' ++ [t], t, rfl, gl, by omega, by omega, ?_, G⟩
        unfold trD
        rw [if_neg (by omega)]
theorem kids_ok {ops : List Op} {us : List Tk} (hu : ∀ u ∈ us, u.1.ok ops u.2) {ks : List Str} {xs : List D} {vs : List Tr} (h : kidsOf us ks xs = some vs) : Tr.oks ops vs ks := by
  obtain ⟨ps, rfl, rfl, hp, hks⟩ := kids_pairs h
  refine Tr.oks_of (by rw [← hks]; simp) fun i k t h1 h2 => ?_
  rw [← hks, List.getElem?_map, Option.map_eq_some_iff] at h1
  rw [List.getElem?_map, Option.map_eq_some_iff] at h2
  obtain ⟨p, e1, rfl⟩ := h1
  obtain ⟨p', e2, rfl⟩ := h2
  rw [e1] at e2
  cases e2
  exact hu _ (List.mem_of_getElem? (hp p (List.mem_of_getElem? e1)))
theorem rows_ok_go {ops : List Op} : ∀ (ds : List D) (us ts : List Tk), (∀ u ∈ us, u.1.ok ops u.2) → rowsT ops us ds = .inl ts → ∀ u ∈ ts, u.1.ok ops u.2
  | [], us, ts, hu, e => by rw [rowsT] at e; cases e; exact hu
  | d :: ds, us, ts, hu, e => by
    rw [rowsT] at e
    split at e
    · rename_i z hz
      refine rows_ok_go ds _ ts (fun u hm => ?_) e
      rcases List.mem_append.mp hm with w | w
      · exact hu u w
      · rw [List.mem_singleton.mp w]
        obtain ⟨nm, xs, o, vs, _, hf, hk, rfl⟩ := step_shape hz
        have hn : o.nm = nm := by simpa using List.find?_some hf
        show (Tr.node nm vs).ok ops o.kd
        rw [Tr.ok]
        exact ⟨o, List.mem_of_find?_eq_some hf, hn, rfl, kids_ok hu hk⟩
    · cases e
theorem rows_ok {ops : List Op} {ds : List D} {ts : List Tk} (e : rowsT ops [] ds = .inl ts) {u : Tk} (hu : u ∈ ts) : u.1.ok ops u.2 := rows_ok_go ds [] ts (fun u h => nomatch h) e u hu
end Mi
end
section
set_option maxHeartbeats 1000000
namespace Mi
open PySem L2
def StS (F : FX) : Prop := ∀ (h : Hh) (L : List Nat) (n : Nat) (as : List D), as = [.int n] → Ok (F as L h) fun v h' => ∃ (q : Nat) (ss : List Nat), v = .ref q ∧ h.length ≤ q ∧ h'[q]? = some (.lst (ss.map fun (i : Nat) => D.int i)) ∧ (∀ s ∈ ss, s = 1 ∨ s = 2) ∧ ss.length ≤ 40 ∧ Gr h h'
theorem q_steps_to_ok : StS (bodyX 4 q_steps_to) := by
  intro h L n as ea
  subst ea
  unfold Ok q_steps_to
  rw [Ev_bodyX]
  refine Sv_cut (fun ρ h' => ρ = [some (.int n), some (.ref h.length), none, none] ∧ h' = h ++ [.lst []]) ?_ ?_
  · simp
    exact ⟨rfl, rfl⟩
  rintro _ _ ⟨rfl, rfl⟩
  refine Sv_cut (fun ρ h' => ∃ x2, ∃ (m : Nat) (ss : List Nat), ρ = [some (.int m), some (.ref h.length), x2, none] ∧ Gr h h' ∧ h'[h.length]? = some (.lst (ss.map fun (i : Nat) => D.int i)) ∧ (∀ s ∈ ss, s = 1 ∨ s = 2) ∧ ss.length ≤ 40) ?_ ?_
  · simp
    rw [show (40 : Int) = ((40 : Nat) : Int) by rfl, rng_n (by omega)]
    simp
    refine lpV (as := List.range 40) (f := fun (i : Nat) => D.int i) (fun pre ρ h' => ∃ x2, ∃ (m : Nat) (ss : List Nat), ρ = [some (.int m), some (.ref h.length), x2, none] ∧ Gr h h' ∧ h'[h.length]? = some (.lst (ss.map fun (i : Nat) => D.int i)) ∧ (∀ s ∈ ss, s = 1 ∨ s = 2) ∧ ss.length ≤ pre.length) (by simp) ⟨_, n, [], rfl, Gr.app, by simp, fun s hs => (nomatch hs), Nat.le_refl _⟩ ?_ ?_
    · rintro pre i post ρ h' ea ⟨x2, m, ss, rfl, G, e, hs, ls⟩
      have lp : pre.length < 40 := by have := congrArg List.length ea; simp at this; omega
      have lt := lt_of e
      have le : ss.length < 16777216 := by omega
      have app : ∀ t, (t = 1 ∨ t = 2) → ∀ s ∈ ss ++ [t], s = 1 ∨ s = 2 := fun t ht s h => by
        rcases List.mem_append.mp h with z | z
        · exact hs s z
        · rw [List.mem_singleton.mp z]; exact ht
      simp [bMod_x _ (j := 2) (by decide), bDiv_x _ (j := 2) (by decide) (by decide)]
      refine Br.go (fun g1 => ?_) (fun g1 => ?_)
      · simp [bMod_x _ (j := 2) (by decide)]
        refine Br.go (fun g2 => ?_) (fun g2 => ?_)
        · simp [e, bDiv_x _ (j := 2) (by decide) (by decide)]
          refine Br.yes le ?_
          simp [bDiv_x _ (j := 2) (by decide) (by decide)]
          exact ⟨_, m / 2, ss ++ [2], rfl, G.put (Nat.le_refl _), by rw [List.getElem?_set_self lt]; simp, app 2 (.inr rfl), by simp; omega⟩
        · simp
          refine Br.yes (by omega) ?_
          simp [e]
          refine Br.yes le ?_
          exact ⟨_, m - 1, ss ++ [1], by rw [show ((m : Int) - 1) = ((m - 1 : Nat) : Int) by omega]; rfl, G.put (Nat.le_refl _), by rw [List.getElem?_set_self lt]; simp, app 1 (.inl rfl), by simp; omega⟩
      · simp
        refine Br.no (by omega) ?_
        exact ⟨_, m, ss, rfl, G, e, hs, by simp; omega⟩
    · rintro ρ h' ⟨x2, m, ss, rfl, G, e, hs, ls⟩
      exact ⟨_, m, ss, rfl, G, e, hs, by simpa using ls⟩
  rintro _ h1 ⟨x2, m, ss, rfl, G, e, hs, ls⟩
  have lt := lt_of e
  simp [e]
  rw [rng_n (by omega)]
  simp
  refine cpV h1 Gr (rl_gr _) (fun (_ : Nat) y => ∃ t : Nat, y = .int t ∧ (t = 1 ∨ t = 2)) (fun _ => False) (as := List.range ss.length) (fun (i : Nat) => D.int i) rfl (by simp; omega) ?_ ?_
  · intro i hi h2 G2
    have hi := List.mem_range.mp hi
    obtain ⟨t, et⟩ : ∃ t, ss[ss.length - 1 - i]? = some t := ⟨_, List.getElem?_eq_getElem (by omega)⟩
    have ei : (ss.length : Int) - 1 - (i : Int) = ((ss.length - 1 - i : Nat) : Int) := by omega
    have eg : (ss.map fun (i : Nat) => D.int i)[ss.length - 1 - i]? = some (.int t) := by rw [List.getElem?_map, et]; rfl
    unfold Item
    simp [G2.get e]
    rw [ei, atI_n, eg]
    simp
    exact ⟨Gr.refl, t, rfl, hs t (List.mem_of_getElem? et)⟩
  · intro ys h2 G2 e2 C
    obtain ⟨ts, rfl, lt2, ht⟩ := C.rel (q := fun (i : Nat) => D.int i) (G := fun _ t => t = 1 ∨ t = 2) fun a y ⟨t, z, w⟩ => ⟨t, z, w⟩
    rw [List.length_range] at lt2
    refine ⟨h1.length, ts, rfl, G.len, e2, fun t hm => ?_, by omega, G.trans G2⟩
    obtain ⟨i, li, rfl⟩ := List.mem_iff_getElem.mp hm
    exact ht i i _ (by rw [List.getElem?_range (by omega)]) (List.getElem?_eq_getElem li)
theorem calm_tupS {h : Hh} {xs : List D} (c : ∀ x ∈ xs, calmD h x) : calmD h (.tup xs) :=
  ⟨by simp only [D.tame]; exact tames_mem.mpr fun x hx => (c x hx).1, by simp only [D.sml]; exact smls_mem.mpr fun x hx => (c x hx).2⟩
/-- the rows of one tree, grown step by step -/
def rowN (b c : Str) (top s : Nat) : D :=
  if s = 1 then .tup [.str b, .int top] else if s = 2 then .tup [.str c, .int top, .int top] else if s = 3 then .tup [.str c, .int 0, .int top] else .tup [.str c, .int top, .int 0]
def treeN (b c : Str) (l t : Tr) (s : Nat) : Tr :=
  if s = 1 then .node b [t] else if s = 2 then .node c [t, t] else if s = 3 then .node c [l, t] else .node c [t, l]
theorem treeN_facts {a b c : Str} {t : Tr} {s : Nat} : (treeN b c (.node a []) t s).dep = t.dep + 1 ∧ (treeN b c (.node a []) t s).size = (if s = 1 then t.size + 1 else if s = 2 then 2 * t.size + 1 else t.size + 2) := by
  have h1 : 1 ≤ t.dep := by cases t with | node nm ts => rw [Tr.dep]; omega
  unfold treeN
  by_cases s1 : s = 1
  · simp [s1, Tr.dep, Tr.deps, Tr.size, Tr.sizes]
  · by_cases s2 : s = 2
    · simp [s2, Tr.dep, Tr.deps, Tr.size, Tr.sizes]; omega
    · by_cases s3 : s = 3
      · simp [s3, Tr.dep, Tr.deps, Tr.size, Tr.sizes]; omega
      · simp [s1, s2, s3, Tr.dep, Tr.deps, Tr.size, Tr.sizes]; omega
theorem step_rowN {ops : List Op} {a b c kd : Str} {ts : List Tk} {t : Tr} {top s : Nat} (f1 : (ops.find? fun o => decide (o.nm = b)) = some ⟨b, kd, [kd]⟩) (f2 : (ops.find? fun o => decide (o.nm = c)) = some ⟨c, kd, [kd, kd]⟩) (h0 : ts[0]? = some (.node a [], kd)) (ht : ts[top]? = some (t, kd)) : stepRow ops ts (rowN b c top s) = some (treeN b c (.node a []) t s, kd) := by
  unfold rowN treeN
  by_cases s1 : s = 1
  · simp [s1, stepRow, f1, kidsOf, ht]
  · by_cases s2 : s = 2
    · simp [s2, stepRow, f2, kidsOf, ht]
    · by_cases s3 : s = 3
      · simp [s3, stepRow, f2, kidsOf, ht, h0]
      · simp [s1, s2, s3, stepRow, f2, kidsOf, ht, h0]
end Mi
end
section
namespace Gx_k53
open Mi PySem PySem.Spec PyProof.Rows L2
def b0 (r : Nat → FX) : SX := p__wall
def b1 (r : Nat → FX) : SX := p_is_integer
def b2 (r : Nat → FX) : SX := p_is_name
def b3 (r : Nat → FX) : SX := p_is_row
def b4 (r : Nat → FX) : SX := p_checked_entry (r 3) (r 2)
def b5 (r : Nat → FX) : SX := p_checked_operators (r 2) (r 4) (r 6) (r 7)
def b6 (r : Nat → FX) : SX := p_kinds_in
def b7 (r : Nat → FX) : SX := p_least_trees
def b8 (r : Nat → FX) : SX := p_wrong_path (r 8)
def b9 (r : Nat → FX) : SX := p_fits_row (r 1)
def b10 (r : Nat → FX) : SX := p_first_wrong (r 3) [3] (r 9)
def b11 (r : Nat → FX) : SX := p_is_folded (r 10)
def b12 (r : Nat → FX) : SX := p_unfolded (r 10) 1 2
def b13 (r : Nat → FX) : SX := q_bag
def b14 (r : Nat → FX) : SX := q_mixed
def b15 (r : Nat → FX) : SX := q_draw (r 14)
def b16 (r : Nat → FX) : SX := q_name (r 15)
def b17 (r : Nat → FX) : SX := q_steps_to
def b18 (r : Nat → FX) : SX := q_law_k53 (r 13) (r 16) 3 (r 30) (r 15) (r 17) (r 11) 3 (r 12) (fun c => Nat.beq c 2) 2 (fun _ => true)
def b19 (r : Nat → FX) : SX := p_Source___init__ (r 5) 0 (r 6) [3]
def b20 (r : Nat → FX) : SX := p_Source_kinds [3]
def b21 (r : Nat → FX) : SX := p_Source_operators [3]
def b22 (r : Nat → FX) : SX := p_Source___eq___v3 [3] (fun c => Nat.beq c 3)
def b23 (r : Nat → FX) : SX := p_Source___contains__ (r 8) [3]
def b24 (r : Nat → FX) : SX := p_Source_check_v2 (r 0)
def b25 (r : Nat → FX) : SX := p_Source_kind_of_v2 (r 0)
def b26 (r : Nat → FX) : SX := p_Source_size_of_v2 (r 0)
def b27 (r : Nat → FX) : SX := p_Source_levels_of_v2 (r 0)
def b28 (r : Nat → FX) : SX := p_Source_least_tree_v2 (r 0)
def b29 (r : Nat → FX) : SX := p_Source_all_trees_v2 (r 0)
def tbl (r : Nat → FX) : Nat → FX
  | 0 => bodyX 1 (b0 r)
  | 1 => bodyX 1 (b1 r)
  | 2 => bodyX 2 (b2 r)
  | 3 => bodyX 1 (b3 r)
  | 4 => bodyX 4 (b4 r)
  | 5 => bodyX 6 (b5 r)
  | 6 => bodyX 6 (b6 r)
  | 7 => bodyX 10 (b7 r)
  | 8 => bodyX 9 (b8 r)
  | 9 => bodyX 7 (b9 r)
  | 10 => bodyX 6 (b10 r)
  | 11 => bodyX 2 (b11 r)
  | 12 => bodyX 8 (b12 r)
  | 13 => bodyX 3 (b13 r)
  | 14 => bodyX 5 (b14 r)
  | 15 => bodyX 4 (b15 r)
  | 16 => bodyX 7 (b16 r)
  | 17 => bodyX 4 (b17 r)
  | 18 => bodyX 19 (b18 r)
  | 19 => bodyX 5 (b19 r)
  | 20 => bodyX 1 (b20 r)
  | 21 => bodyX 2 (b21 r)
  | 22 => bodyX 2 (b22 r)
  | 23 => bodyX 2 (b23 r)
  | 24 => bodyX 2 (b24 r)
  | 25 => bodyX 2 (b25 r)
  | 26 => bodyX 2 (b26 r)
  | 27 => bodyX 2 (b27 r)
  | 28 => bodyX 2 (b28 r)
  | 29 => bodyX 3 (b29 r)
  | 30 => r 19
  | _ => badX
end Gx_k53
end
section
set_option maxHeartbeats 1000000
namespace Gx_k53
open Mi PySem L2
theorem at_ {P : Nat → Prop} {a : Nat} (h : ∀ k, P (k + a)) {k : Nat} (l : a ≤ k) : P k := by
  obtain ⟨d, rfl⟩ : ∃ d, k = d + a := ⟨k - a, by omega⟩
  exact h d
theorem Dm (k : Nat) : ∀ a t L h, ∃ v, 0 ≤ v ∧ callF tbl (k + 1) 14 [.int a, .int t] L h = .ok (.int v) h := mix_ok
theorem hDr {k : Nat} (l : 2 ≤ k) : Dr (callF tbl k 15) := at_ (a := 2) (P := fun k => Dr (callF tbl k 15)) (fun k => dr_ok (Dm k)) l
theorem hNm {k : Nat} (l : 3 ≤ k) : Nm (callF tbl k 16) := at_ (a := 3) (P := fun k => Nm (callF tbl k 16)) (fun k => nm_ok (Dm k)) l
theorem rBag {k : Nat} : callF tbl (k + 1) 13 = bodyX 3 bagB := rfl
theorem rSrc {k : Nat} {n : Nat} {r : Str} {ops : List Op} {L : List Nat} {h : Hh} (e : h[n]? = some (dicOf ops)) (l : Lang ops) (hr : r ∈ kindsIn ops) (hL : ∀ n ∈ L, n < h.length) (hn : n ∉ L) (l4 : 4 ≤ h.length) :
    Ok (callF tbl (k + 5) 30 [.ref h.length, .ref n, .str r] L (h ++ [.ins 3 []])) (fun v h' => Gr h h' ∧ v = .non ∧ ∃ held, Held ops held ∧ IsSrc 3 h' h.length held r) :=
  make_source (f0 := callF tbl (k + 3) 5) (f1 := callF tbl (k + 3) 6) (c0 := 0) (c := 3) (l0 := [3]) rfl rfl (by simp) e l hr hL hn l4
theorem hFr {k : Nat} : FitR (callF tbl (k + 2) 9) := fits_row_ok (f0 := callF tbl (k + 1) 1) rfl
theorem hFw {k : Nat} : FwS (callF tbl (k + 3) 10) 3 := first_wrong_ok (f0 := callF tbl (k + 2) 3) (f1 := callF tbl (k + 2) 9) (l0 := [3]) rfl hFr (by simp)
theorem hIf {k : Nat} : IfS (callF tbl (k + 4) 11) 3 := is_folded_ok (f0 := callF tbl (k + 3) 10) hFw
theorem hUn {k : Nat} : UnfS (callF tbl (k + 4) 12) 3 1 2 := unfolded_ok (f0 := callF tbl (k + 3) 10) hFw
end Gx_k53
namespace Gx_k53
open Mi PySem L2
theorem trio_drawn {a b c kd : Str} (ha : IsName a) (hb : IsName b) (hc : IsName c) (hk : IsName kd) (dd : a ≠ b ∧ a ≠ c ∧ b ≠ c) : Drawn [⟨a, kd, []⟩, ⟨b, kd, [kd]⟩, ⟨c, kd, [kd, kd]⟩] := by
  refine ⟨by simp [dd.1, dd.2.1, dd.2.2], ?_, ?_, ?_, ?_, ⟨[kd], by simp, ?_⟩, by simp, by simp⟩
  · intro o ho
    simp only [List.mem_cons, List.mem_nil_iff, or_false] at ho
    rcases ho with rfl | rfl | rfl <;> assumption
  · intro o ho k hkk
    simp only [List.mem_cons, List.mem_nil_iff, or_false] at ho
    rcases ho with rfl | rfl | rfl <;> simp [Op.kds] at hkk <;> rw [hkk] <;> exact hk
  · intro o ho
    simp only [List.mem_cons, List.mem_nil_iff, or_false] at ho
    rcases ho with rfl | rfl | rfl <;> simp
  · intro o ho k hkk
    simp only [List.mem_cons, List.mem_nil_iff, or_false] at ho
    refine ⟨⟨a, kd, []⟩, by simp, ?_, rfl⟩
    rcases ho with rfl | rfl | rfl <;> simp [Op.kds] at hkk <;> exact hkk.symm
  · intro o ho k hkk
    simp only [List.mem_cons, List.mem_nil_iff, or_false] at ho
    rcases ho with rfl | rfl | rfl <;> simp [Op.kds] at hkk <;> simp [hkk]
theorem hSt {k : Nat} : StS (callF tbl (k + 1) 17) := q_steps_to_ok
theorem plain : ∀ ns : List Int, ns.length ≤ 63 → ∃ h', callF tbl 31 18 [.frl (ns.map .int)] [] [] = .ok (.bl true) h' := by
  intro ns _
  obtain ⟨h1, eb, B1, l1⟩ := bag_ok ns []
  have hb : callF tbl 30 13 = bodyX 3 bagB := rBag
  have hd : Dr (callF tbl 30 15) := hDr (by decide)
  have hn : Nm (callF tbl 30 16) := hNm (by decide)
  have hst : StS (callF tbl 30 17) := hSt (k := 29)
  have hsrc := @rSrc 25
  have hif : IfS (callF tbl 30 11) 3 := hIf (k := 26)
  have hun : UnfS (callF tbl 30 12) 3 1 2 := hUn (k := 26)
  suffices H : Ok (callF tbl 31 18 [.frl (ns.map .int)] [] []) fun v _ => v = .bl true by
    obtain ⟨v, h', e, rfl⟩ := H.ex
    exact ⟨h', e⟩
  show Ok (bodyX 19 (q_law_k53 (callF tbl 30 13) (callF tbl 30 16) 3 (callF tbl 30 30) (callF tbl 30 15) (callF tbl 30 17) (callF tbl 30 11) 3 (callF tbl 30 12) (fun c => Nat.beq c 2) 2 (fun _ => true)) [.frl (ns.map .int)] [] []) _
  generalize callF tbl 30 = r at *
  unfold Ok q_law_k53
  rw [Ev_bodyX]

  refine Sv_cut (fun ρ h' => ρ = [some (.frl (ns.map .int)), some (.ref 3), none, none, none, none, none, none, none, none, none, none, none, none, none, none, none, none, none] ∧ h1 = h') ?_ ?_
  · simp
    rw [hb]
    refine use (Ok.of (P := fun v h => v = .ref 3 ∧ h1 = h) eb ⟨rfl, rfl⟩) ?_
    rintro _ _ ⟨rfl, rfl⟩
    simp
    exact ⟨rfl, rfl⟩
  rintro _ _ ⟨rfl, rfl⟩

  refine Sv_cut (fun ρ h' => ρ = [some (.frl (ns.map .int)), some (.ref 3), some (.ref h1.length), none, none, none, none, none, none, none, none, none, none, none, none, none, none, none, none] ∧ h' = h1 ++ [.lst []]) ?_ ?_
  · simp
    exact ⟨rfl, rfl⟩
  rintro _ _ ⟨rfl, rfl⟩
  obtain ⟨n2, hn2⟩ : ∃ n2, n2 = h1.length := ⟨_, rfl⟩
  rw [← hn2]
  have l2 : 4 ≤ n2 := by omega

  refine Sv_cut (fun ρ h' => ∃ x3, ∃ ss : List Str, ρ = [some (.frl (ns.map .int)), some (.ref 3), some (.ref n2), x3, none, none, none, none, none, none, none, none, none, none, none, none, none, none, none] ∧ Bag h' 3 2 ∧ h'[n2]? = some (.lst (ss.map .str)) ∧ (∀ s ∈ ss, IsName s) ∧ ss.Nodup ∧ ss.length = 3) ?_ ?_
  · simp
    refine lpV (as := [0, 1, 2]) (f := D.int) (fun pre ρ h' => ∃ x3, ∃ ss : List Str, ρ = [some (.frl (ns.map .int)), some (.ref 3), some (.ref n2), x3, none, none, none, none, none, none, none, none, none, none, none, none, none, none, none] ∧ Bag h' 3 2 ∧ h'[n2]? = some (.lst (ss.map .str)) ∧ (∀ s ∈ ss, IsName s) ∧ ss.Nodup ∧ ss.length = pre.length) rfl ⟨none, [], rfl, Bx.app.bag B1, by rw [hn2]; simp, fun p z => (nomatch z), List.nodup_nil, rfl⟩ ?_ ?_
    · rintro pre a post ρ h7 ea ⟨x3, ss, rfl, B7, e7, n7, d7, l7⟩
      have lpre : pre.length ≤ 3 := by have := congrArg List.length ea; simp at this; omega
      simp [e7]
      refine use (hn h7 [] n2 ss B7 (by simp) (by omega) e7) ?_
      rintro _ h8 ⟨s, rfl, hs, nf, X8⟩
      have e8 := X8.lst (by omega) e7
      simp [e8]
      refine Br.yes (by omega) ?_
      refine ⟨_, ss ++ [s], rfl, (X8.bag B7).put (by omega) (by omega), by rw [List.getElem?_set_self (lt_of e8)]; simp, fun p hp => ?_, ?_, by simp [l7]⟩
      · rcases List.mem_append.mp hp with z | z
        · exact n7 p z
        · rw [List.mem_singleton.mp z]; exact hs
      · exact List.nodup_append.mpr ⟨d7, by simp, fun x hx y hy z => by
          rw [List.mem_singleton.mp hy] at z
          exact nf (by omega) (z ▸ hx)⟩
    · rintro ρ h7 ⟨x3, ss, rfl, B7, e7, n7, d7, l7⟩
      exact ⟨_, ss, rfl, B7, e7, n7, d7, l7⟩
  rintro _ h3 ⟨x3, ss, rfl, B3, e3, n7, d7, l7⟩
  obtain ⟨a, b, c, rfl⟩ : ∃ a b c, ss = [a, b, c] := by
    rcases ss with _ | ⟨a, _ | ⟨b, _ | ⟨c, _ | ⟨d, r⟩⟩⟩⟩ <;> simp at l7
    exact ⟨a, b, c, rfl⟩
  have dd : a ≠ b ∧ a ≠ c ∧ b ≠ c := by
    simp at d7
    exact ⟨d7.1.1, d7.1.2, d7.2⟩
  have na := n7 a (by simp)
  have nb := n7 b (by simp)
  have nc := n7 c (by simp)
  have l3 := lt_of e3
  refine Sv_cut (fun ρ h' => ∃ kd, IsName kd ∧ ρ = [some (.frl (ns.map .int)), some (.ref 3), some (.ref n2), x3, some (.str kd), none, none, none, none, none, none, none, none, none, none, none, none, none, none] ∧ Bx h3 h') ?_ ?_
  · simp
    refine use (hn _ [] h3.length [] (Bx.app.bag B3) (by simp) (by omega) (get_new _ _)) ?_
    rintro _ h4 ⟨kd, rfl, hk, _, X4⟩
    simp
    exact ⟨kd, hk, rfl, Bx.app.trans X4⟩
  rintro _ h4 ⟨kd, hkd, rfl, X4⟩

  have e4 := X4.lst (by omega) e3
  have B4 := X4.bag B3
  have l4 := X4.len
  have Dn := trio_drawn na nb nc hkd dd
  generalize hops : ([⟨a, kd, []⟩, ⟨b, kd, [kd]⟩, ⟨c, kd, [kd, kd]⟩] : List Op) = ops at *
  refine Sv_cut (fun ρ h' => ρ = [some (.frl (ns.map .int)), some (.ref 3), some (.ref n2), x3, some (.str kd), some (.ref h4.length), none, none, none, none, none, none, none, none, none, none, none, none, none] ∧ Gr h4 h' ∧ h'[h4.length]? = some (dicOf ops)) ?_ ?_
  · have gm : ∀ o os, (h4 ++ o :: os)[n2]? = some (.lst [.str a, .str b, .str c]) := fun o os => (Gr.app (h := h4)).get e4
    simp [gm, kvsD, keyD, mergeD, putD, dd.1, dd.2.1, dd.2.2, dd.1.symm, dd.2.1.symm, dd.2.2.symm]
    refine ⟨rfl, ?_, ?_⟩
    · first | exact Gr.app | exact Gr.app.put (Nat.le_refl _)
    · rw [← hops]
      simp [dicOf, Op.kv, Op.v]
  rintro _ h5 ⟨rfl, G5, e5⟩

  have l5 := lt_of e5
  have kin : kd ∈ kindsIn ops := by
    rw [← hops]
    exact mem_kindsIn.mpr ⟨⟨a, kd, []⟩, by simp, by simp [Op.kds]⟩
  refine Sv_cut (fun ρ h' => ∃ s held, ρ = [some (.frl (ns.map .int)), some (.ref 3), some (.ref n2), x3, some (.str kd), some (.ref h4.length), some (.ref s), none, none, none, none, none, none, none, none, none, none, none, none] ∧ Gr h5 h' ∧ Held ops held ∧ IsSrc 3 h' s held kd) ?_ ?_
  · simp
    refine use (hsrc e5 Dn.lang kin (fun n hn => nomatch hn) (by simp) (by omega)) ?_
    rintro _ h6 ⟨G6, rfl, held, Hd, S⟩
    simp
    exact ⟨_, held, rfl, G6, Hd, S⟩
  rintro _ h6 ⟨s, held, rfl, G6, Hd, S⟩

  have G46 := G5.trans G6
  have e6 := G46.get e4
  have B6 := G46.bx.bag B4
  have l6 := G46.len
  have sn := S.sane.sane
  have o0 : (⟨a, kd, []⟩ : Op) ∈ held := (Hd.mem _).mpr (by rw [← hops]; simp)
  have o1 : (⟨b, kd, [kd]⟩ : Op) ∈ held := (Hd.mem _).mpr (by rw [← hops]; simp)
  have o2 : (⟨c, kd, [kd, kd]⟩ : Op) ∈ held := (Hd.mem _).mpr (by rw [← hops]; simp)
  have f0 := find_op sn.nd o0
  have f1 := find_op sn.nd o1
  have f2 := find_op sn.nd o2
  simp only at f0 f1 f2
  -- the steps
  refine Sv_cut (fun ρ h' => ∃ x3 x16 q, ∃ ss : List Nat, ρ = [some (.frl (ns.map .int)), some (.ref 3), some (.ref n2), x3, some (.str kd), some (.ref h4.length), some (.ref s), none, none, none, none, none, none, none, none, some (.ref q), x16, none, none] ∧ Bx h6 h' ∧ h6.length ≤ q ∧ h'[q]? = some (.lst (ss.map fun (i : Nat) => D.int i)) ∧ (∀ s ∈ ss, 1 ≤ s ∧ s ≤ 4) ∧ ss.length ≤ 300) ?_ ?_
  · simp
    refine use (hd h6 [] 3 3 rfl (by decide) (by decide) B6 (by simp)) ?_
    rintro _ h7 ⟨w, ew, hw, X7⟩
    subst ew
    have B7 := X7.bag B6
    have l7 := X7.len
    simp
    refine Br.go (fun g => ?_) (fun g => ?_)
    · simp
      refine use (hd h7 [] 20 20 rfl (by decide) (by decide) B7 (by simp)) ?_
      rintro _ h8 ⟨w2, ew2, hw2, X8⟩
      subst ew2
      have l8 := X8.len
      simp
      refine use (hst h8 [] (9990 + w2) _ (by simp)) ?_
      rintro _ h9 ⟨q, ss, rfl, lq, eq, hs, ls, G9⟩
      simp
      exact ⟨_, _, q, ss, rfl, (X7.trans X8).trans G9.bx, by omega, eq, fun t ht => by rcases hs t ht with rfl | rfl <;> omega, by omega⟩
    · refine Sv_cut (fun ρ h' => ∃ m : Nat, ρ = [some (.frl (ns.map .int)), some (.ref 3), some (.ref n2), x3, some (.str kd), some (.ref h4.length), some (.ref s), none, none, none, none, none, none, none, none, some (.ref m), none, none, none] ∧ Bx h6 h' ∧ h6.length ≤ m ∧ ∃ k : Nat, k ≤ 15 ∧ h'[m]? = some (.lst ((List.replicate k 2).map fun (i : Nat) => D.int i))) ?_ ?_
      · simp
        refine use (hd (h7 ++ [.lst [.int 2]]) [] 16 16 rfl (by decide) (by decide) (Bx.app.bag B7) (by simp)) ?_
        rintro _ h8 ⟨w2, ew2, hw2, X8⟩
        subst ew2
        have l8 := X8.len
        simp at l8
        have e8 := X8.lst (by omega) (get_new h7 _)
        have c1 : (w2 : Int) < 2147483648 := by omega
        simp [e8]
        refine Br.yes ⟨by omega, by omega⟩ ?_
        refine ⟨_, rfl, (X7.trans (Bx.app.trans X8)).trans Bx.app, by omega, w2, by omega, ?_⟩
        simp [List.flatten_replicate_singleton]
      rintro _ h8 ⟨m, rfl, X8, lm, k, lk, e8⟩
      have B8 := X8.bag B6
      have l8 := X8.len
      refine Sv_cut (fun ρ h' => ∃ w : Nat, w < 3 ∧ ρ = [some (.frl (ns.map .int)), some (.ref 3), some (.ref n2), x3, some (.str kd), some (.ref h4.length), some (.ref s), none, none, none, none, none, none, none, none, some (.ref m), some (.int w), none, none] ∧ Bx h8 h') ?_ ?_
      · simp
        refine use (hd h8 [] 3 3 rfl (by decide) (by decide) B8 (by simp)) ?_
        rintro _ h9 ⟨w2, ew2, hw2, X9⟩
        subst ew2
        simp
        exact ⟨w2, hw2, rfl, X9⟩
      rintro _ h9 ⟨w2, hw2, rfl, X9⟩
      have B9 := X9.bag B8
      have X69 := X8.trans X9
      have l9 := X9.len
      have e9 := X9.lst (by omega) e8
      simp
      have ix1 : ∃ u : Nat, u ≤ 185 ∧ atI [D.int 0, D.int 0, D.int 185] (w2 : Int) = some (.int u) := by
        have : w2 = 0 ∨ w2 = 1 ∨ w2 = 2 := by omega
        rcases this with rfl | rfl | rfl
        · exact ⟨0, by omega, rfl⟩
        · exact ⟨0, by omega, rfl⟩
        · exact ⟨185, by omega, rfl⟩
      have ix2 : ∃ u : Nat, 0 < u ∧ u ≤ 30 ∧ atI [D.int 4, D.int 30, D.int 30] (w2 : Int) = some (.int u) := by
        have : w2 = 0 ∨ w2 = 1 ∨ w2 = 2 := by omega
        rcases this with rfl | rfl | rfl
        · exact ⟨4, by omega, by omega, rfl⟩
        · exact ⟨30, by omega, by omega, rfl⟩
        · exact ⟨30, by omega, by omega, rfl⟩
      obtain ⟨u1, hu1, ei1⟩ := ix1
      obtain ⟨u2, hu2, hu3, ei2⟩ := ix2
      simp [ei1, ei2]
      refine use (hd _ [] u2 u2 rfl (by omega) (by omega) ((Bx.app (h := h9)).bag B9) (by simp)) ?_
      rintro _ h10 ⟨w3, ew3, hw3, X10⟩
      subst ew3
      have X910 := (Bx.app (h := h9)).trans X10
      have l10 := X10.len
      simp at l10
      simp
      rw [show (u1 : Int) + (w3 : Int) = ((u1 + w3 : Nat) : Int) by omega, rng_n (by omega)]
      simp
      refine lpV (as := List.range (u1 + w3)) (f := fun (i : Nat) => D.int i) (fun pre ρ h' => ∃ x3, ∃ ss : List Nat, ρ = [some (.frl (ns.map .int)), some (.ref 3), some (.ref n2), x3, some (.str kd), some (.ref h4.length), some (.ref s), none, none, none, none, none, none, none, none, some (.ref m), some (.int w2), none, none] ∧ Bx h6 h' ∧ h'[m]? = some (.lst (ss.map fun (i : Nat) => D.int i)) ∧ (∀ s ∈ ss, 1 ≤ s ∧ s ≤ 4) ∧ ss.length ≤ k + pre.length) (by simp) ⟨_, List.replicate k 2, rfl, X69.trans X910, X910.lst (by omega) e9, fun t ht => by rw [(List.mem_replicate.mp ht).2]; omega, by simp⟩ ?_ ?_
      · rintro pre i post ρ h11 ea ⟨x3', ss, rfl, X11, e11, hs, ls⟩
        have hi : pre.length < u1 + w3 := by have := congrArg List.length ea; simp at this; omega
        have l11 := X11.len
        have le : ss.length < 16777216 := by omega
        simp [e11]
        refine use (hd _ [] 4 4 rfl (by decide) (by decide) ((X11.trans Bx.app).bag B6) (by simp)) ?_
        rintro _ h12 ⟨w4, ew4, hw4, X12⟩
        subst ew4
        have X1112 := (Bx.app (h := h11)).trans X12
        have e12 := X1112.lst (by omega) e11
        have el := X12.lst (by omega) (get_new h11 _)
        obtain ⟨u, hu, eu⟩ : ∃ u : Nat, (1 ≤ u ∧ u ≤ 4) ∧ atI [D.int 1, D.int 3, D.int 1, D.int 4] (w4 : Int) = some (.int u) := by
          have : w4 = 0 ∨ w4 = 1 ∨ w4 = 2 ∨ w4 = 3 := by omega
          rcases this with rfl | rfl | rfl | rfl
          · exact ⟨1, by omega, rfl⟩
          · exact ⟨3, by omega, rfl⟩
          · exact ⟨1, by omega, rfl⟩
          · exact ⟨4, by omega, rfl⟩
        simp [el, eu, e12]
        refine Br.yes le ?_
        refine ⟨_, ss ++ [u], rfl, (X11.trans X1112).put (by omega) (by omega), ?_, fun t ht => ?_, by simp; omega⟩
        · rw [List.getElem?_set_self (lt_of e12)]; simp
        · rcases List.mem_append.mp ht with z | z
          · exact hs t z
          · rw [List.mem_singleton.mp z]; exact hu
      · rintro ρ h11 ⟨x3', ss, rfl, X11, e11, hs, ls⟩
        rw [List.length_range] at ls
        exact ⟨_, _, m, ss, rfl, X11, lm, e11, hs, by omega⟩
  rintro _ h7 ⟨x3, x16, q, ss, rfl, X7, lq, e7, hs, lss⟩
  have B7 := X7.bag B6
  have l7 := X7.len
  have e27 := X7.lst (by omega) e6

  obtain ⟨x16', hx16⟩ : ∃ y, y = x16 := ⟨_, rfl⟩
  refine Sv_cut (fun ρ h' => ρ = [some (.frl (ns.map .int)), some (.ref 3), some (.ref n2), x3, some (.str kd), some (.ref h4.length), some (.ref s), some (.ref h7.length), none, none, none, none, none, none, none, some (.ref q), x16, none, none] ∧ h' = h7 ++ [.lst [.tup [.str a]]]) ?_ ?_
  · simp [e27]
    exact ⟨rfl, rfl⟩
  rintro _ _ ⟨rfl, rfl⟩
  refine Sv_cut (fun ρ h' => ρ = [some (.frl (ns.map .int)), some (.ref 3), some (.ref n2), x3, some (.str kd), some (.ref h4.length), some (.ref s), some (.ref h7.length), some (.ref (h7.length + 1)), none, none, none, none, none, none, some (.ref q), x16, none, none] ∧ h' = h7 ++ [.lst [.tup [.str a]], .lst [.int 1]]) ?_ ?_
  · simp
    exact ⟨rfl, rfl⟩
  rintro _ _ ⟨rfl, rfl⟩
  obtain ⟨N, hN⟩ : ∃ N, N = h7.length := ⟨_, rfl⟩
  rw [← hN]
  refine Sv_cut (fun ρ h' => ρ = [some (.frl (ns.map .int)), some (.ref 3), some (.ref n2), x3, some (.str kd), some (.ref h4.length), some (.ref s), some (.ref N), some (.ref (N + 1)), some (.int 1), none, none, none, none, none, some (.ref q), x16, none, none] ∧ h' = h7 ++ [.lst [.tup [.str a]], .lst [.int 1]]) ?_ ?_
  · simp
    exact ⟨rfl, rfl⟩
  rintro _ _ ⟨rfl, rfl⟩

  have eN : (h7 ++ [Ob.lst [.tup [.str a]], .lst [.int 1]])[N]? = some (.lst [.tup [.str a]]) := by rw [hN]; simp
  have eN1 : (h7 ++ [Ob.lst [.tup [.str a]], .lst [.int 1]])[N + 1]? = some (.lst [.int 1]) := by rw [hN]; simp
  have G7 : Gr h7 (h7 ++ [Ob.lst [.tup [.str a]], .lst [.int 1]]) := Gr.app
  generalize (h7 ++ [Ob.lst [.tup [.str a]], .lst [.int 1]]) = h8 at *
  have l8 := lt_of eN1
  let I : Nat → Hh → Prop := fun n h' => Gr h7 h' ∧ N + 1 < h'.length ∧ ∃ (ds : List D) (ts : List Tk) (t : Tr), ds.length = n + 1 ∧ h'[N]? = some (.lst ds) ∧ h'[N + 1]? = some (.lst (ts.map fun t => D.int t.1.size)) ∧ rowsT held [] ds = .inl ts ∧ ts[0]? = some (.node a [], kd) ∧ ts[n]? = some (t, kd) ∧ t.dep = n + 1 ∧ (∀ d ∈ ds, ∀ h'', calmD h'' d)
  have calmN : ∀ (top st : Nat) (h'' : Hh), calmD h'' (rowN b c top st) := fun top st h'' => by
    have lb : b.length ≤ 16777216 := Nat.le_trans nb.hi (by decide)
    have lc : c.length ≤ 16777216 := Nat.le_trans nc.hi (by decide)
    unfold rowN
    split
    · exact calm_tupS fun y hy => by
        simp only [List.mem_cons, List.mem_nil_iff, or_false] at hy
        rcases hy with rfl | rfl
        · exact ⟨by simp only [D.tame], by simp only [D.sml]; exact lb⟩
        · exact ⟨by simp only [D.tame], by simp only [D.sml]⟩
    · split
      · exact calm_tupS fun y hy => by
          simp only [List.mem_cons, List.mem_nil_iff, or_false] at hy
          rcases hy with rfl | rfl | rfl
          · exact ⟨by simp only [D.tame], by simp only [D.sml]; exact lc⟩
          · exact ⟨by simp only [D.tame], by simp only [D.sml]⟩
          · exact ⟨by simp only [D.tame], by simp only [D.sml]⟩
      · split
        · exact calm_tupS fun y hy => by
            simp only [List.mem_cons, List.mem_nil_iff, or_false] at hy
            rcases hy with rfl | rfl | rfl
            · exact ⟨by simp only [D.tame], by simp only [D.sml]; exact lc⟩
            · exact ⟨by simp only [D.tame], by simp only [D.sml]⟩
            · exact ⟨by simp only [D.tame], by simp only [D.sml]⟩
        · exact calm_tupS fun y hy => by
            simp only [List.mem_cons, List.mem_nil_iff, or_false] at hy
            rcases hy with rfl | rfl | rfl
            · exact ⟨by simp only [D.tame], by simp only [D.sml]; exact lc⟩
            · exact ⟨by simp only [D.tame], by simp only [D.sml]⟩
            · exact ⟨by simp only [D.tame], by simp only [D.sml]⟩
  refine Sv_cut (fun ρ h' => ∃ x3 x10 x16 x17, ρ = [some (.frl (ns.map .int)), some (.ref 3), some (.ref n2), x3, some (.str kd), some (.ref h4.length), some (.ref s), some (.ref N), some (.ref (N + 1)), some (.int ((ss.length : Int) + 1)), x10, none, none, none, none, some (.ref q), x16, x17, none] ∧ I ss.length h') ?_ ?_
  · simp
    refine lpL (as := ss) (fun pre ρ h' => ∃ x3 x10 x16 x17, ρ = [some (.frl (ns.map .int)), some (.ref 3), some (.ref n2), x3, some (.str kd), some (.ref h4.length), some (.ref s), some (.ref N), some (.ref (N + 1)), some (.int ((pre.length : Int) + 1)), x10, none, none, none, none, some (.ref q), x16, x17, none] ∧ I pre.length h') (fun (i : Nat) => D.int i) (by omega) ⟨_, _, _, _, rfl, G7, l8, [.tup [.str a]], [(.node a [], kd)], .node a [], rfl, eN, by rw [eN1]; simp [Tr.size, Tr.sizes], ?_, rfl, rfl, by simp [Tr.dep, Tr.deps], fun d hd h'' => ?_⟩ ?_ ?_ ?_
    · simp [rowsT, stepRow, f0, kidsOf]
    · rw [List.mem_singleton.mp hd]
      have la : a.length ≤ 16777216 := Nat.le_trans na.hi (by decide)
      exact calm_tupS fun y hy => by
        rw [List.mem_singleton.mp hy]
        exact ⟨by simp only [D.tame], by simp only [D.sml]; exact la⟩
    · rintro pre ρ h' ⟨_, _, _, _, _, G, _⟩
      exact G.get e7
    · rintro pre st post ρ h9 ea ⟨x3, x10, x16, x17, rfl, G9, l9, ds, ts, t, lds, ed, es, er, h0, ht, dt, cd⟩
      have hst4 := hs st (by rw [ea]; simp)
      have lp : pre.length < 300 := by have := congrArg List.length ea; simp at this; omega
      have lts := rowsT_len er
      have e2 := G9.get e27
      rw [Sv_turn]
      refine Sv_cut (fun ρ h' => ρ = [some (.frl (ns.map .int)), some (.ref 3), some (.ref n2), x3, some (.str kd), some (.ref h4.length), some (.ref s), some (.ref N), some (.ref (N + 1)), some (.int ((pre.length : Int) + 1)), some (.int st), none, none, none, none, some (.ref q), x16, some (.int pre.length), none] ∧ h9 = h') ?_ ?_
      · simp [ed, lds]
        exact ⟨rfl, rfl⟩
      rintro _ _ ⟨rfl, rfl⟩
      have tk : (ts.map fun t => D.int t.1.size)[pre.length]? = some (.int t.size) := by rw [List.getElem?_map, ht]; rfl
      have st4 : st = 1 ∨ st = 2 ∨ st = 3 ∨ st = 4 := by omega
      refine Sv_cut (fun ρ h' => ρ = [some (.frl (ns.map .int)), some (.ref 3), some (.ref n2), x3, some (.str kd), some (.ref h4.length), some (.ref s), some (.ref N), some (.ref (N + 1)), some (.int ((pre.length : Int) + 1)), some (.int st), none, none, none, none, some (.ref q), x16, some (.int pre.length), none] ∧ Gr h7 h' ∧ N + 1 < h'.length ∧ h'[N]? = some (.lst (ds ++ [rowN b c pre.length st])) ∧ h'[N + 1]? = some (.lst (ts.map fun t => D.int t.1.size))) ?_ ?_
      · have qA : ∀ o os, (h9 ++ o :: os)[N]? = some (.lst ds) := fun o os => (Gr.app (h := h9)).get ed
        have lds2 : ds.length < 16777216 := by omega
        rcases st4 with rfl | rfl | rfl | rfl <;>
        · simp [ed, e2, qA]
          refine Br.yes lds2 ?_
          exact ⟨rfl, (G9.trans Gr.app).put (by omega), by simp; omega, by rw [List.getElem?_set_self (by simp; omega)]; rfl, by rw [List.getElem?_set_ne (by omega)]; exact (Gr.app (h := h9)).get es⟩
      rintro _ h10 ⟨rfl, G10, l10, ed10, es10⟩
      obtain ⟨tf1, tf2⟩ := treeN_facts (a := a) (b := b) (c := c) (t := t) (s := st)
      refine Sv_cut (fun ρ h' => ρ = [some (.frl (ns.map .int)), some (.ref 3), some (.ref n2), x3, some (.str kd), some (.ref h4.length), some (.ref s), some (.ref N), some (.ref (N + 1)), some (.int ((pre.length : Int) + 1)), some (.int st), none, none, none, none, some (.ref q), x16, some (.int pre.length), none] ∧ Gr h7 h' ∧ N + 1 < h'.length ∧ h'[N]? = some (.lst (ds ++ [rowN b c pre.length st])) ∧ h'[N + 1]? = some (.lst ((ts ++ [(treeN b c (.node a []) t st, kd)]).map fun t => D.int t.1.size))) ?_ ?_
      · have qA : ∀ o os, (h10 ++ o :: os)[N + 1]? = some (.lst (ts.map fun t => D.int t.1.size)) := fun o os => (Gr.app (h := h10)).get es10
        have lts2 : ts.length < 16777216 := by simp at lts; omega
        have tk1 : atI (ts.map fun t => D.int t.1.size) (pre.length : Int) = some (.int t.size) := by rw [atI_n, tk]
        rcases st4 with rfl | rfl | rfl | rfl <;>
        · simp [es10, tk1, qA, bMul_l _ (i := 2) (by decide)]
          refine Br.yes lts2 ?_
          refine ⟨rfl, (G10.trans Gr.app).put (by omega), by simp; omega, by rw [List.getElem?_set_ne (by omega)]; exact (Gr.app (h := h10)).get ed10, ?_⟩
          rw [List.getElem?_set_self (by simp; omega)]
          simp [tf2]
      rintro _ h11 ⟨rfl, G11, l11, ed11, es11⟩
      have hrow := step_rowN (ts := ts) (t := t) (top := pre.length) (s := st) f1 f2 h0 ht
      simp
      refine ⟨_, _, _, _, by rw [show (((pre ++ [st]).length : Nat) : Int) = (pre.length : Int) + 1 by simp], G11, l11, ds ++ [rowN b c pre.length st], ts ++ [(treeN b c (.node a []) t st, kd)], treeN b c (.node a []) t st, by simp [lds], ed11, es11, rowsT_snoc er hrow, ?_, ?_, by rw [tf1, dt]; simp, fun d hd h'' => ?_⟩
      · rw [List.getElem?_append_left (by simp at lts; omega)]; exact h0
      · have : (pre ++ [st]).length = ts.length := by simp at lts; simp; omega
        rw [this]
        simp
      · rcases List.mem_append.mp hd with z | z
        · exact cd d z h''
        · rw [List.mem_singleton.mp z]; exact calmN _ _ _
    · rintro ρ h' ⟨x3, x10, x16, x17, rfl, i⟩
      exact ⟨_, _, _, _, rfl, i⟩
  rintro _ h9 ⟨x3, x10, x16, x17, rfl, G9, l9, ds, ts, t, lds, ed, es, er, h0, ht, dt, cd⟩

  have lts := rowsT_len er
  have ltn : ts.length = ss.length + 1 := by simp at lts; omega
  have S9 := (S.bx X7).gr G9
  have Rk : RowsOk h9 (.ref N) := ⟨⟨by simp only [D.tame]; exact .inl ⟨_, ed⟩, by simp only [D.sml]⟩, fun xs z => (nomatch z), fun xs z d hd => by
    rw [seq_ref ed] at z
    cases z
    exact cd d hd h9⟩
  have hq : rowsQ held (.ref N) h9 = .inl ts := by
    unfold rowsQ
    rw [seq_ref ed]
    simp only
    rw [if_pos ⟨by omega, by omega⟩, er]
  have hlast : ts.getLast? = some (t, kd) := by
    rw [List.getLast?_eq_getElem?, show ts.length - 1 = ss.length by omega]
    exact ht
  refine Sv_cut (fun ρ h' => ρ = [some (.frl (ns.map .int)), some (.ref 3), some (.ref n2), x3, some (.str kd), some (.ref h4.length), some (.ref s), some (.ref N), some (.ref (N + 1)), some (.int ((ss.length : Int) + 1)), x10, none, none, none, none, some (.ref q), x16, x17, none] ∧ Gr h9 h') ?_ ?_
  · simp
    refine use (hif h9 [] s held kd (.ref N) S9 Rk) ?_
    rintro _ h10 ⟨rfl, G10⟩
    rw [hq]
    simp [bNotB]
    exact ⟨rfl, G10⟩
  rintro _ h10 ⟨rfl, G10⟩
  refine Sv_cut (fun ρ h' => ρ = [some (.frl (ns.map .int)), some (.ref 3), some (.ref n2), x3, some (.str kd), some (.ref h4.length), some (.ref s), some (.ref N), some (.ref (N + 1)), some (.int ((ss.length : Int) + 1)), x10, some (.tup [.str "none"]), none, none, none, some (.ref q), x16, x17, none] ∧ h10 = h') ?_ ?_
  · simp
    exact ⟨rfl, rfl⟩
  rintro _ _ ⟨rfl, rfl⟩
  have told : ∃ w, (if 10000 < t.size then D.tup [.str "many", .int 10000, .bl true] else if 200 < t.dep then D.tup [.str "many", .int 200, .bl true] else .tup [.str "tree", t.d]) = w := ⟨_, rfl⟩
  obtain ⟨w, hw⟩ := told
  refine Sv_cut (fun ρ h' => ∃ x12, ρ = [some (.frl (ns.map .int)), some (.ref 3), some (.ref n2), x3, some (.str kd), some (.ref h4.length), some (.ref s), some (.ref N), some (.ref (N + 1)), some (.int ((ss.length : Int) + 1)), x10, some (w), x12, none, none, some (.ref q), x16, x17, none] ∧ Gr h10 h') ?_ ?_
  · simp
    refine useX (hun h10 [] s held kd (.ref N) (S9.gr G10) (Rk.gr G10)) ?_ ?_
    · rintro _ h11 ⟨ts', t', e1, e2, sz, dp, rfl, G11⟩
      rw [rowsQ_gr Rk G10, hq] at e1
      cases e1
      rw [hlast] at e2
      cases e2
      simp
      rw [if_neg (by simpa using sz), if_neg (by simpa using dp)] at hw
      exact ⟨_, by rw [← hw], G11⟩
    · rintro c' p' h11 ⟨G11, ⟨rfl, i, e1, rfl⟩ | ⟨rfl, ts', t', e1, e2, z⟩⟩
      · rw [rowsQ_gr Rk G10, hq] at e1
        cases e1
      · rw [rowsQ_gr Rk G10, hq] at e1
        cases e1
        rw [hlast] at e2
        cases e2
        rcases z with ⟨z1, rfl⟩ | ⟨z1, z2, rfl⟩
        · simp
          rw [if_pos (by simpa using z1)] at hw
          exact ⟨_, by rw [← hw]; rfl, G11⟩
        · simp
          rw [if_neg (by simpa using z1), if_pos (by simpa using z2)] at hw
          exact ⟨_, by rw [← hw]; rfl, G11⟩
  rintro _ h11 ⟨x12, rfl, G11⟩

  have es11 := (G10.trans G11).get es
  have slast : atI (ts.map fun t => D.int t.1.size) (-1) = some (.int t.size) := by
    obtain ⟨ts', hts⟩ : ∃ ts', ts = ts' ++ [(t, kd)] := ⟨ts.dropLast, by rw [List.getLast?_eq_some_iff] at hlast; obtain ⟨y, hy⟩ := hlast; rw [hy]; simp⟩
    rw [hts, List.map_append, List.map_cons, List.map_nil]
    exact atI_last
  have dp : t.dep = ss.length + 1 := dt
  have three : ∀ (k : Int) (h : Hh), bEq (.tup [.str "many", .int k, .bl true]) (.tup [.str "many", .int k, .bl true]) h = .ok (.bl true) h := fun k h => bEq_tup_self (by simp)
  refine Sv_cut (fun ρ h' => t.size ≤ 10000 ∧ ρ = [some (.frl (ns.map .int)), some (.ref 3), some (.ref n2), x3, some (.str kd), some (.ref h4.length), some (.ref s), some (.ref N), some (.ref (N + 1)), some (.int ((ss.length : Int) + 1)), x10, some (w), x12, none, none, some (.ref q), x16, x17, none] ∧ h11 = h') ?_ ?_
  · simp [es11, uNeg, slast]
    refine Br.go (fun g => ?_) (fun g => ?_)
    · have g' : 10000 < t.size := by omega
      rw [if_pos g'] at hw
      simp [← hw, three]
      rfl
    · exact ⟨by omega, rfl, rfl⟩
  rintro _ _ ⟨sz, rfl, rfl⟩
  refine Sv_cut (fun ρ h' => t.dep ≤ 200 ∧ ρ = [some (.frl (ns.map .int)), some (.ref 3), some (.ref n2), x3, some (.str kd), some (.ref h4.length), some (.ref s), some (.ref N), some (.ref (N + 1)), some (.int ((ss.length : Int) + 1)), x10, some (w), x12, none, none, some (.ref q), x16, x17, none] ∧ h11 = h') ?_ ?_
  · simp
    refine Br.go (fun g => ?_) (fun g => ?_)
    · rw [if_neg (by omega), if_pos (by omega)] at hw
      simp [← hw, three]
      rfl
    · exact ⟨by omega, rfl, rfl⟩
  rintro _ _ ⟨dp2, rfl, rfl⟩
  rw [if_neg (by omega), if_neg (by omega)] at hw
  subst hw

  have ed11 := (G10.trans G11).get ed
  refine Sv_cut (fun ρ h' => ρ = [some (.frl (ns.map .int)), some (.ref 3), some (.ref n2), x3, some (.str kd), some (.ref h4.length), some (.ref s), some (.ref N), some (.ref (N + 1)), some (.int ((ss.length : Int) + 1)), x10, some (.tup [.str "tree", t.d]), x12, some (.ref h11.length), none, some (.ref q), x16, x17, none] ∧ h' = h11 ++ [.lst []]) ?_ ?_
  · simp
    exact ⟨rfl, rfl⟩
  rintro _ _ ⟨rfl, rfl⟩

  refine Sv_cut (fun ρ h' => ∃ x14 x18, ρ = [some (.frl (ns.map .int)), some (.ref 3), some (.ref n2), x3, some (.str kd), some (.ref h4.length), some (.ref s), some (.ref N), some (.ref (N + 1)), some (.int ((ss.length : Int) + 1)), x10, some (.tup [.str "tree", t.d]), x12, some (.ref h11.length), x14, some (.ref q), x16, x17, x18] ∧ Gr h11 h' ∧ h'[h11.length]? = some (.lst (ts.map fun t => t.1.d))) ?_ ?_
  · simp
    refine lpL (as := ds) (fun pre ρ h' => ∃ x14 x18, ρ = [some (.frl (ns.map .int)), some (.ref 3), some (.ref n2), x3, some (.str kd), some (.ref h4.length), some (.ref s), some (.ref N), some (.ref (N + 1)), some (.int ((ss.length : Int) + 1)), x10, some (.tup [.str "tree", t.d]), x12, some (.ref h11.length), x14, some (.ref q), x16, x17, x18] ∧ Gr h11 h' ∧ ∃ us, rowsT held [] pre = .inl us ∧ h'[h11.length]? = some (.lst (us.map fun t => t.1.d))) id (by omega) ⟨_, _, rfl, Gr.app, [], rfl, by simp⟩ ?_ ?_ ?_
    · rintro pre ρ h' ⟨_, _, _, G, _⟩
      simpa using G.get ed11
    · rintro pre y post ρ h12 ea ⟨x14, x18, rfl, G12, us, eu, e12⟩
      have er' := er
      rw [ea] at er'
      obtain ⟨z, hz⟩ := step_ex er' eu
      obtain ⟨nm, ys, o, vs, rfl, hf, hk, rfl⟩ := step_shape hz
      obtain ⟨ps, rfl, rfl, hp, hks⟩ := kids_pairs hk
      have ho := List.mem_of_find?_eq_some hf
      have lrow := sn.row o ho
      have lps : ps.length ≤ 2 := by rw [← hks] at lrow; simpa using lrow
      have lus := rowsT_len eu
      have lpre : pre.length < 400 := by have := congrArg List.length ea; simp at this; omega
      have lus2 : us.length < 16777216 := by simp at lus; omega
      have l12 := lt_of e12
      simp [e12, Ev_bind]
      refine pick_ok (k := 13) (m := h11.length) (us := us) (f := fun t => t.1.d) (ps := ps) rfl (by decide) (by simp) e12 hp (by omega) ?_
      intro h13 G13 e13
      have l13 := lt_of (G13.get e12)
      simp [e13]
      refine Br.yes (by omega) ?_
      simp [G13.get e12]
      refine Br.yes lus2 ?_
      refine ⟨_, _, rfl, (G12.trans G13).put (Nat.le_refl _), us ++ [(Tr.node nm (ps.map fun p => p.2.1), o.kd)], rowsT_snoc eu hz, ?_⟩
      rw [List.getElem?_set_self l13, List.map_append, List.map_cons, List.map_nil, Tr.d_node, List.map_map]
      rfl
    · rintro ρ h12 ⟨x14, x18, rfl, G12, us, eu, e12⟩
      rw [er] at eu
      cases eu
      exact ⟨_, _, rfl, G12, e12⟩
  rintro _ h12 ⟨x14, x18, rfl, G12, e12⟩
  have tl : atI (ts.map fun t => t.1.d) (-1) = some t.d := by
    obtain ⟨ts', hts⟩ : ∃ ts', ts = ts' ++ [(t, kd)] := ⟨ts.dropLast, by rw [List.getLast?_eq_some_iff] at hlast; obtain ⟨y, hy⟩ := hlast; rw [hy]; simp⟩
    rw [hts, List.map_append, List.map_cons, List.map_nil]
    exact atI_last
  have okT : t.ok held kd := rows_ok (u := (t, kd)) er (List.mem_of_getElem? ht)
  have pl := gd_ok sn.nms t kd okT
  rw [← pl_tr] at pl
  have lt : D.dp t.d = t.dep := dp_tr t
  have self : bEqL (.tup [.str "tree", t.d]) (.tup [.str "tree", t.d]) h12 = .ok (.bl true) h12 := bEqL_self (by simp [D.pl, D.pls, pl]; decide +kernel) (by simp [D.dp, D.dps, lt]; omega) h12
  simp [e12, uNeg, tl, self]
  rfl
end Gx_k53
end
section
set_option maxHeartbeats 0
namespace Gx_k53
open Mi PySem PySem.Spec PyProof.Rows L2
theorem sc0 : FnScope N0 p0 (defScope (top 0)) := ⟨rfl, rfl, rfl, by decide +kernel, rfl, by decide +kernel, by decide +kernel⟩
theorem sc1 : FnScope N1 p1 (defScope (top 3)) := ⟨rfl, rfl, rfl, by decide +kernel, rfl, by decide +kernel, by decide +kernel⟩
theorem sc2 : FnScope N2 p2 (defScope (top 4)) := ⟨rfl, rfl, rfl, by decide +kernel, rfl, by decide +kernel, by decide +kernel⟩
theorem sc3 : FnScope N3 p3 (defScope (top 5)) := ⟨rfl, rfl, rfl, by decide +kernel, rfl, by decide +kernel, by decide +kernel⟩
theorem sc4 : FnScope N4 p4 (defScope (top 13)) := ⟨rfl, rfl, rfl, by decide +kernel, rfl, by decide +kernel, by decide +kernel⟩
theorem sc5 : FnScope N5 p5 (defScope (top 14)) := ⟨rfl, rfl, rfl, by decide +kernel, rfl, by decide +kernel, by decide +kernel⟩
theorem sc6 : FnScope N6 p6 (defScope (top 15)) := ⟨rfl, rfl, rfl, by decide +kernel, rfl, by decide +kernel, by decide +kernel⟩
theorem sc7 : FnScope N7 p7 (defScope (top 16)) := ⟨rfl, rfl, rfl, by decide +kernel, rfl, by decide +kernel, by decide +kernel⟩
theorem sc8 : FnScope N8 p8 (defScope (top 17)) := ⟨rfl, rfl, rfl, by decide +kernel, rfl, by decide +kernel, by decide +kernel⟩
theorem sc9 : FnScope N9 p9 (defScope (top 22)) := ⟨rfl, rfl, rfl, by decide +kernel, rfl, by decide +kernel, by decide +kernel⟩
theorem sc10 : FnScope N10 p10 (defScope (top 23)) := ⟨rfl, rfl, rfl, by decide +kernel, rfl, by decide +kernel, by decide +kernel⟩
theorem sc11 : FnScope N11 p11 (defScope (top 24)) := ⟨rfl, rfl, rfl, by decide +kernel, rfl, by decide +kernel, by decide +kernel⟩
theorem sc12 : FnScope N12 p12 (defScope (top 25)) := ⟨rfl, rfl, rfl, by decide +kernel, rfl, by decide +kernel, by decide +kernel⟩
theorem sc13 : FnScope N13 p13 (defScope (top 27)) := ⟨rfl, rfl, rfl, by decide +kernel, rfl, by decide +kernel, by decide +kernel⟩
theorem sc14 : FnScope N14 p14 (defScope (top 28)) := ⟨rfl, rfl, rfl, by decide +kernel, rfl, by decide +kernel, by decide +kernel⟩
theorem sc15 : FnScope N15 p15 (defScope (top 29)) := ⟨rfl, rfl, rfl, by decide +kernel, rfl, by decide +kernel, by decide +kernel⟩
theorem sc16 : FnScope N16 p16 (defScope (top 30)) := ⟨rfl, rfl, rfl, by decide +kernel, rfl, by decide +kernel, by decide +kernel⟩
theorem sc17 : FnScope N17 p17 (defScope (top 31)) := ⟨rfl, rfl, rfl, by decide +kernel, rfl, by decide +kernel, by decide +kernel⟩
theorem sc18 : FnScope N18 p18 (defScope (top 32)) := ⟨rfl, rfl, rfl, by decide +kernel, rfl, by decide +kernel, by decide +kernel⟩
theorem sc19 : FnScope N19 p19 (defScope (inClass (top 18) 0)) := ⟨rfl, rfl, rfl, by decide +kernel, rfl, by decide +kernel, by decide +kernel⟩
theorem sc20 : FnScope N20 p20 (defScope (inClass (top 18) 1)) := ⟨rfl, rfl, rfl, by decide +kernel, rfl, by decide +kernel, by decide +kernel⟩
theorem sc21 : FnScope N21 p21 (defScope (inClass (top 18) 2)) := ⟨rfl, rfl, rfl, by decide +kernel, rfl, by decide +kernel, by decide +kernel⟩
theorem sc22 : FnScope N22 p22 (defScope (inClass (top 18) 3)) := ⟨rfl, rfl, rfl, by decide +kernel, rfl, by decide +kernel, by decide +kernel⟩
theorem sc23 : FnScope N23 p23 (defScope (inClass (top 18) 4)) := ⟨rfl, rfl, rfl, by decide +kernel, rfl, by decide +kernel, by decide +kernel⟩
theorem sc24 : FnScope N24 p24 (defScope (inClass (top 18) 5)) := ⟨rfl, rfl, rfl, by decide +kernel, rfl, by decide +kernel, by decide +kernel⟩
theorem sc25 : FnScope N25 p25 (defScope (inClass (top 18) 6)) := ⟨rfl, rfl, rfl, by decide +kernel, rfl, by decide +kernel, by decide +kernel⟩
theorem sc26 : FnScope N26 p26 (defScope (inClass (top 18) 7)) := ⟨rfl, rfl, rfl, by decide +kernel, rfl, by decide +kernel, by decide +kernel⟩
theorem sc27 : FnScope N27 p27 (defScope (inClass (top 18) 8)) := ⟨rfl, rfl, rfl, by decide +kernel, rfl, by decide +kernel, by decide +kernel⟩
theorem sc28 : FnScope N28 p28 (defScope (inClass (top 18) 9)) := ⟨rfl, rfl, rfl, by decide +kernel, rfl, by decide +kernel, by decide +kernel⟩
theorem sc29 : FnScope N29 p29 (defScope (inClass (top 18) 10)) := ⟨rfl, rfl, rfl, by decide +kernel, rfl, by decide +kernel, by decide +kernel⟩
section
variable {P : Program} {w : World} {K : PySem.W.Frag} {mg : Str → Option Value} {base : Heap} {k : Nat} {r : Nat → FX}
theorem xi0 (T : Tx fs fn K mg) : ∃ fd, FnOk P w K mg base L2.CX0 (k + 1) (He.ma K (He.ga K "BadOperators") "__init__") fd ["self", "value"] (spXI (He.ga K "BadOperators") "value") ∧ Binds K fd ["self", "value"] [] := by
  obtain ⟨fd, F⟩ := T.c.def_ 31 (d := dx0) rfl
  exact ⟨fd, init_ok (fXc_ok (T.at_ 48)) F ⟨rfl, rfl, rfl, by decide +kernel, rfl, by decide +kernel, by decide +kernel⟩ (Or.inl rfl) (Or.inl rfl), F.bindsN fun _ _ _ _ _ _ us hl => match us, hl with | [_, _], _ => rfl⟩
theorem xi1 (T : Tx fs fn K mg) : ∃ fd, FnOk P w K mg base L2.CX0 (k + 1) (He.ma K (He.ga K "BadRows") "__init__") fd ["self", "at"] (spXI (He.ga K "BadRows") "at") ∧ Binds K fd ["self", "at"] [] := by
  obtain ⟨fd, F⟩ := T.c.def_ 32 (d := dx1) rfl
  exact ⟨fd, init_ok (fXc_ok (T.at_ 27)) F ⟨rfl, rfl, rfl, by decide +kernel, rfl, by decide +kernel, by decide +kernel⟩ (Or.inl rfl) (Or.inl rfl), F.bindsN fun _ _ _ _ _ _ us hl => match us, hl with | [_, _], _ => rfl⟩
theorem xi2 (T : Tx fs fn K mg) : ∃ fd, FnOk P w K mg base L2.CX0 (k + 1) (He.ma K (He.ga K "TooMany") "__init__") fd ["self", "limit"] (spXI (He.ga K "TooMany") "limit") ∧ Binds K fd ["self", "limit"] [] := by
  obtain ⟨fd, F⟩ := T.c.def_ 33 (d := dx2) rfl
  exact ⟨fd, init_ok (fXc_ok (T.at_ 32)) F ⟨rfl, rfl, rfl, by decide +kernel, rfl, by decide +kernel, by decide +kernel⟩ (Or.inl rfl) (Or.inl rfl), F.bindsN fun _ _ _ _ _ _ us hl => match us, hl with | [_, _], _ => rfl⟩
/-- _wall -/
theorem fn0 (T : Tx fs fn K mg) (ih : AllOk P w K mg base (G K w) fn pss k r) {fd : FuncData} (F : FunD K d0.name d0.qual d0.params d0.body d0.scope (d0.dvs K) (d0.kws K) (d0.adr K) fd) :
    FnOk P w K mg base (L2.CX P w) (k + 3) (d0.adr K) fd p0 (spF K (G K w) p0.length (bodyX N0.length (b0 r))) := by
  refine fn_ok (N := N0) F sc0 fun cdv A outer s H E hr => ?_
  have tk := tk_def (P := P) (w := w) (K := K) (mg := mg) (base := base) (G := G K w) (N := N0) (qual := d0.qual) (scope := d0.scope) (f := d0.adr K) (cdv := cdv) (A := A) (outer := outer) (s := s) (H := H) (E := E)
  have po := po_def (P := P) (w := w) (K := K) (mg := mg) (base := base) (N := N0) (qual := d0.qual) (scope := d0.scope) (f := d0.adr K) (cdv := cdv) (A := A) (outer := outer) (s := s) (H := H) (E := E)
  unfold b0 p__wall
  exact (mb_one (ms_while po (mt_tru (me_bl)) (mb_one (ms_pass))))
/-- is_integer -/
theorem fn1 (T : Tx fs fn K mg) (ih : AllOk P w K mg base (G K w) fn pss k r) {fd : FuncData} (F : FunD K d1.name d1.qual d1.params d1.body d1.scope (d1.dvs K) (d1.kws K) (d1.adr K) fd) :
    FnOk P w K mg base (L2.CX P w) (k + 3) (d1.adr K) fd p1 (spF K (G K w) p1.length (bodyX N1.length (b1 r))) := by
  refine fn_ok (N := N1) F sc1 fun cdv A outer s H E hr => ?_
  have tk := tk_def (P := P) (w := w) (K := K) (mg := mg) (base := base) (G := G K w) (N := N1) (qual := d1.qual) (scope := d1.scope) (f := d1.adr K) (cdv := cdv) (A := A) (outer := outer) (s := s) (H := H) (E := E)
  have po := po_def (P := P) (w := w) (K := K) (mg := mg) (base := base) (N := N1) (qual := d1.qual) (scope := d1.scope) (f := d1.adr K) (cdv := cdv) (A := A) (outer := outer) (s := s) (H := H) (E := E)
  unfold b1 p_is_integer
  exact (mb_one (ms_ret ((me_and (me_isi1 (T := "int") (by decide) rfl (T.free 0) rfl (T.free 1) (by decide +kernel) (me_var 0)) (me_one (me_not (me_isi1 (T := "bool") (by decide) rfl (T.free 0) rfl (T.free 2) (by decide +kernel) (me_var 0))))))))
/-- is_name -/
theorem fn2 (T : Tx fs fn K mg) (ih : AllOk P w K mg base (G K w) fn pss k r) {fd : FuncData} (F : FunD K d2.name d2.qual d2.params d2.body d2.scope (d2.dvs K) (d2.kws K) (d2.adr K) fd) :
    FnOk P w K mg base (L2.CX P w) (k + 3) (d2.adr K) fd p2 (spF K (G K w) p2.length (bodyX N2.length (b2 r))) := by
  refine fn_ok (N := N2) F sc2 fun cdv A outer s H E hr => ?_
  have tk := tk_def (P := P) (w := w) (K := K) (mg := mg) (base := base) (G := G K w) (N := N2) (qual := d2.qual) (scope := d2.scope) (f := d2.adr K) (cdv := cdv) (A := A) (outer := outer) (s := s) (H := H) (E := E)
  have po := po_def (P := P) (w := w) (K := K) (mg := mg) (base := base) (N := N2) (qual := d2.qual) (scope := d2.scope) (f := d2.adr K) (cdv := cdv) (A := A) (outer := outer) (s := s) (H := H) (E := E)
  unfold b2 p_is_name
  exact (mb_cons (ms_if (mt_w (mw_or (mt_not (mt_tru (me_isi1 (T := "str") (by decide) rfl (T.free 0) rfl (T.free 3) (by decide +kernel) (me_var 0)))) (mw_or1 (mt_not (mt_mc (mc_ch op_le ok_cInt op_le ok_cInt (me_int) (me_fLen rfl (T.free 4) (ma_cons (me_var 0) ma_nil)) (me_int))))))) (mb_one (ms_ret (me_bl))) mb_nil)
    (mb_cons (ms_for po rfl (me_var 0) (mg_name sc2.nd rfl (by first | exact Or.inl rfl | exact Or.inr rfl)) (mb_one (ms_if (mt_mc (mc_notIn (hu_of hr) (me_var 1) (me_gstr rfl (T.str 5).choose_spec))) (mb_one (ms_ret (me_bl))) mb_nil)))
    (mb_one (ms_ret (me_bl)))))
/-- is_row -/
theorem fn3 (T : Tx fs fn K mg) (ih : AllOk P w K mg base (G K w) fn pss k r) {fd : FuncData} (F : FunD K d3.name d3.qual d3.params d3.body d3.scope (d3.dvs K) (d3.kws K) (d3.adr K) fd) :
    FnOk P w K mg base (L2.CX P w) (k + 3) (d3.adr K) fd p3 (spF K (G K w) p3.length (bodyX N3.length (b3 r))) := by
  refine fn_ok (N := N3) F sc3 fun cdv A outer s H E hr => ?_
  have tk := tk_def (P := P) (w := w) (K := K) (mg := mg) (base := base) (G := G K w) (N := N3) (qual := d3.qual) (scope := d3.scope) (f := d3.adr K) (cdv := cdv) (A := A) (outer := outer) (s := s) (H := H) (E := E)
  have po := po_def (P := P) (w := w) (K := K) (mg := mg) (base := base) (N := N3) (qual := d3.qual) (scope := d3.scope) (f := d3.adr K) (cdv := cdv) (A := A) (outer := outer) (s := s) (H := H) (E := E)
  unfold b3 p_is_row
  exact (mb_one (ms_ret (me_isi2 (T := "list") (U := "tuple") (by decide) (by decide) rfl (T.free 0) rfl (T.free 6) (by decide +kernel) rfl (T.free 7) (by decide +kernel) (me_var 0))))
/-- checked_entry -/
theorem fn4 (T : Tx fs fn K mg) (ih : AllOk P w K mg base (G K w) fn pss k r) {fd : FuncData} (F : FunD K d4.name d4.qual d4.params d4.body d4.scope (d4.dvs K) (d4.kws K) (d4.adr K) fd) :
    FnOk P w K mg base (L2.CX P w) (k + 3) (d4.adr K) fd p4 (spF K (G K w) p4.length (bodyX N4.length (b4 r))) := by
  obtain ⟨fd3, F3, B3, K3, E3⟩ := ih 3 d3 2 p3 rfl rfl
  obtain ⟨fd2, F2, B2, K2, E2⟩ := ih 2 d2 2 p2 rfl rfl
  refine fn_ok (N := N4) F sc4 fun cdv A outer s H E hr => ?_
  have tk := tk_def (P := P) (w := w) (K := K) (mg := mg) (base := base) (G := G K w) (N := N4) (qual := d4.qual) (scope := d4.scope) (f := d4.adr K) (cdv := cdv) (A := A) (outer := outer) (s := s) (H := H) (E := E)
  have po := po_def (P := P) (w := w) (K := K) (mg := mg) (base := base) (N := N4) (qual := d4.qual) (scope := d4.scope) (f := d4.adr K) (cdv := cdv) (A := A) (outer := outer) (s := s) (H := H) (E := E)
  unfold b4 p_checked_entry
  exact (mb_cons (ms_if (mt_w (mw_or (mt_not (mt_tru (me_call F3 hr rfl (T.glo 8) K3 B3 tk (ma_cons (me_var 0) ma_nil)))) (mw_or1 (mt_mc (mc_ne hr.units (me_fLen rfl (T.free 4) (ma_cons (me_var 0) ma_nil)) (me_int)))))) (mb_one (ms_ret (me_non))) mb_nil)
    (mb_cons (ms_set (i := 1) sc4.nd rfl (by first | exact Or.inl rfl | exact Or.inr rfl) (me_ix (hu_of hr) (me_var 0) (me_int)))
    (mb_cons (ms_set (i := 2) sc4.nd rfl (by first | exact Or.inl rfl | exact Or.inr rfl) (me_ix (hu_of hr) (me_var 0) (me_int)))
    (mb_cons (ms_if (mt_w (mw_or (mt_not (mt_tru (me_call F2 hr rfl (T.glo 9) K2 B2 tk (ma_cons (me_var 1) ma_nil)))) (mw_or (mt_not (mt_tru (me_call F3 hr rfl (T.glo 8) K3 B3 tk (ma_cons (me_var 2) ma_nil)))) (mw_or1 (mt_mc (mc_gt (me_fLen rfl (T.free 4) (ma_cons (me_var 2) ma_nil)) (me_int))))))) (mb_one (ms_ret (me_non))) mb_nil)
    (mb_cons (ms_for po rfl (me_var 2) (mg_name sc4.nd rfl (by first | exact Or.inl rfl | exact Or.inr rfl)) (mb_one (ms_if (mt_not (mt_tru (me_call F2 hr rfl (T.glo 9) K2 B2 tk (ma_cons (me_var 3) ma_nil)))) (mb_one (ms_ret (me_non))) mb_nil)))
    (mb_one (ms_ret (me_tup (ma_cons (me_var 1) (ma_cons (me_fTuple rfl (T.free 7) (ma_cons (me_var 2) ma_nil)) ma_nil))))))))))
/-- checked_operators -/
theorem fn5 (T : Tx fs fn K mg) (ih : AllOk P w K mg base (G K w) fn pss k r) {fd : FuncData} (F : FunD K d5.name d5.qual d5.params d5.body d5.scope (d5.dvs K) (d5.kws K) (d5.adr K) fd) :
    FnOk P w K mg base (L2.CX P w) (k + 3) (d5.adr K) fd p5 (spF K (G K w) p5.length (bodyX N5.length (b5 r))) := by
  obtain ⟨fd2, F2, B2, K2, E2⟩ := ih 2 d2 2 p2 rfl rfl
  obtain ⟨fd4, F4, B4, K4, E4⟩ := ih 4 d4 2 p4 rfl rfl
  obtain ⟨fd6, F6, B6, K6, E6⟩ := ih 6 d6 2 p6 rfl rfl
  obtain ⟨fd7, F7, B7, K7, E7⟩ := ih 7 d7 2 p7 rfl rfl
  refine fn_ok (N := N5) F sc5 fun cdv A outer s H E hr => ?_
  have tk := tk_def (P := P) (w := w) (K := K) (mg := mg) (base := base) (G := G K w) (N := N5) (qual := d5.qual) (scope := d5.scope) (f := d5.adr K) (cdv := cdv) (A := A) (outer := outer) (s := s) (H := H) (E := E)
  have po := po_def (P := P) (w := w) (K := K) (mg := mg) (base := base) (N := N5) (qual := d5.qual) (scope := d5.scope) (f := d5.adr K) (cdv := cdv) (A := A) (outer := outer) (s := s) (H := H) (E := E)
  unfold b5 p_checked_operators
  exact (mb_cons (ms_if (mt_w (mw_or (mt_not (mt_tru (me_isi1 (T := "dict") (by decide) rfl (T.free 0) rfl (T.free 10) (by decide +kernel) (me_var 0)))) (mw_or1 (mt_not (mt_mc (mc_ch op_le ok_cInt op_le ok_cInt (me_int) (me_fLen rfl (T.free 4) (ma_cons (me_var 0) ma_nil)) (me_int))))))) (mb_one (ms_ret (me_non))) mb_nil)
    (mb_cons (ms_set (i := 1) sc5.nd rfl (by first | exact Or.inl rfl | exact Or.inr rfl) (me_listA rfl rfl (T.free 6) (me_var 0)))
    (mb_cons (ms_for po rfl (me_var 1) (mg_name sc5.nd rfl (by first | exact Or.inl rfl | exact Or.inr rfl)) (mb_one (ms_if (mt_not (mt_tru (me_call F2 hr rfl (T.glo 9) K2 B2 tk (ma_cons (me_var 2) ma_nil)))) (mb_one (ms_ret (me_non))) mb_nil)))
    (mb_cons (ms_set (i := 3) sc5.nd rfl (by first | exact Or.inl rfl | exact Or.inr rfl) (me_dic0))
    (mb_cons (ms_for po rfl (me_fSortA rfl rfl (T.free 11) (ma_cons (me_var 1) ma_nil)) (mg_name sc5.nd rfl (by first | exact Or.inl rfl | exact Or.inr rfl)) (mb_cons (ms_set (i := 5) sc5.nd rfl (by first | exact Or.inl rfl | exact Or.inr rfl) (me_call F4 hr rfl (T.glo 12) K4 B4 tk (ma_cons (me_ix (hu_of hr) (me_var 0) (me_var 2)) ma_nil)))
    (mb_cons (ms_if (mt_mc (mc_isN (me_var 5))) (mb_one (ms_ret (me_non))) mb_nil)
    (mb_one (ms_put (hu_of hr) (me_var 3) (me_var 2) (me_var 5))))))
    (mb_cons (ms_set (i := 4) sc5.nd rfl (by first | exact Or.inl rfl | exact Or.inr rfl) (me_call F6 hr rfl (T.glo 13) K6 B6 tk (ma_cons (me_var 3) ma_nil)))
    (mb_cons (ms_if (mt_w (mw_or (mt_mc (mc_gt (me_fLen rfl (T.free 4) (ma_cons (me_var 4) ma_nil)) (me_int))) (mw_or1 (mt_mc (mc_ne hr.units (me_fLen rfl (T.free 4) (ma_cons (me_call F7 hr rfl (T.glo 14) K7 B7 tk (ma_cons (me_var 3) (ma_cons (me_var 4) ma_nil))) ma_nil)) (me_fLen rfl (T.free 4) (ma_cons (me_var 4) ma_nil))))))) (mb_one (ms_ret (me_non))) mb_nil)
    (mb_one (ms_ret (me_var 3))))))))))
/-- kinds_in -/
theorem fn6 (T : Tx fs fn K mg) (ih : AllOk P w K mg base (G K w) fn pss k r) {fd : FuncData} (F : FunD K d6.name d6.qual d6.params d6.body d6.scope (d6.dvs K) (d6.kws K) (d6.adr K) fd) :
    FnOk P w K mg base (L2.CX P w) (k + 3) (d6.adr K) fd p6 (spF K (G K w) p6.length (bodyX N6.length (b6 r))) := by
  refine fn_ok (N := N6) F sc6 fun cdv A outer s H E hr => ?_
  have tk := tk_def (P := P) (w := w) (K := K) (mg := mg) (base := base) (G := G K w) (N := N6) (qual := d6.qual) (scope := d6.scope) (f := d6.adr K) (cdv := cdv) (A := A) (outer := outer) (s := s) (H := H) (E := E)
  have po := po_def (P := P) (w := w) (K := K) (mg := mg) (base := base) (N := N6) (qual := d6.qual) (scope := d6.scope) (f := d6.adr K) (cdv := cdv) (A := A) (outer := outer) (s := s) (H := H) (E := E)
  unfold b6 p_kinds_in
  exact (mb_cons (ms_set (i := 1) sc6.nd rfl (by first | exact Or.inl rfl | exact Or.inr rfl) (me_lst ma_nil))
    (mb_cons (ms_forK pure_var po rfl (me_var 0) (mg_name sc6.nd rfl (by first | exact Or.inl rfl | exact Or.inr rfl)) (mb_cons (ms_asg (me_ix (hu_of hr) (me_var 0) (me_var 2)) (mg_tup rfl (mgs_cons (mg_name sc6.nd rfl (by first | exact Or.inl rfl | exact Or.inr rfl)) (mgs_cons (mg_name sc6.nd rfl (by first | exact Or.inl rfl | exact Or.inr rfl)) mgs_nil))))
    (mb_one (ms_for po rfl (me_add (me_tup (ma_cons (me_var 4) ma_nil)) (me_var 5)) (mg_name sc6.nd rfl (by first | exact Or.inl rfl | exact Or.inr rfl)) (mb_one (ms_if (mt_mc (mc_notIn (hu_of hr) (me_var 3) (me_var 1))) (mb_one (ms_expr (me_app (args := default) (me_var 1) (me_var 3)))) mb_nil))))))
    (mb_one (ms_ret (me_fSortA rfl rfl (T.free 11) (ma_cons (me_var 1) ma_nil))))))
/-- least_trees -/
theorem fn7 (T : Tx fs fn K mg) (ih : AllOk P w K mg base (G K w) fn pss k r) {fd : FuncData} (F : FunD K d7.name d7.qual d7.params d7.body d7.scope (d7.dvs K) (d7.kws K) (d7.adr K) fd) :
    FnOk P w K mg base (L2.CX P w) (k + 3) (d7.adr K) fd p7 (spF K (G K w) p7.length (bodyX N7.length (b7 r))) := by
  refine fn_ok (N := N7) F sc7 fun cdv A outer s H E hr => ?_
  have tk := tk_def (P := P) (w := w) (K := K) (mg := mg) (base := base) (G := G K w) (N := N7) (qual := d7.qual) (scope := d7.scope) (f := d7.adr K) (cdv := cdv) (A := A) (outer := outer) (s := s) (H := H) (E := E)
  have po := po_def (P := P) (w := w) (K := K) (mg := mg) (base := base) (N := N7) (qual := d7.qual) (scope := d7.scope) (f := d7.adr K) (cdv := cdv) (A := A) (outer := outer) (s := s) (H := H) (E := E)
  unfold b7 p_least_trees
  exact (mb_cons (ms_set (i := 2) sc7.nd rfl (by first | exact Or.inl rfl | exact Or.inr rfl) (me_dic0))
    (mb_cons (ms_forR1 po rfl rfl (T.free 17) (ma_cons (me_add (me_fLen rfl (T.free 4) (ma_cons (me_var 1) ma_nil)) (me_int)) ma_nil) (mg_name sc7.nd rfl (by first | exact Or.inl rfl | exact Or.inr rfl)) (mb_one (ms_forK pure_var po rfl (me_var 0) (mg_name sc7.nd rfl (by first | exact Or.inl rfl | exact Or.inr rfl)) (mb_cons (ms_asg (me_ix (hu_of hr) (me_var 0) (me_var 4)) (mg_tup rfl (mgs_cons (mg_name sc7.nd rfl (by first | exact Or.inl rfl | exact Or.inr rfl)) (mgs_cons (mg_name sc7.nd rfl (by first | exact Or.inl rfl | exact Or.inr rfl)) mgs_nil))))
    (mb_one (ms_if (mt_tru (me_fAll rfl rfl (T.free 15) (ma_cons (me_comp (own := [("child", 9)]) rfl sc7.nd (me_var 6) (blk_mk (N := N7) (sc := defScope (top 16)) (by decide +kernel)) (gt_name (by decide)) ⟨fun _ _ _ _ _ => (pg_name sc7.nd (i := 9) rfl (by first | exact Or.inl rfl | exact Or.inr rfl)), fun _ _ _ _ _ => mts_nil, fun _ _ _ _ _ => (me_mc (mc_in (hu_of hr) (me_var 9) (me_var 2)))⟩) ma_nil))) (mb_cons (ms_set (i := 7) sc7.nd rfl (by first | exact Or.inl rfl | exact Or.inr rfl) (me_add (me_int) (me_fSum rfl rfl (T.free 16) (ma_cons (me_comp (own := [("child", 9)]) rfl sc7.nd (me_var 6) (blk_mk (N := N7) (sc := defScope (top 16)) (by decide +kernel)) (gt_name (by decide)) ⟨fun _ _ _ _ _ => (pg_name sc7.nd (i := 9) rfl (by first | exact Or.inl rfl | exact Or.inr rfl)), fun _ _ _ _ _ => mts_nil, fun _ _ _ _ _ => (me_ix (hu_of hr) (me_ix (hu_of hr) (me_var 2) (me_var 9)) (me_int))⟩) ma_nil))))
    (mb_cons (ms_set (i := 8) sc7.nd rfl (by first | exact Or.inl rfl | exact Or.inr rfl) (me_add (me_tup (ma_cons (me_var 4) ma_nil)) (me_fTuple rfl (T.free 7) (ma_cons (me_comp (own := [("child", 9)]) rfl sc7.nd (me_var 6) (blk_mk (N := N7) (sc := defScope (top 16)) (by decide +kernel)) (gt_name (by decide)) ⟨fun _ _ _ _ _ => (pg_name sc7.nd (i := 9) rfl (by first | exact Or.inl rfl | exact Or.inr rfl)), fun _ _ _ _ _ => mts_nil, fun _ _ _ _ _ => (me_ix (hu_of hr) (me_ix (hu_of hr) (me_var 2) (me_var 9)) (me_int))⟩) ma_nil))))
    (mb_one (ms_if (mt_w (mw_or (mt_mc (mc_notIn (hu_of hr) (me_var 5) (me_var 2))) (mw_or1 (mt_mc (mc_ltW hr.units (me_tup (ma_cons (me_var 7) (ma_cons (me_var 8) ma_nil))) (me_ix (hu_of hr) (me_var 2) (me_var 5))))))) (mb_one (ms_put (hu_of hr) (me_var 2) (me_var 5) (me_tup (ma_cons (me_var 7) (ma_cons (me_var 8) ma_nil))))) mb_nil)))) mb_nil))))))
    (mb_one (ms_ret (me_var 2)))))
/-- wrong_path -/
theorem fn8 (T : Tx fs fn K mg) (ih : AllOk P w K mg base (G K w) fn pss k r) {fd : FuncData} (F : FunD K d8.name d8.qual d8.params d8.body d8.scope (d8.dvs K) (d8.kws K) (d8.adr K) fd) :
    FnOk P w K mg base (L2.CX P w) (k + 3) (d8.adr K) fd p8 (spF K (G K w) p8.length (bodyX N8.length (b8 r))) := by
  obtain ⟨fd8, F8, B8, K8, E8⟩ := ih 8 d8 2 p8 rfl rfl
  refine fn_ok (N := N8) F sc8 fun cdv A outer s H E hr => ?_
  have tk := tk_def (P := P) (w := w) (K := K) (mg := mg) (base := base) (G := G K w) (N := N8) (qual := d8.qual) (scope := d8.scope) (f := d8.adr K) (cdv := cdv) (A := A) (outer := outer) (s := s) (H := H) (E := E)
  have po := po_def (P := P) (w := w) (K := K) (mg := mg) (base := base) (N := N8) (qual := d8.qual) (scope := d8.scope) (f := d8.adr K) (cdv := cdv) (A := A) (outer := outer) (s := s) (H := H) (E := E)
  unfold b8 p_wrong_path
  exact (mb_cons (ms_if (mt_w (mw_or (mt_mc (mc_gt (me_var 3) (me_gint rfl (T.int 18).choose_spec))) (mw_or (mt_not (mt_tru (me_isi1 (T := "tuple") (by decide) rfl (T.free 0) rfl (T.free 7) (by decide +kernel) (me_var 1)))) (mw_or1 (mt_mc (mc_eq hr.units (me_fLen rfl (T.free 4) (ma_cons (me_var 1) ma_nil)) (me_int))))))) (mb_one (ms_ret (me_tup ma_nil))) mb_nil)
    (mb_cons (ms_set (i := 4) sc8.nd rfl (by first | exact Or.inl rfl | exact Or.inr rfl) (me_ix (hu_of hr) (me_var 1) (me_int)))
    (mb_cons (ms_if (mt_w (mw_or (mt_not (mt_tru (me_isi1 (T := "str") (by decide) rfl (T.free 0) rfl (T.free 3) (by decide +kernel) (me_var 4)))) (mw_or1 (mt_mc (mc_notIn (hu_of hr) (me_var 4) (me_var 0)))))) (mb_one (ms_ret (me_tup ma_nil))) mb_nil)
    (mb_cons (ms_asg (me_ix (hu_of hr) (me_var 0) (me_var 4)) (mg_tup rfl (mgs_cons (mg_name sc8.nd rfl (by first | exact Or.inl rfl | exact Or.inr rfl)) (mgs_cons (mg_name sc8.nd rfl (by first | exact Or.inl rfl | exact Or.inr rfl)) mgs_nil))))
    (mb_cons (ms_if (mt_w (mw_or (mt_mc (mc_ne hr.units (me_fLen rfl (T.free 4) (ma_cons (me_var 1) ma_nil)) (me_add (me_fLen rfl (T.free 4) (ma_cons (me_var 7) ma_nil)) (me_int)))) (mw_or1 (mt_w (mw_and (mt_mc (mc_notN (me_var 2))) (mw_and1 (mt_mc (mc_ne hr.units (me_var 6) (me_var 2))))))))) (mb_one (ms_ret (me_tup ma_nil))) mb_nil)
    (mb_cons (ms_forR1 po rfl rfl (T.free 17) (ma_cons (me_fLen rfl (T.free 4) (ma_cons (me_var 7) ma_nil)) ma_nil) (mg_name sc8.nd rfl (by first | exact Or.inl rfl | exact Or.inr rfl)) (mb_cons (ms_set (i := 8) sc8.nd rfl (by first | exact Or.inl rfl | exact Or.inr rfl) (me_call F8 hr rfl (T.glo 19) K8 B8 tk (ma_cons (me_var 0) (ma_cons (me_ix (hu_of hr) (me_var 1) (me_add (me_var 5) (me_int))) (ma_cons (me_ix (hu_of hr) (me_var 7) (me_var 5)) (ma_cons (me_add (me_var 3) (me_int)) ma_nil))))))
    (mb_one (ms_if (mt_mc (mc_notN (me_var 8))) (mb_one (ms_ret (me_add (me_tup (ma_cons (me_var 5) ma_nil)) (me_var 8)))) mb_nil))))
    (mb_one (ms_ret (me_non)))))))))
/-- fits_row -/
theorem fn9 (T : Tx fs fn K mg) (ih : AllOk P w K mg base (G K w) fn pss k r) {fd : FuncData} (F : FunD K d9.name d9.qual d9.params d9.body d9.scope (d9.dvs K) (d9.kws K) (d9.adr K) fd) :
    FnOk P w K mg base (L2.CX P w) (k + 3) (d9.adr K) fd p9 (spF K (G K w) p9.length (bodyX N9.length (b9 r))) := by
  obtain ⟨fd1, F1, B1, K1, E1⟩ := ih 1 d1 2 p1 rfl rfl
  refine fn_ok (N := N9) F sc9 fun cdv A outer s H E hr => ?_
  have tk := tk_def (P := P) (w := w) (K := K) (mg := mg) (base := base) (G := G K w) (N := N9) (qual := d9.qual) (scope := d9.scope) (f := d9.adr K) (cdv := cdv) (A := A) (outer := outer) (s := s) (H := H) (E := E)
  have po := po_def (P := P) (w := w) (K := K) (mg := mg) (base := base) (N := N9) (qual := d9.qual) (scope := d9.scope) (f := d9.adr K) (cdv := cdv) (A := A) (outer := outer) (s := s) (H := H) (E := E)
  unfold b9 p_fits_row
  exact (mb_cons (ms_if (mt_w (mw_or (mt_not (mt_tru (me_isi1 (T := "tuple") (by decide) rfl (T.free 0) rfl (T.free 7) (by decide +kernel) (me_var 2)))) (mw_or (mt_mc (mc_eq hr.units (me_fLen rfl (T.free 4) (ma_cons (me_var 2) ma_nil)) (me_int))) (mw_or1 (mt_not (mt_tru (me_isi1 (T := "str") (by decide) rfl (T.free 0) rfl (T.free 3) (by decide +kernel) (me_ix (hu_of hr) (me_var 2) (me_int))))))))) (mb_one (ms_ret (me_bl))) mb_nil)
    (mb_cons (ms_if (mt_mc (mc_notIn (hu_of hr) (me_ix (hu_of hr) (me_var 2) (me_int)) (me_var 0))) (mb_one (ms_ret (me_bl))) mb_nil)
    (mb_cons (ms_set (i := 3) sc9.nd rfl (by first | exact Or.inl rfl | exact Or.inr rfl) (me_ix (hu_of hr) (me_ix (hu_of hr) (me_var 0) (me_ix (hu_of hr) (me_var 2) (me_int))) (me_int)))
    (mb_cons (ms_if (mt_mc (mc_ne hr.units (me_fLen rfl (T.free 4) (ma_cons (me_var 2) ma_nil)) (me_add (me_fLen rfl (T.free 4) (ma_cons (me_var 3) ma_nil)) (me_int)))) (mb_one (ms_ret (me_bl))) mb_nil)
    (mb_cons (ms_forE po rfl rfl (T.free 21) (me_var 3) (mg_tup rfl (mgs_cons (mg_name sc9.nd rfl (by first | exact Or.inl rfl | exact Or.inr rfl)) (mgs_cons (mg_name sc9.nd rfl (by first | exact Or.inl rfl | exact Or.inr rfl)) mgs_nil))) (mb_cons (ms_set (i := 6) sc9.nd rfl (by first | exact Or.inl rfl | exact Or.inr rfl) (me_ix (hu_of hr) (me_var 2) (me_add (me_var 4) (me_int))))
    (mb_one (ms_if (mt_w (mw_or (mt_not (mt_tru (me_call F1 hr rfl (T.glo 20) K1 B1 tk (ma_cons (me_var 6) ma_nil)))) (mw_or (mt_not (mt_mc (mc_ch op_le ok_cInt op_lt ok_cInt (me_int) (me_var 6) (me_fLen rfl (T.free 4) (ma_cons (me_var 1) ma_nil))))) (mw_or1 (mt_mc (mc_ne hr.units (me_ix (hu_of hr) (me_var 1) (me_var 6)) (me_var 5))))))) (mb_one (ms_ret (me_bl))) mb_nil))))
    (mb_one (ms_ret (me_bl))))))))
/-- first_wrong -/
theorem fn10 (T : Tx fs fn K mg) (ih : AllOk P w K mg base (G K w) fn pss k r) {fd : FuncData} (F : FunD K d10.name d10.qual d10.params d10.body d10.scope (d10.dvs K) (d10.kws K) (d10.adr K) fd) :
    FnOk P w K mg base (L2.CX P w) (k + 3) (d10.adr K) fd p10 (spF K (G K w) p10.length (bodyX N10.length (b10 r))) := by
  obtain ⟨fd3, F3, B3, K3, E3⟩ := ih 3 d3 2 p3 rfl rfl
  obtain ⟨fd9, F9, B9, K9, E9⟩ := ih 9 d9 2 p9 rfl rfl
  refine fn_ok (N := N10) F sc10 fun cdv A outer s H E hr => ?_
  have tk := tk_def (P := P) (w := w) (K := K) (mg := mg) (base := base) (G := G K w) (N := N10) (qual := d10.qual) (scope := d10.scope) (f := d10.adr K) (cdv := cdv) (A := A) (outer := outer) (s := s) (H := H) (E := E)
  have po := po_def (P := P) (w := w) (K := K) (mg := mg) (base := base) (N := N10) (qual := d10.qual) (scope := d10.scope) (f := d10.adr K) (cdv := cdv) (A := A) (outer := outer) (s := s) (H := H) (E := E)
  unfold b10 p_first_wrong
  exact (mb_cons (ms_if (mt_w (mw_or (mt_not (mt_tru (me_call F3 hr rfl (T.glo 8) K3 B3 tk (ma_cons (me_var 1) ma_nil)))) (mw_or1 (mt_not (mt_mc (mc_ch op_le ok_cInt op_le ok_cInt (me_int) (me_fLen rfl (T.free 4) (ma_cons (me_var 1) ma_nil)) (me_gint rfl (T.int 22).choose_spec))))))) (mb_one (ms_ret (me_neg (me_int)))) mb_nil)
    (mb_cons (ms_set (i := 2) sc10.nd rfl (by first | exact Or.inl rfl | exact Or.inr rfl) (me_fld (List.forall_mem_cons.mpr ⟨⟨He.cls_ok (T.at_ 23), He.noat_ok (T.at_ 24)⟩, (fun c h => nomatch h)⟩) (me_var 0)))
    (mb_cons (ms_set (i := 3) sc10.nd rfl (by first | exact Or.inl rfl | exact Or.inr rfl) (me_lst ma_nil))
    (mb_cons (ms_forE po rfl rfl (T.free 21) (me_var 1) (mg_tup rfl (mgs_cons (mg_name sc10.nd rfl (by first | exact Or.inl rfl | exact Or.inr rfl)) (mgs_cons (mg_name sc10.nd rfl (by first | exact Or.inl rfl | exact Or.inr rfl)) mgs_nil))) (mb_cons (ms_if (mt_not (mt_tru (me_call F9 hr rfl (T.glo 25) K9 B9 tk (ma_cons (me_var 2) (ma_cons (me_var 3) (ma_cons (me_var 5) ma_nil)))))) (mb_one (ms_ret (me_var 4))) mb_nil)
    (mb_one (ms_expr (me_app (args := default) (me_var 3) (me_ix (hu_of hr) (me_ix (hu_of hr) (me_var 2) (me_ix (hu_of hr) (me_var 5) (me_int))) (me_int)))))))
    (mb_one (ms_ret (me_non)))))))
/-- is_folded -/
theorem fn11 (T : Tx fs fn K mg) (ih : AllOk P w K mg base (G K w) fn pss k r) {fd : FuncData} (F : FunD K d11.name d11.qual d11.params d11.body d11.scope (d11.dvs K) (d11.kws K) (d11.adr K) fd) :
    FnOk P w K mg base (L2.CX P w) (k + 3) (d11.adr K) fd p11 (spF K (G K w) p11.length (bodyX N11.length (b11 r))) := by
  obtain ⟨fd10, F10, B10, K10, E10⟩ := ih 10 d10 2 p10 rfl rfl
  refine fn_ok (N := N11) F sc11 fun cdv A outer s H E hr => ?_
  have tk := tk_def (P := P) (w := w) (K := K) (mg := mg) (base := base) (G := G K w) (N := N11) (qual := d11.qual) (scope := d11.scope) (f := d11.adr K) (cdv := cdv) (A := A) (outer := outer) (s := s) (H := H) (E := E)
  have po := po_def (P := P) (w := w) (K := K) (mg := mg) (base := base) (N := N11) (qual := d11.qual) (scope := d11.scope) (f := d11.adr K) (cdv := cdv) (A := A) (outer := outer) (s := s) (H := H) (E := E)
  unfold b11 p_is_folded
  exact (mb_one (ms_ret (me_mc (mc_isN (me_call F10 hr rfl (T.glo 26) K10 B10 tk (ma_cons (me_var 0) (ma_cons (me_var 1) ma_nil)))))))
/-- unfolded -/
theorem fn12 (T : Tx fs fn K mg) (ih : AllOk P w K mg base (G K w) fn pss k r) {fd : FuncData} (F : FunD K d12.name d12.qual d12.params d12.body d12.scope (d12.dvs K) (d12.kws K) (d12.adr K) fd) :
    FnOk P w K mg base (L2.CX P w) (k + 3) (d12.adr K) fd p12 (spF K (G K w) p12.length (bodyX N12.length (b12 r))) := by
  obtain ⟨fd10, F10, B10, K10, E10⟩ := ih 10 d10 2 p10 rfl rfl
  obtain ⟨fdX1, X1, BX1⟩ := xi1 (P := P) (w := w) (base := base) (k := k) T
  obtain ⟨fdX2, X2, BX2⟩ := xi2 (P := P) (w := w) (base := base) (k := k) T
  refine fn_ok (N := N12) F sc12 fun cdv A outer s H E hr => ?_
  have tk := tk_def (P := P) (w := w) (K := K) (mg := mg) (base := base) (G := G K w) (N := N12) (qual := d12.qual) (scope := d12.scope) (f := d12.adr K) (cdv := cdv) (A := A) (outer := outer) (s := s) (H := H) (E := E)
  have po := po_def (P := P) (w := w) (K := K) (mg := mg) (base := base) (N := N12) (qual := d12.qual) (scope := d12.scope) (f := d12.adr K) (cdv := cdv) (A := A) (outer := outer) (s := s) (H := H) (E := E)
  unfold b12 p_unfolded
  exact (mb_cons (ms_set (i := 2) sc12.nd rfl (by first | exact Or.inl rfl | exact Or.inr rfl) (me_call F10 hr rfl (T.glo 26) K10 B10 tk (ma_cons (me_var 0) (ma_cons (me_var 1) ma_nil))))
    (mb_cons (ms_if (mt_mc (mc_notN (me_var 2))) (mb_one (ms_raise (c := 1) rfl rfl (fXc_ok (T.at_ 27)) k X1 hr BX1 tk rfl (T.glo 28) (me_var 2))) mb_nil)
    (mb_cons (ms_set (i := 3) sc12.nd rfl (by first | exact Or.inl rfl | exact Or.inr rfl) (me_lst ma_nil))
    (mb_cons (ms_set (i := 4) sc12.nd rfl (by first | exact Or.inl rfl | exact Or.inr rfl) (me_lst ma_nil))
    (mb_cons (ms_set (i := 5) sc12.nd rfl (by first | exact Or.inl rfl | exact Or.inr rfl) (me_lst ma_nil))
    (mb_cons (ms_for po rfl (me_var 1) (mg_name sc12.nd rfl (by first | exact Or.inl rfl | exact Or.inr rfl)) (mb_cons (ms_expr (me_app (args := default) (me_var 3) (me_fMin2 rfl rfl (T.free 30) (ma_cons (me_add (me_gint rfl (T.int 29).choose_spec) (me_int)) (ma_cons (me_add (me_int) (me_fSum rfl rfl (T.free 16) (ma_cons (me_comp (own := [("number", 7)]) rfl sc12.nd (me_sl (me_var 6) (mo_yes (me_int)) mo_no) (blk_mk (N := N12) (sc := defScope (top 25)) (by decide +kernel)) (gt_name (by decide)) ⟨fun _ _ _ _ _ => (pg_name sc12.nd (i := 7) rfl (by first | exact Or.inl rfl | exact Or.inr rfl)), fun _ _ _ _ _ => mts_nil, fun _ _ _ _ _ => (me_ix (hu_of hr) (me_var 3) (me_var 7))⟩) ma_nil))) ma_nil)))))
    (mb_cons (ms_expr (me_app (args := default) (me_var 4) (me_add (me_int) (me_maxD rfl rfl (T.free 31) (ma_cons (me_comp (own := [("number", 7)]) rfl sc12.nd (me_sl (me_var 6) (mo_yes (me_int)) mo_no) (blk_mk (N := N12) (sc := defScope (top 25)) (by decide +kernel)) (gt_name (by decide)) ⟨fun _ _ _ _ _ => (pg_name sc12.nd (i := 7) rfl (by first | exact Or.inl rfl | exact Or.inr rfl)), fun _ _ _ _ _ => mts_nil, fun _ _ _ _ _ => (me_ix (hu_of hr) (me_var 4) (me_var 7))⟩) ma_nil) (mk_cons (me_int) mk_nil)))))
    (mb_one (ms_if (mt_mc (mc_gt (me_ix (hu_of hr) (me_var 4) (me_neg (me_int))) (me_gint rfl (T.int 18).choose_spec))) (mb_one (ms_expr (me_app (args := default) (me_var 5) (me_non)))) (mb_one (ms_expr (me_app (args := default) (me_var 5) (me_add (me_tup (ma_cons (me_ix (hu_of hr) (me_var 6) (me_int)) ma_nil)) (me_fTuple rfl (T.free 7) (ma_cons (me_comp (own := [("number", 7)]) rfl sc12.nd (me_sl (me_var 6) (mo_yes (me_int)) mo_no) (blk_mk (N := N12) (sc := defScope (top 25)) (by decide +kernel)) (gt_name (by decide)) ⟨fun _ _ _ _ _ => (pg_name sc12.nd (i := 7) rfl (by first | exact Or.inl rfl | exact Or.inr rfl)), fun _ _ _ _ _ => mts_nil, fun _ _ _ _ _ => (me_ix (hu_of hr) (me_var 5) (me_var 7))⟩) ma_nil)))))))))))
    (mb_cons (ms_if (mt_mc (mc_gt (me_ix (hu_of hr) (me_var 3) (me_neg (me_int))) (me_gint rfl (T.int 29).choose_spec))) (mb_one (ms_raise (c := 2) rfl rfl (fXc_ok (T.at_ 32)) k X2 hr BX2 tk rfl (T.glo 33) (me_gint rfl (T.int 29).choose_spec))) mb_nil)
    (mb_cons (ms_if (mt_mc (mc_gt (me_ix (hu_of hr) (me_var 4) (me_neg (me_int))) (me_gint rfl (T.int 18).choose_spec))) (mb_one (ms_raise (c := 2) rfl rfl (fXc_ok (T.at_ 32)) k X2 hr BX2 tk rfl (T.glo 33) (me_gint rfl (T.int 18).choose_spec))) mb_nil)
    (mb_one (ms_ret (me_ix (hu_of hr) (me_var 5) (me_neg (me_int)))))))))))))
/-- _law_bag -/
theorem fn13 (T : Tx fs fn K mg) (ih : AllOk P w K mg base (G K w) fn pss k r) {fd : FuncData} (F : FunD K d13.name d13.qual d13.params d13.body d13.scope (d13.dvs K) (d13.kws K) (d13.adr K) fd) :
    FnOk P w K mg base (L2.CX P w) (k + 3) (d13.adr K) fd p13 (spF K (G K w) p13.length (bodyX N13.length (b13 r))) := by
  refine fn_ok (N := N13) F sc13 fun cdv A outer s H E hr => ?_
  have tk := tk_def (P := P) (w := w) (K := K) (mg := mg) (base := base) (G := G K w) (N := N13) (qual := d13.qual) (scope := d13.scope) (f := d13.adr K) (cdv := cdv) (A := A) (outer := outer) (s := s) (H := H) (E := E)
  have po := po_def (P := P) (w := w) (K := K) (mg := mg) (base := base) (N := N13) (qual := d13.qual) (scope := d13.scope) (f := d13.adr K) (cdv := cdv) (A := A) (outer := outer) (s := s) (H := H) (E := E)
  unfold b13 q_bag
  exact (mb_cons (ms_set (i := 1) sc13.nd rfl (by first | exact Or.inl rfl | exact Or.inr rfl) (me_int))
    (mb_cons (ms_for po rfl (me_sl (me_var 0) mo_no (mo_yes (me_int))) (mg_name sc13.nd rfl (by first | exact Or.inl rfl | exact Or.inr rfl)) (mb_one (ms_set (i := 1) sc13.nd rfl (by first | exact Or.inl rfl | exact Or.inr rfl) (me_mod (me_fInt rfl (T.free 1) (ma_cons (me_add (me_add (me_mul (me_var 1) (me_int)) (me_mod (me_fInt rfl (T.free 1) (ma_cons (me_var 2) ma_nil)) (me_int))) (me_int)) ma_nil)) (me_int)))))
    (mb_one (ms_ret (me_lst (ma_cons (me_comp (own := [("_law_cell", 2)]) rfl sc13.nd (me_sl (me_var 0) mo_no (mo_yes (me_int))) (blk_mk (N := N13) (sc := defScope (top 27)) (by decide +kernel)) (gt_name (by decide)) ⟨fun _ _ _ _ _ => (pg_name sc13.nd (i := 2) rfl (by first | exact Or.inl rfl | exact Or.inr rfl)), fun _ _ _ _ _ => mts_nil, fun _ _ _ _ _ => (me_fInt rfl (T.free 1) (ma_cons (me_var 2) ma_nil))⟩) (ma_cons (me_int) (ma_cons (me_int) (ma_cons (me_int) (ma_cons (me_var 1) ma_nil))))))))))
/-- _law_mixed -/
theorem fn14 (T : Tx fs fn K mg) (ih : AllOk P w K mg base (G K w) fn pss k r) {fd : FuncData} (F : FunD K d14.name d14.qual d14.params d14.body d14.scope (d14.dvs K) (d14.kws K) (d14.adr K) fd) :
    FnOk P w K mg base (L2.CX P w) (k + 3) (d14.adr K) fd p14 (spF K (G K w) p14.length (bodyX N14.length (b14 r))) := by
  refine fn_ok (N := N14) F sc14 fun cdv A outer s H E hr => ?_
  have tk := tk_def (P := P) (w := w) (K := K) (mg := mg) (base := base) (G := G K w) (N := N14) (qual := d14.qual) (scope := d14.scope) (f := d14.adr K) (cdv := cdv) (A := A) (outer := outer) (s := s) (H := H) (E := E)
  have po := po_def (P := P) (w := w) (K := K) (mg := mg) (base := base) (N := N14) (qual := d14.qual) (scope := d14.scope) (f := d14.adr K) (cdv := cdv) (A := A) (outer := outer) (s := s) (H := H) (E := E)
  unfold b14 q_mixed
  exact (mb_cons (ms_set (i := 2) sc14.nd rfl (by first | exact Or.inl rfl | exact Or.inr rfl) (me_mod (me_fInt rfl (T.free 1) (ma_cons (me_mul (me_add (me_add (me_mod (me_fInt rfl (T.free 1) (ma_cons (me_var 0) ma_nil)) (me_int)) (me_mul (me_int) (me_var 1))) (me_int)) (me_int)) ma_nil)) (me_int)))
    (mb_cons (ms_set (i := 3) sc14.nd rfl (by first | exact Or.inl rfl | exact Or.inr rfl) (me_mod (me_fInt rfl (T.free 1) (ma_cons (me_mul (me_var 2) (me_add (me_div (me_var 2) (me_int)) (me_int))) ma_nil)) (me_int)))
    (mb_cons (ms_set (i := 4) sc14.nd rfl (by first | exact Or.inl rfl | exact Or.inr rfl) (me_mod (me_fInt rfl (T.free 1) (ma_cons (me_mul (me_var 3) (me_add (me_div (me_var 3) (me_int)) (me_int))) ma_nil)) (me_int)))
    (mb_one (ms_ret (me_div (me_var 4) (me_int)))))))
/-- _law_draw -/
theorem fn15 (T : Tx fs fn K mg) (ih : AllOk P w K mg base (G K w) fn pss k r) {fd : FuncData} (F : FunD K d15.name d15.qual d15.params d15.body d15.scope (d15.dvs K) (d15.kws K) (d15.adr K) fd) :
    FnOk P w K mg base (L2.CX P w) (k + 3) (d15.adr K) fd p15 (spF K (G K w) p15.length (bodyX N15.length (b15 r))) := by
  obtain ⟨fd14, F14, B14, K14, E14⟩ := ih 14 d14 2 p14 rfl rfl
  refine fn_ok (N := N15) F sc15 fun cdv A outer s H E hr => ?_
  have tk := tk_def (P := P) (w := w) (K := K) (mg := mg) (base := base) (G := G K w) (N := N15) (qual := d15.qual) (scope := d15.scope) (f := d15.adr K) (cdv := cdv) (A := A) (outer := outer) (s := s) (H := H) (E := E)
  have po := po_def (P := P) (w := w) (K := K) (mg := mg) (base := base) (N := N15) (qual := d15.qual) (scope := d15.scope) (f := d15.adr K) (cdv := cdv) (A := A) (outer := outer) (s := s) (H := H) (E := E)
  unfold b15 q_draw
  exact (mb_cons (ms_put (hu_of hr) (me_var 0) (me_int) (me_add (me_ix (hu_of hr) (me_var 0) (me_int)) (me_int)))
    (mb_cons (ms_if (mt_mc (mc_eq hr.units (me_ix (hu_of hr) (me_var 0) (me_int)) (me_int))) (mb_cons (ms_if (mt_mc (mc_ge (me_ix (hu_of hr) (me_var 0) (me_int)) (me_fLen rfl (T.free 4) (ma_cons (me_ix (hu_of hr) (me_var 0) (me_int)) ma_nil)))) (mb_one (ms_ret (me_mod (me_fInt rfl (T.free 1) (ma_cons (me_call F14 hr rfl (T.glo 34) K14 B14 tk (ma_cons (me_ix (hu_of hr) (me_var 0) (me_int)) (ma_cons (me_ix (hu_of hr) (me_var 0) (me_int)) ma_nil))) ma_nil)) (me_var 1)))) mb_nil)
    (mb_cons (ms_set (i := 3) sc15.nd rfl (by first | exact Or.inl rfl | exact Or.inr rfl) (me_ix (hu_of hr) (me_ix (hu_of hr) (me_var 0) (me_int)) (me_ix (hu_of hr) (me_var 0) (me_int))))
    (mb_cons (ms_put (hu_of hr) (me_var 0) (me_int) (me_add (me_ix (hu_of hr) (me_var 0) (me_int)) (me_int)))
    (mb_cons (ms_if (mt_mc (mc_lt (me_var 3) (me_pow (me_int) (me_int)))) (mb_one (ms_ret (me_mod (me_fInt rfl (T.free 1) (ma_cons (me_call F14 hr rfl (T.glo 34) K14 B14 tk (ma_cons (me_var 3) (ma_cons (me_ix (hu_of hr) (me_var 0) (me_int)) ma_nil))) ma_nil)) (me_var 1)))) mb_nil)
    (mb_one (ms_put (hu_of hr) (me_var 0) (me_int) (me_var 3))))))) mb_nil)
    (mb_cons (ms_set (i := 2) sc15.nd rfl (by first | exact Or.inl rfl | exact Or.inr rfl) (me_mod (me_fInt rfl (T.free 1) (ma_cons (me_ix (hu_of hr) (me_var 0) (me_int)) ma_nil)) (me_var 1)))
    (mb_cons (ms_put (hu_of hr) (me_var 0) (me_int) (me_div (me_ix (hu_of hr) (me_var 0) (me_int)) (me_var 1)))
    (mb_one (ms_ret (me_var 2)))))))
/-- _law_name -/
theorem fn16 (T : Tx fs fn K mg) (ih : AllOk P w K mg base (G K w) fn pss k r) {fd : FuncData} (F : FunD K d16.name d16.qual d16.params d16.body d16.scope (d16.dvs K) (d16.kws K) (d16.adr K) fd) :
    FnOk P w K mg base (L2.CX P w) (k + 3) (d16.adr K) fd p16 (spF K (G K w) p16.length (bodyX N16.length (b16 r))) := by
  obtain ⟨fd15, F15, B15, K15, E15⟩ := ih 15 d15 2 p15 rfl rfl
  refine fn_ok (N := N16) F sc16 fun cdv A outer s H E hr => ?_
  have tk := tk_def (P := P) (w := w) (K := K) (mg := mg) (base := base) (G := G K w) (N := N16) (qual := d16.qual) (scope := d16.scope) (f := d16.adr K) (cdv := cdv) (A := A) (outer := outer) (s := s) (H := H) (E := E)
  have po := po_def (P := P) (w := w) (K := K) (mg := mg) (base := base) (N := N16) (qual := d16.qual) (scope := d16.scope) (f := d16.adr K) (cdv := cdv) (A := A) (outer := outer) (s := s) (H := H) (E := E)
  unfold b16 q_name
  exact (mb_cons (ms_set (i := 2) sc16.nd rfl (by first | exact Or.inl rfl | exact Or.inr rfl) (me_str))
    (mb_cons (ms_set (i := 3) sc16.nd rfl (by first | exact Or.inl rfl | exact Or.inr rfl) (me_ix (hu_of hr) (me_lst (ma_cons (me_int) (ma_cons (me_int) (ma_cons (me_int) (ma_cons (me_int) (ma_cons (me_int) (ma_cons (me_int) (ma_cons (me_int) (ma_cons (me_int) ma_nil))))))))) (me_call F15 hr rfl (T.glo 35) K15 B15 tk (ma_cons (me_var 0) (ma_cons (me_int) ma_nil)))))
    (mb_cons (ms_set (i := 4) sc16.nd rfl (by first | exact Or.inl rfl | exact Or.inr rfl) (me_join (me_str) (me_compR1 (own := [("_law_k", 6)]) rfl sc16.nd rfl (T.free 17) (ma_cons (me_var 3) ma_nil) (blk_mk (N := N16) (sc := defScope (top 30)) (by decide +kernel)) (gt_name (by decide)) ⟨fun _ _ _ _ _ => (pg_name sc16.nd (i := 6) rfl (by first | exact Or.inl rfl | exact Or.inr rfl)), fun _ _ _ _ _ => mts_nil, fun _ _ _ _ _ => (me_ix (hu_of hr) (me_var 2) (me_call F15 hr rfl (T.glo 35) K15 B15 tk_quiet (ma_cons (me_var 0) (ma_cons (me_int) ma_nil))))⟩)))
    (mb_cons (ms_if (mt_mc (mc_notIn (hu_of hr) (me_var 4) (me_var 1))) (mb_one (ms_ret (me_var 4))) mb_nil)
    (mb_cons (ms_for po rfl (me_var 2) (mg_name sc16.nd rfl (by first | exact Or.inl rfl | exact Or.inr rfl)) (mb_one (ms_if (mt_mc (mc_notIn (hu_of hr) (me_add (me_sl (me_var 4) mo_no (mo_yes (me_int))) (me_var 5)) (me_var 1))) (mb_one (ms_ret (me_add (me_sl (me_var 4) mo_no (mo_yes (me_int))) (me_var 5)))) mb_nil)))
    (mb_one (ms_ret (me_var 4))))))))
/-- _law_steps_to -/
theorem fn17 (T : Tx fs fn K mg) (ih : AllOk P w K mg base (G K w) fn pss k r) {fd : FuncData} (F : FunD K d17.name d17.qual d17.params d17.body d17.scope (d17.dvs K) (d17.kws K) (d17.adr K) fd) :
    FnOk P w K mg base (L2.CX P w) (k + 3) (d17.adr K) fd p17 (spF K (G K w) p17.length (bodyX N17.length (b17 r))) := by
  refine fn_ok (N := N17) F sc17 fun cdv A outer s H E hr => ?_
  have tk := tk_def (P := P) (w := w) (K := K) (mg := mg) (base := base) (G := G K w) (N := N17) (qual := d17.qual) (scope := d17.scope) (f := d17.adr K) (cdv := cdv) (A := A) (outer := outer) (s := s) (H := H) (E := E)
  have po := po_def (P := P) (w := w) (K := K) (mg := mg) (base := base) (N := N17) (qual := d17.qual) (scope := d17.scope) (f := d17.adr K) (cdv := cdv) (A := A) (outer := outer) (s := s) (H := H) (E := E)
  unfold b17 q_steps_to
  exact (mb_cons (ms_set (i := 1) sc17.nd rfl (by first | exact Or.inl rfl | exact Or.inr rfl) (me_lst ma_nil))
    (mb_cons (ms_forR1 po rfl rfl (T.free 17) (ma_cons (me_int) ma_nil) (mg_name sc17.nd rfl (by first | exact Or.inl rfl | exact Or.inr rfl)) (mb_one (ms_if (mt_w (mw_and (mt_mc (mc_gt (me_var 0) (me_int))) (mw_and1 (mt_mc (mc_eq hr.units (me_mod (me_var 0) (me_int)) (me_int)))))) (mb_cons (ms_expr (me_app (args := default) (me_var 1) (me_int)))
    (mb_one (ms_set (i := 0) sc17.nd rfl (by first | exact Or.inl rfl | exact Or.inr rfl) (me_div (me_var 0) (me_int))))) (mb_one (ms_if (mt_mc (mc_gt (me_var 0) (me_int))) (mb_cons (ms_expr (me_app (args := default) (me_var 1) (me_int)))
    (mb_one (ms_set (i := 0) sc17.nd rfl (by first | exact Or.inl rfl | exact Or.inr rfl) (me_sub (me_var 0) (me_int))))) mb_nil)))))
    (mb_one (ms_ret (me_compR1 (own := [("_law_at", 3)]) rfl sc17.nd rfl (T.free 17) (ma_cons (me_fLen rfl (T.free 4) (ma_cons (me_var 1) ma_nil)) ma_nil) (blk_mk (N := N17) (sc := defScope (top 31)) (by decide +kernel)) (gt_name (by decide)) ⟨fun _ _ _ _ _ => (pg_name sc17.nd (i := 3) rfl (by first | exact Or.inl rfl | exact Or.inr rfl)), fun _ _ _ _ _ => mts_nil, fun _ _ _ _ _ => (me_ix (hu_of hr) (me_var 1) (me_sub (me_sub (me_fLen rfl (T.free 4) (ma_cons (me_var 1) ma_nil)) (me_int)) (me_var 3)))⟩)))))
/-- law -/
theorem fn18 (T : Tx fs fn K mg) (ih : AllOk P w K mg base (G K w) fn pss k r) {fd : FuncData} (F : FunD K d18.name d18.qual d18.params d18.body d18.scope (d18.dvs K) (d18.kws K) (d18.adr K) fd) :
    FnOk P w K mg base (L2.CX P w) (k + 3) (d18.adr K) fd p18 (spF K (G K w) p18.length (bodyX N18.length (b18 r))) := by
  obtain ⟨fd13, F13, B13, K13, E13⟩ := ih 13 d13 2 p13 rfl rfl
  obtain ⟨fd16, F16, B16, K16, E16⟩ := ih 16 d16 2 p16 rfl rfl
  obtain ⟨fd30, F30, B30, K30, E30⟩ := ih 30 d19 1 p19 rfl rfl
  obtain ⟨fd15, F15, B15, K15, E15⟩ := ih 15 d15 2 p15 rfl rfl
  obtain ⟨fd17, F17, B17, K17, E17⟩ := ih 17 d17 2 p17 rfl rfl
  obtain ⟨fd11, F11, B11, K11, E11⟩ := ih 11 d11 2 p11 rfl rfl
  obtain ⟨fd12, F12, B12, K12, E12⟩ := ih 12 d12 2 p12 rfl rfl
  refine fn_ok (N := N18) F sc18 fun cdv A outer s H E hr => ?_
  have tk := tk_def (P := P) (w := w) (K := K) (mg := mg) (base := base) (G := G K w) (N := N18) (qual := d18.qual) (scope := d18.scope) (f := d18.adr K) (cdv := cdv) (A := A) (outer := outer) (s := s) (H := H) (E := E)
  have po := po_def (P := P) (w := w) (K := K) (mg := mg) (base := base) (N := N18) (qual := d18.qual) (scope := d18.scope) (f := d18.adr K) (cdv := cdv) (A := A) (outer := outer) (s := s) (H := H) (E := E)
  unfold b18 q_law_k53
  exact (mb_cons (ms_set (i := 1) sc18.nd rfl (by first | exact Or.inl rfl | exact Or.inr rfl) (me_call F13 hr rfl (T.glo 36) K13 B13 tk (ma_cons (me_var 0) ma_nil)))
    (mb_cons (ms_set (i := 2) sc18.nd rfl (by first | exact Or.inl rfl | exact Or.inr rfl) (me_lst ma_nil))
    (mb_cons (ms_forR1 po rfl rfl (T.free 17) (ma_cons (me_int) ma_nil) (mg_name sc18.nd rfl (by first | exact Or.inl rfl | exact Or.inr rfl)) (mb_one (ms_expr (me_app (args := default) (me_var 2) (me_call F16 hr rfl (T.glo 37) K16 B16 tk (ma_cons (me_var 1) (ma_cons (me_var 2) ma_nil)))))))
    (mb_cons (ms_set (i := 4) sc18.nd rfl (by first | exact Or.inl rfl | exact Or.inr rfl) (me_call F16 hr rfl (T.glo 37) K16 B16 tk (ma_cons (me_var 1) (ma_cons (me_lst ma_nil) ma_nil))))
    (mb_cons (ms_set (i := 5) sc18.nd rfl (by first | exact Or.inl rfl | exact Or.inr rfl) (me_disp (mp_cons (me_ix (hu_of hr) (me_var 2) (me_int)) (me_tup (ma_cons (me_var 4) (ma_cons (me_tup ma_nil) ma_nil))) (mp_cons (me_ix (hu_of hr) (me_var 2) (me_int)) (me_tup (ma_cons (me_var 4) (ma_cons (me_tup (ma_cons (me_var 4) ma_nil)) ma_nil))) (mp_cons (me_ix (hu_of hr) (me_var 2) (me_int)) (me_tup (ma_cons (me_var 4) (ma_cons (me_tup (ma_cons (me_var 4) (ma_cons (me_var 4) ma_nil))) ma_nil))) mp_nil)))))
    (mb_cons (ms_set (i := 6) sc18.nd rfl (by first | exact Or.inl rfl | exact Or.inr rfl) (me_make (c := 3) (He.mkr_ok (T.at_ 38)) F30 hr rfl (T.glo 39) B30 tk (ma_cons (me_var 5) (ma_cons (me_var 4) ma_nil))))
    (mb_cons (ms_if (mt_mc (mc_eq hr.units (me_call F15 hr rfl (T.glo 35) K15 B15 tk (ma_cons (me_var 1) (ma_cons (me_int) ma_nil))) (me_int))) (mb_one (ms_set (i := 15) sc18.nd rfl (by first | exact Or.inl rfl | exact Or.inr rfl) (me_call F17 hr rfl (T.glo 40) K17 B17 tk (ma_cons (me_add (me_int) (me_call F15 hr rfl (T.glo 35) K15 B15 tk (ma_cons (me_var 1) (ma_cons (me_int) ma_nil)))) ma_nil)))) (mb_cons (ms_set (i := 15) sc18.nd rfl (by first | exact Or.inl rfl | exact Or.inr rfl) (me_mulL (me_lst (ma_cons (me_int) ma_nil)) (me_call F15 hr rfl (T.glo 35) K15 B15 tk (ma_cons (me_var 1) (ma_cons (me_int) ma_nil)))))
    (mb_cons (ms_set (i := 16) sc18.nd rfl (by first | exact Or.inl rfl | exact Or.inr rfl) (me_call F15 hr rfl (T.glo 35) K15 B15 tk (ma_cons (me_var 1) (ma_cons (me_int) ma_nil))))
    (mb_one (ms_forR1 po rfl rfl (T.free 17) (ma_cons (me_add (me_ix (hu_of hr) (me_lst (ma_cons (me_int) (ma_cons (me_int) (ma_cons (me_int) ma_nil)))) (me_var 16)) (me_call F15 hr rfl (T.glo 35) K15 B15 tk (ma_cons (me_var 1) (ma_cons (me_ix (hu_of hr) (me_lst (ma_cons (me_int) (ma_cons (me_int) (ma_cons (me_int) ma_nil)))) (me_var 16)) ma_nil)))) ma_nil) (mg_name sc18.nd rfl (by first | exact Or.inl rfl | exact Or.inr rfl)) (mb_one (ms_expr (me_app (args := default) (me_var 15) (me_ix (hu_of hr) (me_lst (ma_cons (me_int) (ma_cons (me_int) (ma_cons (me_int) (ma_cons (me_int) ma_nil))))) (me_call F15 hr rfl (T.glo 35) K15 B15 tk (ma_cons (me_var 1) (ma_cons (me_int) ma_nil))))))))))))
    (mb_cons (ms_set (i := 7) sc18.nd rfl (by first | exact Or.inl rfl | exact Or.inr rfl) (me_lst (ma_cons (me_tup (ma_cons (me_ix (hu_of hr) (me_var 2) (me_int)) ma_nil)) ma_nil)))
    (mb_cons (ms_set (i := 8) sc18.nd rfl (by first | exact Or.inl rfl | exact Or.inr rfl) (me_lst (ma_cons (me_int) ma_nil)))
    (mb_cons (ms_set (i := 9) sc18.nd rfl (by first | exact Or.inl rfl | exact Or.inr rfl) (me_int))
    (mb_cons (ms_for po rfl (me_var 15) (mg_name sc18.nd rfl (by first | exact Or.inl rfl | exact Or.inr rfl)) (mb_cons (ms_set (i := 17) sc18.nd rfl (by first | exact Or.inl rfl | exact Or.inr rfl) (me_sub (me_fLen rfl (T.free 4) (ma_cons (me_var 7) ma_nil)) (me_int)))
    (mb_cons (ms_expr (me_app (args := default) (me_var 7) (me_ix (hu_of hr) (me_lst (ma_cons (me_tup (ma_cons (me_ix (hu_of hr) (me_var 2) (me_int)) (ma_cons (me_var 17) ma_nil))) (ma_cons (me_tup (ma_cons (me_ix (hu_of hr) (me_var 2) (me_int)) (ma_cons (me_var 17) (ma_cons (me_var 17) ma_nil)))) (ma_cons (me_tup (ma_cons (me_ix (hu_of hr) (me_var 2) (me_int)) (ma_cons (me_int) (ma_cons (me_var 17) ma_nil)))) (ma_cons (me_tup (ma_cons (me_ix (hu_of hr) (me_var 2) (me_int)) (ma_cons (me_var 17) (ma_cons (me_int) ma_nil)))) ma_nil))))) (me_sub (me_var 10) (me_int)))))
    (mb_cons (ms_expr (me_app (args := default) (me_var 8) (me_ix (hu_of hr) (me_lst (ma_cons (me_add (me_ix (hu_of hr) (me_var 8) (me_var 17)) (me_int)) (ma_cons (me_add (me_mul (me_int) (me_ix (hu_of hr) (me_var 8) (me_var 17))) (me_int)) (ma_cons (me_add (me_ix (hu_of hr) (me_var 8) (me_var 17)) (me_int)) (ma_cons (me_add (me_ix (hu_of hr) (me_var 8) (me_var 17)) (me_int)) ma_nil))))) (me_sub (me_var 10) (me_int)))))
    (mb_one (ms_set (i := 9) sc18.nd rfl (by first | exact Or.inl rfl | exact Or.inr rfl) (me_add (me_var 9) (me_int))))))))
    (mb_cons (ms_if (mt_mc (mc_notB (me_call F11 hr rfl (T.glo 41) K11 B11 tk (ma_cons (me_var 6) (ma_cons (me_var 7) ma_nil))) (me_bl))) (mb_one (ms_ret (me_bl))) mb_nil)
    (mb_cons (ms_set (i := 11) sc18.nd rfl (by first | exact Or.inl rfl | exact Or.inr rfl) (me_tup (ma_cons (me_str) ma_nil)))
    (mb_cons (ms_try (n := 3) sc18.nd rfl rfl tk (fun W pn xe tk1 po1 => (mb_one (ms_set (i := 11) sc18.nd rfl (by first | exact Or.inl rfl | exact Or.inr rfl) (me_tup (ma_cons (me_str) (ma_cons (me_call F12 hr rfl (T.glo 42) K12 B12 tk1 (ma_cons (me_var 6) (ma_cons (me_var 7) ma_nil))) ma_nil))))))
      (HsOk.cons (fun c hc => of_decide_eq_true (fAll_ok (T.at_ 46) hc)) HsOk.nil)
      (HdOk.as ⟨rfl, by decide, .inl (T.glo 33)⟩ (i := 12) rfl rfl (fun a oe cls d pn hz hf => su_of fun c p => (msu_set (j := 11) (fun q e => by cases e; exact (by decide : (12 : Nat) ≠ 11)) sc18.nd rfl (by first | exact Or.inl rfl | exact Or.inr rfl) (me_tup (ma_cons (me_str) (ma_cons (me_xf (cs := [2]) (List.forall_mem_singleton.mpr ⟨excX (excB_ok (fAll_ok (T.at_ 43) (c := 2) (by decide))), (fXc_ok (T.at_ 32)).no, rfl⟩) hz hf rfl (by first | exact Or.inl rfl | exact Or.inr rfl)) (ma_cons (me_xi (cs := List.range 3) (i := 12) (fun c hc => ⟨excB_ok (fAll_ok (T.at_ 43) (List.mem_range.mp hc)), of_decide_eq_true (fAll_ok (T.at_ 44) (List.mem_range.mp hc))⟩) rfl (T.glo 45) rfl (T.free 0) hz hf rfl (by first | exact Or.inl rfl | exact Or.inr rfl)) ma_nil))))
        msu_nil)) HdOk.nil))
    (mb_cons (ms_if (mt_mc (mc_gt (me_ix (hu_of hr) (me_var 8) (me_neg (me_int))) (me_int))) (mb_one (ms_ret (me_mc (mc_eq hr.units (me_var 11) (me_tup (ma_cons (me_str) (ma_cons (me_int) (ma_cons (me_bl) ma_nil)))))))) mb_nil)
    (mb_cons (ms_if (mt_mc (mc_gt (me_var 9) (me_int))) (mb_one (ms_ret (me_mc (mc_eq hr.units (me_var 11) (me_tup (ma_cons (me_str) (ma_cons (me_int) (ma_cons (me_bl) ma_nil)))))))) mb_nil)
    (mb_cons (ms_set (i := 13) sc18.nd rfl (by first | exact Or.inl rfl | exact Or.inr rfl) (me_lst ma_nil))
    (mb_cons (ms_for po rfl (me_var 7) (mg_name sc18.nd rfl (by first | exact Or.inl rfl | exact Or.inr rfl)) (mb_one (ms_expr (me_app (args := default) (me_var 13) (me_add (me_tup (ma_cons (me_ix (hu_of hr) (me_var 14) (me_int)) ma_nil)) (me_fTuple rfl (T.free 7) (ma_cons (me_comp (own := [("_law_number", 18)]) rfl sc18.nd (me_sl (me_var 14) (mo_yes (me_int)) mo_no) (blk_mk (N := N18) (sc := defScope (top 32)) (by decide +kernel)) (gt_name (by decide)) ⟨fun _ _ _ _ _ => (pg_name sc18.nd (i := 18) rfl (by first | exact Or.inl rfl | exact Or.inr rfl)), fun _ _ _ _ _ => mts_nil, fun _ _ _ _ _ => (me_ix (hu_of hr) (me_var 13) (me_var 18))⟩) ma_nil)))))))
    (mb_one (ms_ret (me_mc (mc_eqL (un230 hr) (me_var 11) (me_tup (ma_cons (me_str) (ma_cons (me_ix (hu_of hr) (me_var 13) (me_neg (me_int))) ma_nil)))))))))))))))))))))))))
/-- __init__ -/
theorem fn19 (T : Tx fs fn K mg) (ih : AllOk P w K mg base (G K w) fn pss k r) {fd : FuncData} (F : FunD K d19.name d19.qual d19.params d19.body d19.scope (d19.dvs K) (d19.kws K) (d19.adr K) fd) :
    FnOk P w K mg base (L2.CX P w) (k + 3) (d19.adr K) fd p19 (spF K (G K w) p19.length (bodyX N19.length (b19 r))) := by
  obtain ⟨fd5, F5, B5, K5, E5⟩ := ih 5 d5 2 p5 rfl rfl
  obtain ⟨fd6, F6, B6, K6, E6⟩ := ih 6 d6 2 p6 rfl rfl
  obtain ⟨fdX0, X0, BX0⟩ := xi0 (P := P) (w := w) (base := base) (k := k) T
  refine fn_ok (N := N19) F sc19 fun cdv A outer s H E hr => ?_
  have tk := tk_def (P := P) (w := w) (K := K) (mg := mg) (base := base) (G := G K w) (N := N19) (qual := d19.qual) (scope := d19.scope) (f := d19.adr K) (cdv := cdv) (A := A) (outer := outer) (s := s) (H := H) (E := E)
  have po := po_def (P := P) (w := w) (K := K) (mg := mg) (base := base) (N := N19) (qual := d19.qual) (scope := d19.scope) (f := d19.adr K) (cdv := cdv) (A := A) (outer := outer) (s := s) (H := H) (E := E)
  unfold b19 p_Source___init__
  exact (mb_cons (ms_set (i := 3) sc19.nd rfl (by first | exact Or.inl rfl | exact Or.inr rfl) (me_call F5 hr rfl (T.glo 47) K5 B5 tk (ma_cons (me_var 1) ma_nil)))
    (mb_cons (ms_if (mt_mc (mc_isN (me_var 3))) (mb_one (ms_raise (c := 0) rfl rfl (fXc_ok (T.at_ 48)) k X0 hr BX0 tk rfl (T.glo 49) (me_var 1))) mb_nil)
    (mb_cons (ms_set (i := 4) sc19.nd rfl (by first | exact Or.inl rfl | exact Or.inr rfl) (me_call F6 hr rfl (T.glo 13) K6 B6 tk (ma_cons (me_var 3) ma_nil)))
    (mb_cons (ms_if (mt_w (mw_or (mt_not (mt_tru (me_isi1 (T := "str") (by decide) rfl (T.free 0) rfl (T.free 3) (by decide +kernel) (me_var 2)))) (mw_or1 (mt_mc (mc_notIn (hu_of hr) (me_var 2) (me_var 4)))))) (mb_one (ms_raise (c := 0) rfl rfl (fXc_ok (T.at_ 48)) k X0 hr BX0 tk rfl (T.glo 49) (me_var 2))) mb_nil)
    (mb_cons (ms_fld (List.forall_mem_cons.mpr ⟨⟨He.cls_ok (T.at_ 23), He.noat_ok (T.at_ 24)⟩, (fun c h => nomatch h)⟩) (me_var 0) (me_var 3))
    (mb_cons (ms_fld (List.forall_mem_cons.mpr ⟨⟨He.cls_ok (T.at_ 23), He.noat_ok (T.at_ 50)⟩, (fun c h => nomatch h)⟩) (me_var 0) (me_var 2))
    (mb_one (ms_fld (List.forall_mem_cons.mpr ⟨⟨He.cls_ok (T.at_ 23), He.noat_ok (T.at_ 51)⟩, (fun c h => nomatch h)⟩) (me_var 0) (me_fTuple rfl (T.free 7) (ma_cons (me_var 4) ma_nil))))))))))
/-- kinds -/
theorem fn20 (T : Tx fs fn K mg) (ih : AllOk P w K mg base (G K w) fn pss k r) {fd : FuncData} (F : FunD K d20.name d20.qual d20.params d20.body d20.scope (d20.dvs K) (d20.kws K) (d20.adr K) fd) :
    FnOk P w K mg base (L2.CX P w) (k + 3) (d20.adr K) fd p20 (spF K (G K w) p20.length (bodyX N20.length (b20 r))) := by
  refine fn_ok (N := N20) F sc20 fun cdv A outer s H E hr => ?_
  have tk := tk_def (P := P) (w := w) (K := K) (mg := mg) (base := base) (G := G K w) (N := N20) (qual := d20.qual) (scope := d20.scope) (f := d20.adr K) (cdv := cdv) (A := A) (outer := outer) (s := s) (H := H) (E := E)
  have po := po_def (P := P) (w := w) (K := K) (mg := mg) (base := base) (N := N20) (qual := d20.qual) (scope := d20.scope) (f := d20.adr K) (cdv := cdv) (A := A) (outer := outer) (s := s) (H := H) (E := E)
  unfold b20 p_Source_kinds
  exact (mb_one (ms_ret (me_fld (List.forall_mem_cons.mpr ⟨⟨He.cls_ok (T.at_ 23), He.noat_ok (T.at_ 51)⟩, (fun c h => nomatch h)⟩) (me_var 0))))
/-- operators -/
theorem fn21 (T : Tx fs fn K mg) (ih : AllOk P w K mg base (G K w) fn pss k r) {fd : FuncData} (F : FunD K d21.name d21.qual d21.params d21.body d21.scope (d21.dvs K) (d21.kws K) (d21.adr K) fd) :
    FnOk P w K mg base (L2.CX P w) (k + 3) (d21.adr K) fd p21 (spF K (G K w) p21.length (bodyX N21.length (b21 r))) := by
  refine fn_ok (N := N21) F sc21 fun cdv A outer s H E hr => ?_
  have tk := tk_def (P := P) (w := w) (K := K) (mg := mg) (base := base) (G := G K w) (N := N21) (qual := d21.qual) (scope := d21.scope) (f := d21.adr K) (cdv := cdv) (A := A) (outer := outer) (s := s) (H := H) (E := E)
  have po := po_def (P := P) (w := w) (K := K) (mg := mg) (base := base) (N := N21) (qual := d21.qual) (scope := d21.scope) (f := d21.adr K) (cdv := cdv) (A := A) (outer := outer) (s := s) (H := H) (E := E)
  unfold b21 p_Source_operators
  exact (mb_one (ms_ret (me_dcK (own := [("name", 1)]) (pure_fld pure_var) rfl sc21.nd (me_fld (List.forall_mem_cons.mpr ⟨⟨He.cls_ok (T.at_ 23), He.noat_ok (T.at_ 24)⟩, (fun c h => nomatch h)⟩) (me_var 0)) (blk_mk (N := N21) (sc := defScope (inClass (top 18) 2)) (by decide +kernel)) (gt_name (by decide)) ⟨fun _ _ _ _ _ => (pg_name sc21.nd (i := 1) rfl (by first | exact Or.inl rfl | exact Or.inr rfl)), fun _ _ _ _ _ => mts_nil, fun _ _ _ _ _ => (me_ix (hu_of hr) (me_fld (List.forall_mem_cons.mpr ⟨⟨He.cls_ok (T.at_ 23), He.noat_ok (T.at_ 24)⟩, (fun c h => nomatch h)⟩) (me_var 0)) (me_var 1))⟩ ⟨fun _ _ _ _ _ => (pg_name sc21.nd (i := 1) rfl (by first | exact Or.inl rfl | exact Or.inr rfl)), fun _ _ _ _ _ => mts_nil, fun _ _ _ _ _ => (me_var 1)⟩)))
/-- __eq__ -/
theorem fn22 (T : Tx fs fn K mg) (ih : AllOk P w K mg base (G K w) fn pss k r) {fd : FuncData} (F : FunD K d22.name d22.qual d22.params d22.body d22.scope (d22.dvs K) (d22.kws K) (d22.adr K) fd) :
    FnOk P w K mg base (L2.CX P w) (k + 3) (d22.adr K) fd p22 (spF K (G K w) p22.length (bodyX N22.length (b22 r))) := by
  refine fn_ok (N := N22) F sc22 fun cdv A outer s H E hr => ?_
  have tk := tk_def (P := P) (w := w) (K := K) (mg := mg) (base := base) (G := G K w) (N := N22) (qual := d22.qual) (scope := d22.scope) (f := d22.adr K) (cdv := cdv) (A := A) (outer := outer) (s := s) (H := H) (E := E)
  have po := po_def (P := P) (w := w) (K := K) (mg := mg) (base := base) (N := N22) (qual := d22.qual) (scope := d22.scope) (f := d22.adr K) (cdv := cdv) (A := A) (outer := outer) (s := s) (H := H) (E := E)
  unfold b22 p_Source___eq___v3
  exact (mb_one (ms_ret ((me_and (me_isO (fTyNo_ok (T.at_ 54)) (List.forall_mem_cons.mpr ⟨⟨fIns_ok (T.at_ 52), of_decide_eq_true (T.at_ 53)⟩, (fun c h => nomatch h)⟩) rfl (T.free 0) rfl (T.glo 39) (me_var 1)) (me_and (me_mc (mc_eqDic (un100 hr) (me_fld (List.forall_mem_cons.mpr ⟨⟨He.cls_ok (T.at_ 23), He.noat_ok (T.at_ 24)⟩, (fun c h => nomatch h)⟩) (me_var 0)) (me_fld (List.forall_mem_cons.mpr ⟨⟨He.cls_ok (T.at_ 23), He.noat_ok (T.at_ 24)⟩, (fun c h => nomatch h)⟩) (me_var 1)))) (me_one (me_mc (mc_eq hr.units (me_fld (List.forall_mem_cons.mpr ⟨⟨He.cls_ok (T.at_ 23), He.noat_ok (T.at_ 50)⟩, (fun c h => nomatch h)⟩) (me_var 0)) (me_fld (List.forall_mem_cons.mpr ⟨⟨He.cls_ok (T.at_ 23), He.noat_ok (T.at_ 50)⟩, (fun c h => nomatch h)⟩) (me_var 1))))))))))
/-- __contains__ -/
theorem fn23 (T : Tx fs fn K mg) (ih : AllOk P w K mg base (G K w) fn pss k r) {fd : FuncData} (F : FunD K d23.name d23.qual d23.params d23.body d23.scope (d23.dvs K) (d23.kws K) (d23.adr K) fd) :
    FnOk P w K mg base (L2.CX P w) (k + 3) (d23.adr K) fd p23 (spF K (G K w) p23.length (bodyX N23.length (b23 r))) := by
  obtain ⟨fd8, F8, B8, K8, E8⟩ := ih 8 d8 2 p8 rfl rfl
  refine fn_ok (N := N23) F sc23 fun cdv A outer s H E hr => ?_
  have tk := tk_def (P := P) (w := w) (K := K) (mg := mg) (base := base) (G := G K w) (N := N23) (qual := d23.qual) (scope := d23.scope) (f := d23.adr K) (cdv := cdv) (A := A) (outer := outer) (s := s) (H := H) (E := E)
  have po := po_def (P := P) (w := w) (K := K) (mg := mg) (base := base) (N := N23) (qual := d23.qual) (scope := d23.scope) (f := d23.adr K) (cdv := cdv) (A := A) (outer := outer) (s := s) (H := H) (E := E)
  unfold b23 p_Source___contains__
  exact (mb_one (ms_ret (me_mc (mc_isN (me_call F8 hr rfl (T.glo 19) K8 B8 tk (ma_cons (me_fld (List.forall_mem_cons.mpr ⟨⟨He.cls_ok (T.at_ 23), He.noat_ok (T.at_ 24)⟩, (fun c h => nomatch h)⟩) (me_var 0)) (ma_cons (me_var 1) (ma_cons (me_non) (ma_cons (me_int) ma_nil)))))))))
/-- check -/
theorem fn24 (T : Tx fs fn K mg) (ih : AllOk P w K mg base (G K w) fn pss k r) {fd : FuncData} (F : FunD K d24.name d24.qual d24.params d24.body d24.scope (d24.dvs K) (d24.kws K) (d24.adr K) fd) :
    FnOk P w K mg base (L2.CX P w) (k + 3) (d24.adr K) fd p24 (spF K (G K w) p24.length (bodyX N24.length (b24 r))) := by
  obtain ⟨fd0, F0, B0, K0, E0⟩ := ih 0 d0 2 p0 rfl rfl
  refine fn_ok (N := N24) F sc24 fun cdv A outer s H E hr => ?_
  have tk := tk_def (P := P) (w := w) (K := K) (mg := mg) (base := base) (G := G K w) (N := N24) (qual := d24.qual) (scope := d24.scope) (f := d24.adr K) (cdv := cdv) (A := A) (outer := outer) (s := s) (H := H) (E := E)
  have po := po_def (P := P) (w := w) (K := K) (mg := mg) (base := base) (N := N24) (qual := d24.qual) (scope := d24.scope) (f := d24.adr K) (cdv := cdv) (A := A) (outer := outer) (s := s) (H := H) (E := E)
  unfold b24 p_Source_check_v2
  exact (mb_one (ms_expr (me_call F0 hr rfl (T.glo 55) K0 B0 tk (ma_cons (me_int) ma_nil))))
/-- kind_of -/
theorem fn25 (T : Tx fs fn K mg) (ih : AllOk P w K mg base (G K w) fn pss k r) {fd : FuncData} (F : FunD K d25.name d25.qual d25.params d25.body d25.scope (d25.dvs K) (d25.kws K) (d25.adr K) fd) :
    FnOk P w K mg base (L2.CX P w) (k + 3) (d25.adr K) fd p25 (spF K (G K w) p25.length (bodyX N25.length (b25 r))) := by
  obtain ⟨fd0, F0, B0, K0, E0⟩ := ih 0 d0 2 p0 rfl rfl
  refine fn_ok (N := N25) F sc25 fun cdv A outer s H E hr => ?_
  have tk := tk_def (P := P) (w := w) (K := K) (mg := mg) (base := base) (G := G K w) (N := N25) (qual := d25.qual) (scope := d25.scope) (f := d25.adr K) (cdv := cdv) (A := A) (outer := outer) (s := s) (H := H) (E := E)
  have po := po_def (P := P) (w := w) (K := K) (mg := mg) (base := base) (N := N25) (qual := d25.qual) (scope := d25.scope) (f := d25.adr K) (cdv := cdv) (A := A) (outer := outer) (s := s) (H := H) (E := E)
  unfold b25 p_Source_kind_of_v2
  exact (mb_one (ms_expr (me_call F0 hr rfl (T.glo 55) K0 B0 tk (ma_cons (me_int) ma_nil))))
/-- size_of -/
theorem fn26 (T : Tx fs fn K mg) (ih : AllOk P w K mg base (G K w) fn pss k r) {fd : FuncData} (F : FunD K d26.name d26.qual d26.params d26.body d26.scope (d26.dvs K) (d26.kws K) (d26.adr K) fd) :
    FnOk P w K mg base (L2.CX P w) (k + 3) (d26.adr K) fd p26 (spF K (G K w) p26.length (bodyX N26.length (b26 r))) := by
  obtain ⟨fd0, F0, B0, K0, E0⟩ := ih 0 d0 2 p0 rfl rfl
  refine fn_ok (N := N26) F sc26 fun cdv A outer s H E hr => ?_
  have tk := tk_def (P := P) (w := w) (K := K) (mg := mg) (base := base) (G := G K w) (N := N26) (qual := d26.qual) (scope := d26.scope) (f := d26.adr K) (cdv := cdv) (A := A) (outer := outer) (s := s) (H := H) (E := E)
  have po := po_def (P := P) (w := w) (K := K) (mg := mg) (base := base) (N := N26) (qual := d26.qual) (scope := d26.scope) (f := d26.adr K) (cdv := cdv) (A := A) (outer := outer) (s := s) (H := H) (E := E)
  unfold b26 p_Source_size_of_v2
  exact (mb_one (ms_expr (me_call F0 hr rfl (T.glo 55) K0 B0 tk (ma_cons (me_int) ma_nil))))
/-- levels_of -/
theorem fn27 (T : Tx fs fn K mg) (ih : AllOk P w K mg base (G K w) fn pss k r) {fd : FuncData} (F : FunD K d27.name d27.qual d27.params d27.body d27.scope (d27.dvs K) (d27.kws K) (d27.adr K) fd) :
    FnOk P w K mg base (L2.CX P w) (k + 3) (d27.adr K) fd p27 (spF K (G K w) p27.length (bodyX N27.length (b27 r))) := by
  obtain ⟨fd0, F0, B0, K0, E0⟩ := ih 0 d0 2 p0 rfl rfl
  refine fn_ok (N := N27) F sc27 fun cdv A outer s H E hr => ?_
  have tk := tk_def (P := P) (w := w) (K := K) (mg := mg) (base := base) (G := G K w) (N := N27) (qual := d27.qual) (scope := d27.scope) (f := d27.adr K) (cdv := cdv) (A := A) (outer := outer) (s := s) (H := H) (E := E)
  have po := po_def (P := P) (w := w) (K := K) (mg := mg) (base := base) (N := N27) (qual := d27.qual) (scope := d27.scope) (f := d27.adr K) (cdv := cdv) (A := A) (outer := outer) (s := s) (H := H) (E := E)
  unfold b27 p_Source_levels_of_v2
  exact (mb_one (ms_expr (me_call F0 hr rfl (T.glo 55) K0 B0 tk (ma_cons (me_int) ma_nil))))
/-- least_tree -/
theorem fn28 (T : Tx fs fn K mg) (ih : AllOk P w K mg base (G K w) fn pss k r) {fd : FuncData} (F : FunD K d28.name d28.qual d28.params d28.body d28.scope (d28.dvs K) (d28.kws K) (d28.adr K) fd) :
    FnOk P w K mg base (L2.CX P w) (k + 3) (d28.adr K) fd p28 (spF K (G K w) p28.length (bodyX N28.length (b28 r))) := by
  obtain ⟨fd0, F0, B0, K0, E0⟩ := ih 0 d0 2 p0 rfl rfl
  refine fn_ok (N := N28) F sc28 fun cdv A outer s H E hr => ?_
  have tk := tk_def (P := P) (w := w) (K := K) (mg := mg) (base := base) (G := G K w) (N := N28) (qual := d28.qual) (scope := d28.scope) (f := d28.adr K) (cdv := cdv) (A := A) (outer := outer) (s := s) (H := H) (E := E)
  have po := po_def (P := P) (w := w) (K := K) (mg := mg) (base := base) (N := N28) (qual := d28.qual) (scope := d28.scope) (f := d28.adr K) (cdv := cdv) (A := A) (outer := outer) (s := s) (H := H) (E := E)
  unfold b28 p_Source_least_tree_v2
  exact (mb_one (ms_expr (me_call F0 hr rfl (T.glo 55) K0 B0 tk (ma_cons (me_int) ma_nil))))
/-- all_trees -/
theorem fn29 (T : Tx fs fn K mg) (ih : AllOk P w K mg base (G K w) fn pss k r) {fd : FuncData} (F : FunD K d29.name d29.qual d29.params d29.body d29.scope (d29.dvs K) (d29.kws K) (d29.adr K) fd) :
    FnOk P w K mg base (L2.CX P w) (k + 3) (d29.adr K) fd p29 (spF K (G K w) p29.length (bodyX N29.length (b29 r))) := by
  obtain ⟨fd0, F0, B0, K0, E0⟩ := ih 0 d0 2 p0 rfl rfl
  refine fn_ok (N := N29) F sc29 fun cdv A outer s H E hr => ?_
  have tk := tk_def (P := P) (w := w) (K := K) (mg := mg) (base := base) (G := G K w) (N := N29) (qual := d29.qual) (scope := d29.scope) (f := d29.adr K) (cdv := cdv) (A := A) (outer := outer) (s := s) (H := H) (E := E)
  have po := po_def (P := P) (w := w) (K := K) (mg := mg) (base := base) (N := N29) (qual := d29.qual) (scope := d29.scope) (f := d29.adr K) (cdv := cdv) (A := A) (outer := outer) (s := s) (H := H) (E := E)
  unfold b29 p_Source_all_trees_v2
  exact (mb_one (ms_expr (me_call F0 hr rfl (T.glo 55) K0 B0 tk (ma_cons (me_int) ma_nil))))
theorem all_ok (T : Tx fs fn K mg) : ∀ k, AllOk P w K mg base (G K w) fn pss k (callF tbl k)
  | 0 => fun i d o p hd hp => by
    match i, hd, hp with
    | 0, hd, hp =>
      obtain rfl : d0 = d := Option.some.inj hd
      cases (Option.some.inj hp : (2, p0) = (o, p))
      obtain ⟨fd, F⟩ := T.c.def_ 0 (d := d0) rfl
      exact ⟨fd, fn_bad.mono (Nat.zero_le _), F.bindsN fun _ _ _ _ _ _ us hl => match us, hl with | [_], _ => rfl, F.kp, (fun j hj => absurd hj (Nat.not_lt_zero _))⟩
    | 1, hd, hp =>
      obtain rfl : d1 = d := Option.some.inj hd
      cases (Option.some.inj hp : (2, p1) = (o, p))
      obtain ⟨fd, F⟩ := T.c.def_ 1 (d := d1) rfl
      exact ⟨fd, fn_bad.mono (Nat.zero_le _), F.bindsN fun _ _ _ _ _ _ us hl => match us, hl with | [_], _ => rfl, F.kp, (fun j hj => absurd hj (Nat.not_lt_zero _))⟩
    | 2, hd, hp =>
      obtain rfl : d2 = d := Option.some.inj hd
      cases (Option.some.inj hp : (2, p2) = (o, p))
      obtain ⟨fd, F⟩ := T.c.def_ 2 (d := d2) rfl
      exact ⟨fd, fn_bad.mono (Nat.zero_le _), F.bindsN fun _ _ _ _ _ _ us hl => match us, hl with | [_], _ => rfl, F.kp, (fun j hj => absurd hj (Nat.not_lt_zero _))⟩
    | 3, hd, hp =>
      obtain rfl : d3 = d := Option.some.inj hd
      cases (Option.some.inj hp : (2, p3) = (o, p))
      obtain ⟨fd, F⟩ := T.c.def_ 3 (d := d3) rfl
      exact ⟨fd, fn_bad.mono (Nat.zero_le _), F.bindsN fun _ _ _ _ _ _ us hl => match us, hl with | [_], _ => rfl, F.kp, (fun j hj => absurd hj (Nat.not_lt_zero _))⟩
    | 4, hd, hp =>
      obtain rfl : d4 = d := Option.some.inj hd
      cases (Option.some.inj hp : (2, p4) = (o, p))
      obtain ⟨fd, F⟩ := T.c.def_ 4 (d := d4) rfl
      exact ⟨fd, fn_bad.mono (Nat.zero_le _), F.bindsN fun _ _ _ _ _ _ us hl => match us, hl with | [_], _ => rfl, F.kp, (fun j hj => absurd hj (Nat.not_lt_zero _))⟩
    | 5, hd, hp =>
      obtain rfl : d5 = d := Option.some.inj hd
      cases (Option.some.inj hp : (2, p5) = (o, p))
      obtain ⟨fd, F⟩ := T.c.def_ 5 (d := d5) rfl
      exact ⟨fd, fn_bad.mono (Nat.zero_le _), F.bindsN fun _ _ _ _ _ _ us hl => match us, hl with | [_], _ => rfl, F.kp, (fun j hj => absurd hj (Nat.not_lt_zero _))⟩
    | 6, hd, hp =>
      obtain rfl : d6 = d := Option.some.inj hd
      cases (Option.some.inj hp : (2, p6) = (o, p))
      obtain ⟨fd, F⟩ := T.c.def_ 6 (d := d6) rfl
      exact ⟨fd, fn_bad.mono (Nat.zero_le _), F.bindsN fun _ _ _ _ _ _ us hl => match us, hl with | [_], _ => rfl, F.kp, (fun j hj => absurd hj (Nat.not_lt_zero _))⟩
    | 7, hd, hp =>
      obtain rfl : d7 = d := Option.some.inj hd
      cases (Option.some.inj hp : (2, p7) = (o, p))
      obtain ⟨fd, F⟩ := T.c.def_ 7 (d := d7) rfl
      exact ⟨fd, fn_bad.mono (Nat.zero_le _), F.bindsN fun _ _ _ _ _ _ us hl => match us, hl with | [_, _], _ => rfl, F.kp, (fun j hj => absurd hj (Nat.not_lt_zero _))⟩
    | 8, hd, hp =>
      obtain rfl : d8 = d := Option.some.inj hd
      cases (Option.some.inj hp : (2, p8) = (o, p))
      obtain ⟨fd, F⟩ := T.c.def_ 8 (d := d8) rfl
      exact ⟨fd, fn_bad.mono (Nat.zero_le _), F.bindsN fun _ _ _ _ _ _ us hl => match us, hl with | [_, _, _, _], _ => rfl, F.kp, (fun j hj => absurd hj (Nat.not_lt_zero _))⟩
    | 9, hd, hp =>
      obtain rfl : d9 = d := Option.some.inj hd
      cases (Option.some.inj hp : (2, p9) = (o, p))
      obtain ⟨fd, F⟩ := T.c.def_ 9 (d := d9) rfl
      exact ⟨fd, fn_bad.mono (Nat.zero_le _), F.bindsN fun _ _ _ _ _ _ us hl => match us, hl with | [_, _, _], _ => rfl, F.kp, (fun j hj => absurd hj (Nat.not_lt_zero _))⟩
    | 10, hd, hp =>
      obtain rfl : d10 = d := Option.some.inj hd
      cases (Option.some.inj hp : (2, p10) = (o, p))
      obtain ⟨fd, F⟩ := T.c.def_ 10 (d := d10) rfl
      exact ⟨fd, fn_bad.mono (Nat.zero_le _), F.bindsN fun _ _ _ _ _ _ us hl => match us, hl with | [_, _], _ => rfl, F.kp, (fun j hj => absurd hj (Nat.not_lt_zero _))⟩
    | 11, hd, hp =>
      obtain rfl : d11 = d := Option.some.inj hd
      cases (Option.some.inj hp : (2, p11) = (o, p))
      obtain ⟨fd, F⟩ := T.c.def_ 11 (d := d11) rfl
      exact ⟨fd, fn_bad.mono (Nat.zero_le _), F.bindsN fun _ _ _ _ _ _ us hl => match us, hl with | [_, _], _ => rfl, F.kp, (fun j hj => absurd hj (Nat.not_lt_zero _))⟩
    | 12, hd, hp =>
      obtain rfl : d12 = d := Option.some.inj hd
      cases (Option.some.inj hp : (2, p12) = (o, p))
      obtain ⟨fd, F⟩ := T.c.def_ 12 (d := d12) rfl
      exact ⟨fd, fn_bad.mono (Nat.zero_le _), F.bindsN fun _ _ _ _ _ _ us hl => match us, hl with | [_, _], _ => rfl, F.kp, (fun j hj => absurd hj (Nat.not_lt_zero _))⟩
    | 13, hd, hp =>
      obtain rfl : d13 = d := Option.some.inj hd
      cases (Option.some.inj hp : (2, p13) = (o, p))
      obtain ⟨fd, F⟩ := T.c.def_ 13 (d := d13) rfl
      exact ⟨fd, fn_bad.mono (Nat.zero_le _), F.bindsN fun _ _ _ _ _ _ us hl => match us, hl with | [_], _ => rfl, F.kp, (fun j hj => absurd hj (Nat.not_lt_zero _))⟩
    | 14, hd, hp =>
      obtain rfl : d14 = d := Option.some.inj hd
      cases (Option.some.inj hp : (2, p14) = (o, p))
      obtain ⟨fd, F⟩ := T.c.def_ 14 (d := d14) rfl
      exact ⟨fd, fn_bad.mono (Nat.zero_le _), F.bindsN fun _ _ _ _ _ _ us hl => match us, hl with | [_, _], _ => rfl, F.kp, (fun j hj => absurd hj (Nat.not_lt_zero _))⟩
    | 15, hd, hp =>
      obtain rfl : d15 = d := Option.some.inj hd
      cases (Option.some.inj hp : (2, p15) = (o, p))
      obtain ⟨fd, F⟩ := T.c.def_ 15 (d := d15) rfl
      exact ⟨fd, fn_bad.mono (Nat.zero_le _), F.bindsN fun _ _ _ _ _ _ us hl => match us, hl with | [_, _], _ => rfl, F.kp, (fun j hj => absurd hj (Nat.not_lt_zero _))⟩
    | 16, hd, hp =>
      obtain rfl : d16 = d := Option.some.inj hd
      cases (Option.some.inj hp : (2, p16) = (o, p))
      obtain ⟨fd, F⟩ := T.c.def_ 16 (d := d16) rfl
      exact ⟨fd, fn_bad.mono (Nat.zero_le _), F.bindsN fun _ _ _ _ _ _ us hl => match us, hl with | [_, _], _ => rfl, F.kp, (fun j hj => absurd hj (Nat.not_lt_zero _))⟩
    | 17, hd, hp =>
      obtain rfl : d17 = d := Option.some.inj hd
      cases (Option.some.inj hp : (2, p17) = (o, p))
      obtain ⟨fd, F⟩ := T.c.def_ 17 (d := d17) rfl
      exact ⟨fd, fn_bad.mono (Nat.zero_le _), F.bindsN fun _ _ _ _ _ _ us hl => match us, hl with | [_], _ => rfl, F.kp, (fun j hj => absurd hj (Nat.not_lt_zero _))⟩
    | 18, hd, hp =>
      obtain rfl : d18 = d := Option.some.inj hd
      cases (Option.some.inj hp : (2, p18) = (o, p))
      obtain ⟨fd, F⟩ := T.c.def_ 18 (d := d18) rfl
      exact ⟨fd, fn_bad.mono (Nat.zero_le _), F.bindsN fun _ _ _ _ _ _ us hl => match us, hl with | [_], _ => rfl, F.kp, (fun j hj => absurd hj (Nat.not_lt_zero _))⟩
    | 19, hd, hp =>
      obtain rfl : d19 = d := Option.some.inj hd
      cases (Option.some.inj hp : (2, p19) = (o, p))
      obtain ⟨fd, F⟩ := T.c.def_ 19 (d := d19) rfl
      exact ⟨fd, fn_bad.mono (Nat.zero_le _), F.bindsN fun _ _ _ _ _ _ us hl => match us, hl with | [_, _, _], _ => rfl, F.kp, (fun j hj => absurd hj (Nat.not_lt_zero _))⟩
    | 20, hd, hp =>
      obtain rfl : d20 = d := Option.some.inj hd
      cases (Option.some.inj hp : (2, p20) = (o, p))
      obtain ⟨fd, F⟩ := T.c.def_ 20 (d := d20) rfl
      exact ⟨fd, fn_bad.mono (Nat.zero_le _), F.bindsN fun _ _ _ _ _ _ us hl => match us, hl with | [_], _ => rfl, F.kp, (fun j hj => absurd hj (Nat.not_lt_zero _))⟩
    | 21, hd, hp =>
      obtain rfl : d21 = d := Option.some.inj hd
      cases (Option.some.inj hp : (2, p21) = (o, p))
      obtain ⟨fd, F⟩ := T.c.def_ 21 (d := d21) rfl
      exact ⟨fd, fn_bad.mono (Nat.zero_le _), F.bindsN fun _ _ _ _ _ _ us hl => match us, hl with | [_], _ => rfl, F.kp, (fun j hj => absurd hj (Nat.not_lt_zero _))⟩
    | 22, hd, hp =>
      obtain rfl : d22 = d := Option.some.inj hd
      cases (Option.some.inj hp : (2, p22) = (o, p))
      obtain ⟨fd, F⟩ := T.c.def_ 22 (d := d22) rfl
      exact ⟨fd, fn_bad.mono (Nat.zero_le _), F.bindsN fun _ _ _ _ _ _ us hl => match us, hl with | [_, _], _ => rfl, F.kp, (fun j hj => absurd hj (Nat.not_lt_zero _))⟩
    | 23, hd, hp =>
      obtain rfl : d23 = d := Option.some.inj hd
      cases (Option.some.inj hp : (2, p23) = (o, p))
      obtain ⟨fd, F⟩ := T.c.def_ 23 (d := d23) rfl
      exact ⟨fd, fn_bad.mono (Nat.zero_le _), F.bindsN fun _ _ _ _ _ _ us hl => match us, hl with | [_, _], _ => rfl, F.kp, (fun j hj => absurd hj (Nat.not_lt_zero _))⟩
    | 24, hd, hp =>
      obtain rfl : d24 = d := Option.some.inj hd
      cases (Option.some.inj hp : (2, p24) = (o, p))
      obtain ⟨fd, F⟩ := T.c.def_ 24 (d := d24) rfl
      exact ⟨fd, fn_bad.mono (Nat.zero_le _), F.bindsN fun _ _ _ _ _ _ us hl => match us, hl with | [_, _], _ => rfl, F.kp, (fun j hj => absurd hj (Nat.not_lt_zero _))⟩
    | 25, hd, hp =>
      obtain rfl : d25 = d := Option.some.inj hd
      cases (Option.some.inj hp : (2, p25) = (o, p))
      obtain ⟨fd, F⟩ := T.c.def_ 25 (d := d25) rfl
      exact ⟨fd, fn_bad.mono (Nat.zero_le _), F.bindsN fun _ _ _ _ _ _ us hl => match us, hl with | [_, _], _ => rfl, F.kp, (fun j hj => absurd hj (Nat.not_lt_zero _))⟩
    | 26, hd, hp =>
      obtain rfl : d26 = d := Option.some.inj hd
      cases (Option.some.inj hp : (2, p26) = (o, p))
      obtain ⟨fd, F⟩ := T.c.def_ 26 (d := d26) rfl
      exact ⟨fd, fn_bad.mono (Nat.zero_le _), F.bindsN fun _ _ _ _ _ _ us hl => match us, hl with | [_, _], _ => rfl, F.kp, (fun j hj => absurd hj (Nat.not_lt_zero _))⟩
    | 27, hd, hp =>
      obtain rfl : d27 = d := Option.some.inj hd
      cases (Option.some.inj hp : (2, p27) = (o, p))
      obtain ⟨fd, F⟩ := T.c.def_ 27 (d := d27) rfl
      exact ⟨fd, fn_bad.mono (Nat.zero_le _), F.bindsN fun _ _ _ _ _ _ us hl => match us, hl with | [_, _], _ => rfl, F.kp, (fun j hj => absurd hj (Nat.not_lt_zero _))⟩
    | 28, hd, hp =>
      obtain rfl : d28 = d := Option.some.inj hd
      cases (Option.some.inj hp : (2, p28) = (o, p))
      obtain ⟨fd, F⟩ := T.c.def_ 28 (d := d28) rfl
      exact ⟨fd, fn_bad.mono (Nat.zero_le _), F.bindsN fun _ _ _ _ _ _ us hl => match us, hl with | [_, _], _ => rfl, F.kp, (fun j hj => absurd hj (Nat.not_lt_zero _))⟩
    | 29, hd, hp =>
      obtain rfl : d29 = d := Option.some.inj hd
      cases (Option.some.inj hp : (2, p29) = (o, p))
      obtain ⟨fd, F⟩ := T.c.def_ 29 (d := d29) rfl
      exact ⟨fd, fn_bad.mono (Nat.zero_le _), F.bindsN fun _ _ _ _ _ _ us hl => match us, hl with | [_, _, _], _ => rfl, F.kp, (fun j hj => absurd hj (Nat.not_lt_zero _))⟩
    | 30, hd, hp =>
      obtain rfl : d19 = d := Option.some.inj hd
      cases (Option.some.inj hp : (1, p19) = (o, p))
      obtain ⟨fd, F⟩ := T.c.def_ 30 (d := d19) rfl
      exact ⟨fd, fn_bad.mono (Nat.zero_le _), F.bindsN fun _ _ _ _ _ _ us hl => match us, hl with | [_, _, _], _ => rfl, F.kp, (fun j hj => absurd hj (Nat.not_lt_zero _))⟩
    | n + 31, hd, hp => exact absurd hp (by simp [pss])
  | k + 1 => fun i d o p hd hp => by
    have ih := all_ok T k
    match i, hd, hp with
    | 0, hd, hp =>
      obtain rfl : d0 = d := Option.some.inj hd
      cases (Option.some.inj hp : (2, p0) = (o, p))
      obtain ⟨fd, F⟩ := T.c.def_ 0 (d := d0) rfl
      exact ⟨fd, fn0 T ih F, F.bindsN fun _ _ _ _ _ _ us hl => match us, hl with | [_], _ => rfl, F.kp, (fun j hj => absurd hj (Nat.not_lt_zero _))⟩
    | 1, hd, hp =>
      obtain rfl : d1 = d := Option.some.inj hd
      cases (Option.some.inj hp : (2, p1) = (o, p))
      obtain ⟨fd, F⟩ := T.c.def_ 1 (d := d1) rfl
      exact ⟨fd, fn1 T ih F, F.bindsN fun _ _ _ _ _ _ us hl => match us, hl with | [_], _ => rfl, F.kp, (fun j hj => absurd hj (Nat.not_lt_zero _))⟩
    | 2, hd, hp =>
      obtain rfl : d2 = d := Option.some.inj hd
      cases (Option.some.inj hp : (2, p2) = (o, p))
      obtain ⟨fd, F⟩ := T.c.def_ 2 (d := d2) rfl
      exact ⟨fd, fn2 T ih F, F.bindsN fun _ _ _ _ _ _ us hl => match us, hl with | [_], _ => rfl, F.kp, (fun j hj => absurd hj (Nat.not_lt_zero _))⟩
    | 3, hd, hp =>
      obtain rfl : d3 = d := Option.some.inj hd
      cases (Option.some.inj hp : (2, p3) = (o, p))
      obtain ⟨fd, F⟩ := T.c.def_ 3 (d := d3) rfl
      exact ⟨fd, fn3 T ih F, F.bindsN fun _ _ _ _ _ _ us hl => match us, hl with | [_], _ => rfl, F.kp, (fun j hj => absurd hj (Nat.not_lt_zero _))⟩
    | 4, hd, hp =>
      obtain rfl : d4 = d := Option.some.inj hd
      cases (Option.some.inj hp : (2, p4) = (o, p))
      obtain ⟨fd, F⟩ := T.c.def_ 4 (d := d4) rfl
      exact ⟨fd, fn4 T ih F, F.bindsN fun _ _ _ _ _ _ us hl => match us, hl with | [_], _ => rfl, F.kp, (fun j hj => absurd hj (Nat.not_lt_zero _))⟩
    | 5, hd, hp =>
      obtain rfl : d5 = d := Option.some.inj hd
      cases (Option.some.inj hp : (2, p5) = (o, p))
      obtain ⟨fd, F⟩ := T.c.def_ 5 (d := d5) rfl
      exact ⟨fd, fn5 T ih F, F.bindsN fun _ _ _ _ _ _ us hl => match us, hl with | [_], _ => rfl, F.kp, (fun j hj => absurd hj (Nat.not_lt_zero _))⟩
    | 6, hd, hp =>
      obtain rfl : d6 = d := Option.some.inj hd
      cases (Option.some.inj hp : (2, p6) = (o, p))
      obtain ⟨fd, F⟩ := T.c.def_ 6 (d := d6) rfl
      exact ⟨fd, fn6 T ih F, F.bindsN fun _ _ _ _ _ _ us hl => match us, hl with | [_], _ => rfl, F.kp, (fun j hj => absurd hj (Nat.not_lt_zero _))⟩
    | 7, hd, hp =>
      obtain rfl : d7 = d := Option.some.inj hd
      cases (Option.some.inj hp : (2, p7) = (o, p))
      obtain ⟨fd, F⟩ := T.c.def_ 7 (d := d7) rfl
      exact ⟨fd, fn7 T ih F, F.bindsN fun _ _ _ _ _ _ us hl => match us, hl with | [_, _], _ => rfl, F.kp, (fun j hj => absurd hj (Nat.not_lt_zero _))⟩
    | 8, hd, hp =>
      obtain rfl : d8 = d := Option.some.inj hd
      cases (Option.some.inj hp : (2, p8) = (o, p))
      obtain ⟨fd, F⟩ := T.c.def_ 8 (d := d8) rfl
      exact ⟨fd, fn8 T ih F, F.bindsN fun _ _ _ _ _ _ us hl => match us, hl with | [_, _, _, _], _ => rfl, F.kp, (fun j hj => absurd hj (Nat.not_lt_zero _))⟩
    | 9, hd, hp =>
      obtain rfl : d9 = d := Option.some.inj hd
      cases (Option.some.inj hp : (2, p9) = (o, p))
      obtain ⟨fd, F⟩ := T.c.def_ 9 (d := d9) rfl
      exact ⟨fd, fn9 T ih F, F.bindsN fun _ _ _ _ _ _ us hl => match us, hl with | [_, _, _], _ => rfl, F.kp, (fun j hj => absurd hj (Nat.not_lt_zero _))⟩
    | 10, hd, hp =>
      obtain rfl : d10 = d := Option.some.inj hd
      cases (Option.some.inj hp : (2, p10) = (o, p))
      obtain ⟨fd, F⟩ := T.c.def_ 10 (d := d10) rfl
      exact ⟨fd, fn10 T ih F, F.bindsN fun _ _ _ _ _ _ us hl => match us, hl with | [_, _], _ => rfl, F.kp, (fun j hj => absurd hj (Nat.not_lt_zero _))⟩
    | 11, hd, hp =>
      obtain rfl : d11 = d := Option.some.inj hd
      cases (Option.some.inj hp : (2, p11) = (o, p))
      obtain ⟨fd, F⟩ := T.c.def_ 11 (d := d11) rfl
      exact ⟨fd, fn11 T ih F, F.bindsN fun _ _ _ _ _ _ us hl => match us, hl with | [_, _], _ => rfl, F.kp, (fun j hj => absurd hj (Nat.not_lt_zero _))⟩
    | 12, hd, hp =>
      obtain rfl : d12 = d := Option.some.inj hd
      cases (Option.some.inj hp : (2, p12) = (o, p))
      obtain ⟨fd, F⟩ := T.c.def_ 12 (d := d12) rfl
      exact ⟨fd, fn12 T ih F, F.bindsN fun _ _ _ _ _ _ us hl => match us, hl with | [_, _], _ => rfl, F.kp, (fun j hj => absurd hj (Nat.not_lt_zero _))⟩
    | 13, hd, hp =>
      obtain rfl : d13 = d := Option.some.inj hd
      cases (Option.some.inj hp : (2, p13) = (o, p))
      obtain ⟨fd, F⟩ := T.c.def_ 13 (d := d13) rfl
      exact ⟨fd, fn13 T ih F, F.bindsN fun _ _ _ _ _ _ us hl => match us, hl with | [_], _ => rfl, F.kp, (fun j hj => absurd hj (Nat.not_lt_zero _))⟩
    | 14, hd, hp =>
      obtain rfl : d14 = d := Option.some.inj hd
      cases (Option.some.inj hp : (2, p14) = (o, p))
      obtain ⟨fd, F⟩ := T.c.def_ 14 (d := d14) rfl
      exact ⟨fd, fn14 T ih F, F.bindsN fun _ _ _ _ _ _ us hl => match us, hl with | [_, _], _ => rfl, F.kp, (fun j hj => absurd hj (Nat.not_lt_zero _))⟩
    | 15, hd, hp =>
      obtain rfl : d15 = d := Option.some.inj hd
      cases (Option.some.inj hp : (2, p15) = (o, p))
      obtain ⟨fd, F⟩ := T.c.def_ 15 (d := d15) rfl
      exact ⟨fd, fn15 T ih F, F.bindsN fun _ _ _ _ _ _ us hl => match us, hl with | [_, _], _ => rfl, F.kp, (fun j hj => absurd hj (Nat.not_lt_zero _))⟩
    | 16, hd, hp =>
      obtain rfl : d16 = d := Option.some.inj hd
      cases (Option.some.inj hp : (2, p16) = (o, p))
      obtain ⟨fd, F⟩ := T.c.def_ 16 (d := d16) rfl
      exact ⟨fd, fn16 T ih F, F.bindsN fun _ _ _ _ _ _ us hl => match us, hl with | [_, _], _ => rfl, F.kp, (fun j hj => absurd hj (Nat.not_lt_zero _))⟩
    | 17, hd, hp =>
      obtain rfl : d17 = d := Option.some.inj hd
      cases (Option.some.inj hp : (2, p17) = (o, p))
      obtain ⟨fd, F⟩ := T.c.def_ 17 (d := d17) rfl
      exact ⟨fd, fn17 T ih F, F.bindsN fun _ _ _ _ _ _ us hl => match us, hl with | [_], _ => rfl, F.kp, (fun j hj => absurd hj (Nat.not_lt_zero _))⟩
    | 18, hd, hp =>
      obtain rfl : d18 = d := Option.some.inj hd
      cases (Option.some.inj hp : (2, p18) = (o, p))
      obtain ⟨fd, F⟩ := T.c.def_ 18 (d := d18) rfl
      exact ⟨fd, fn18 T ih F, F.bindsN fun _ _ _ _ _ _ us hl => match us, hl with | [_], _ => rfl, F.kp, (fun j hj => absurd hj (Nat.not_lt_zero _))⟩
    | 19, hd, hp =>
      obtain rfl : d19 = d := Option.some.inj hd
      cases (Option.some.inj hp : (2, p19) = (o, p))
      obtain ⟨fd, F⟩ := T.c.def_ 19 (d := d19) rfl
      exact ⟨fd, fn19 T ih F, F.bindsN fun _ _ _ _ _ _ us hl => match us, hl with | [_, _, _], _ => rfl, F.kp, (fun j hj => absurd hj (Nat.not_lt_zero _))⟩
    | 20, hd, hp =>
      obtain rfl : d20 = d := Option.some.inj hd
      cases (Option.some.inj hp : (2, p20) = (o, p))
      obtain ⟨fd, F⟩ := T.c.def_ 20 (d := d20) rfl
      exact ⟨fd, fn20 T ih F, F.bindsN fun _ _ _ _ _ _ us hl => match us, hl with | [_], _ => rfl, F.kp, (fun j hj => absurd hj (Nat.not_lt_zero _))⟩
    | 21, hd, hp =>
      obtain rfl : d21 = d := Option.some.inj hd
      cases (Option.some.inj hp : (2, p21) = (o, p))
      obtain ⟨fd, F⟩ := T.c.def_ 21 (d := d21) rfl
      exact ⟨fd, fn21 T ih F, F.bindsN fun _ _ _ _ _ _ us hl => match us, hl with | [_], _ => rfl, F.kp, (fun j hj => absurd hj (Nat.not_lt_zero _))⟩
    | 22, hd, hp =>
      obtain rfl : d22 = d := Option.some.inj hd
      cases (Option.some.inj hp : (2, p22) = (o, p))
      obtain ⟨fd, F⟩ := T.c.def_ 22 (d := d22) rfl
      exact ⟨fd, fn22 T ih F, F.bindsN fun _ _ _ _ _ _ us hl => match us, hl with | [_, _], _ => rfl, F.kp, (fun j hj => absurd hj (Nat.not_lt_zero _))⟩
    | 23, hd, hp =>
      obtain rfl : d23 = d := Option.some.inj hd
      cases (Option.some.inj hp : (2, p23) = (o, p))
      obtain ⟨fd, F⟩ := T.c.def_ 23 (d := d23) rfl
      exact ⟨fd, fn23 T ih F, F.bindsN fun _ _ _ _ _ _ us hl => match us, hl with | [_, _], _ => rfl, F.kp, (fun j hj => absurd hj (Nat.not_lt_zero _))⟩
    | 24, hd, hp =>
      obtain rfl : d24 = d := Option.some.inj hd
      cases (Option.some.inj hp : (2, p24) = (o, p))
      obtain ⟨fd, F⟩ := T.c.def_ 24 (d := d24) rfl
      exact ⟨fd, fn24 T ih F, F.bindsN fun _ _ _ _ _ _ us hl => match us, hl with | [_, _], _ => rfl, F.kp, (fun j hj => absurd hj (Nat.not_lt_zero _))⟩
    | 25, hd, hp =>
      obtain rfl : d25 = d := Option.some.inj hd
      cases (Option.some.inj hp : (2, p25) = (o, p))
      obtain ⟨fd, F⟩ := T.c.def_ 25 (d := d25) rfl
      exact ⟨fd, fn25 T ih F, F.bindsN fun _ _ _ _ _ _ us hl => match us, hl with | [_, _], _ => rfl, F.kp, (fun j hj => absurd hj (Nat.not_lt_zero _))⟩
    | 26, hd, hp =>
      obtain rfl : d26 = d := Option.some.inj hd
      cases (Option.some.inj hp : (2, p26) = (o, p))
      obtain ⟨fd, F⟩ := T.c.def_ 26 (d := d26) rfl
      exact ⟨fd, fn26 T ih F, F.bindsN fun _ _ _ _ _ _ us hl => match us, hl with | [_, _], _ => rfl, F.kp, (fun j hj => absurd hj (Nat.not_lt_zero _))⟩
    | 27, hd, hp =>
      obtain rfl : d27 = d := Option.some.inj hd
      cases (Option.some.inj hp : (2, p27) = (o, p))
      obtain ⟨fd, F⟩ := T.c.def_ 27 (d := d27) rfl
      exact ⟨fd, fn27 T ih F, F.bindsN fun _ _ _ _ _ _ us hl => match us, hl with | [_, _], _ => rfl, F.kp, (fun j hj => absurd hj (Nat.not_lt_zero _))⟩
    | 28, hd, hp =>
      obtain rfl : d28 = d := Option.some.inj hd
      cases (Option.some.inj hp : (2, p28) = (o, p))
      obtain ⟨fd, F⟩ := T.c.def_ 28 (d := d28) rfl
      exact ⟨fd, fn28 T ih F, F.bindsN fun _ _ _ _ _ _ us hl => match us, hl with | [_, _], _ => rfl, F.kp, (fun j hj => absurd hj (Nat.not_lt_zero _))⟩
    | 29, hd, hp =>
      obtain rfl : d29 = d := Option.some.inj hd
      cases (Option.some.inj hp : (2, p29) = (o, p))
      obtain ⟨fd, F⟩ := T.c.def_ 29 (d := d29) rfl
      exact ⟨fd, fn29 T ih F, F.bindsN fun _ _ _ _ _ _ us hl => match us, hl with | [_, _, _], _ => rfl, F.kp, (fun j hj => absurd hj (Nat.not_lt_zero _))⟩
    | 30, hd, hp =>
      obtain rfl : d19 = d := Option.some.inj hd
      cases (Option.some.inj hp : (1, p19) = (o, p))
      exact ih 19 d19 2 p19 rfl rfl
    | n + 31, hd, hp => exact absurd hp (by simp [pss])
end
/-- the script read, whatever it is -/
def Plain : Prop := ∀ ns : List Int, ns.length ≤ 63 → ∃ h', callF tbl 31 18 [.frl (ns.map .int)] [] [] = .ok (.bl true) h'
theorem facts (hp : Plain) {P : Program} {w : World} {K : PySem.W.Frag} {h : Heap} {mg : Str → Option Value} {f : Addr} (X : K.In h) (G0 : h.Ns mainGlobals mg) (hfa : mg ("law" : Str) = some (.ref f)) (c : SaysM fs fn K) :
    ∃ (fd : FuncData) (sp : Sp), (∀ (s : Shared) (v : Value), BindsTo s fd ⟨[v], []⟩ [("_law_script", v)]) ∧ (∀ (H : Hp) (a : Addr) (ns : List Int), ns.length ≤ 63 → Only H → SqL K H a (ns.map V.int) → sp [.ref a] H (fun v _ => v = .bl true) fun _ _ _ => False) ∧ ∀ base : Heap, K.In base → base.Ns mainGlobals mg → FnOk P w K mg base L2.CX0 33 f fd ["_law_script"] sp := by
  have T : Tx fs fn K mg := ⟨c, h, X, G0⟩
  obtain ⟨fd, F⟩ := c.def_ 18 (d := d18) rfl
  have e := hfa.symm.trans (T.glo 56)
  cases e
  have b := FunD.bindsA (ps := ["_law_script"]) F fun _ _ _ _ _ _ us hl => match us, hl with | [_], _ => rfl
  exact ⟨fd, fun vs H Q _ => spF K (G K w) 1 (callF tbl 31 18) vs H Q fun _ _ _ => False, fun s v => b s [v] rfl, fun H a ns hl ho hS => top_sp rfl ho hS (hp ns hl), fun base _ _ => fn_top (fn18 T (all_ok T 30) F)⟩
end Gx_k53
end
section
set_option maxHeartbeats 0
section
open PySem PySem.W PySem.Calls PyProof.Rows
theorem Gx_k53.holds : PySem.Challenge.rw_bestcovers_k53_limits_of_unfolded_trees.Holds := by
  w_on; o_law
  refine HandSHeadRun.head_any (r := (PySem.W.OpenLaw.row PySem.Challenge.rw_bestcovers_k53_limits_of_unfolded_trees)) (q := view (PySem.W.OpenLaw.row PySem.Challenge.rw_bestcovers_k53_limits_of_unfolded_trees).prog [32]) (H := Gx_k53.hk) (ob := Gx_k53.ob) (M := 20000) (loose := Gx_k53.nms) (d := HandSHeadRun.topDef (PySem.W.OpenLaw.row PySem.Challenge.rw_bestcovers_k53_limits_of_unfolded_trees).prog 32) (kwd := []) Gx_k53.ob_eq
    (by kernel_rfl) (fun s => by kernel_rfl) Gx_k53.run (by kernel_rfl) (by kernel_rfl) (by kernel_rfl) (by rfl) (by first | assumption | decide +kernel) (by decide +kernel) ⟨rfl, rfl, rfl, rfl, rfl, by decide +kernel⟩ ?hw ?hc
  case hw => w_witness2
  case hc =>
    refine L2.walk_ofE (l := PySem.Challenge.rw_bestcovers_k53_limits_of_unfolded_trees) (n := 63) (k := 33) (x := "_law_script") (CX := L2.CX0) rfl (by decide) (by kernel_rfl) ⟨rfl, by decide, by decide⟩ ?F (fun _ _ _ _ z => z)
    intro w mg fa h Y G hmg0
    obtain ⟨K, KX, c⟩ := Y
    have hmg : mg ("law" : PySem.Str) = some (.ref fa) := by
      have e : (HandSHeadRun.topDef (OpenLaw.row PySem.Challenge.rw_bestcovers_k53_limits_of_unfolded_trees).prog 32).name = ("law" : PySem.Str) := by kernel_rfl
      rw [← e]
      exact hmg0
    obtain ⟨fd, sp, hb, hs, hF⟩ := Gx_k53.facts Gx_k53.plain (P := (PySem.Challenge.rw_bestcovers_k53_limits_of_unfolded_trees).prog) (w := w) KX G hmg c
    exact ⟨K, fd, sp, KX, hb, hs, hF⟩
end
end
theorem PySem.Challenge.cw_bestcovers_k53_limits_of_unfolded_trees_holds : PySem.Challenge.rw_bestcovers_k53_limits_of_unfolded_trees.Holds := by
  exact Gx_k53.holds
