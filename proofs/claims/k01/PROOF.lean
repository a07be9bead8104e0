import PyProof.Rows.All
import Wide.All
import OpenK.AllK
import Wide.FinOn
import HandS.ForMost
import HandS.Exc
import HandS.TryOnly
import HandS.ExcOwn
import HandS.WordsExc
import HandS.CallSlots
import HandS.TupAny
import HandS.Deep
import HandS.IsInst
import HandS.Style
import HandS.StrMore
import HandS.Codes
import HandS.Walk
import HandS.Defaults
import PySem.Challenge.RW_claimworlds_k01_names_told
set_option Elab.async false
set_option linter.all false
set_option maxRecDepth 100000
noncomputable section
namespace Pm
open PySem L2

/-! ## 1. The small machine: values, objects, answers -/
inductive D where
  | non | bl (b : Bool) | int (i : Int) | str (s : List Char) | tup (xs : List D) | ref (n : Nat) | kl (xs : List D)
  deriving Inhabited

mutual
def decD : (a b : D) → Decidable (a = b)
  | .non, .non => .isTrue rfl
  | .bl a, .bl b => if h : a = b then .isTrue (by rw [h]) else .isFalse (fun e => h (D.bl.inj e))
  | .int a, .int b => if h : a = b then .isTrue (by rw [h]) else .isFalse (fun e => h (D.int.inj e))
  | .str a, .str b => if h : a = b then .isTrue (by rw [h]) else .isFalse (fun e => h (D.str.inj e))
  | .tup a, .tup b => match decDs a b with
    | .isTrue h => .isTrue (by rw [h])
    | .isFalse h => .isFalse (fun e => h (D.tup.inj e))
  | .ref a, .ref b => if h : a = b then .isTrue (by rw [h]) else .isFalse (fun e => h (D.ref.inj e))
  | .kl a, .kl b => match decDs a b with
    | .isTrue h => .isTrue (by rw [h])
    | .isFalse h => .isFalse (fun e => h (D.kl.inj e))
  | .non, .bl _ | .non, .int _ | .non, .str _ | .non, .tup _ | .non, .ref _ | .non, .kl _ => .isFalse (fun e => nomatch e)
  | .bl _, .non | .bl _, .int _ | .bl _, .str _ | .bl _, .tup _ | .bl _, .ref _ | .bl _, .kl _ => .isFalse (fun e => nomatch e)
  | .int _, .non | .int _, .bl _ | .int _, .str _ | .int _, .tup _ | .int _, .ref _ | .int _, .kl _ => .isFalse (fun e => nomatch e)
  | .str _, .non | .str _, .bl _ | .str _, .int _ | .str _, .tup _ | .str _, .ref _ | .str _, .kl _ => .isFalse (fun e => nomatch e)
  | .tup _, .non | .tup _, .bl _ | .tup _, .int _ | .tup _, .str _ | .tup _, .ref _ | .tup _, .kl _ => .isFalse (fun e => nomatch e)
  | .ref _, .non | .ref _, .bl _ | .ref _, .int _ | .ref _, .str _ | .ref _, .tup _ | .ref _, .kl _ => .isFalse (fun e => nomatch e)
  | .kl _, .non | .kl _, .bl _ | .kl _, .int _ | .kl _, .str _ | .kl _, .tup _ | .kl _, .ref _ => .isFalse (fun e => nomatch e)
def decDs : (a b : List D) → Decidable (a = b)
  | [], [] => .isTrue rfl
  | [], _ :: _ => .isFalse (fun e => nomatch e)
  | _ :: _, [] => .isFalse (fun e => nomatch e)
  | x :: xs, y :: ys => match decD x y, decDs xs ys with
    | .isTrue h, .isTrue k => .isTrue (by rw [h, k])
    | .isFalse h, _ => .isFalse (fun e => h (List.cons.inj e).1)
    | _, .isFalse h => .isFalse (fun e => h (List.cons.inj e).2)
end
instance : DecidableEq D := decD

inductive AO where
  | lst (xs : List D)
  | ins (c : Nat) (fs : List (Str × D))

abbrev AH := List AO
inductive Rs (α : Type) where
  | ok (a : α) (h : AH)
  | exc (c : Nat) (fs : List (Str × D)) (h : AH)
  | bad
abbrev M (α : Type) := AH → Rs α

def Rs.bind {α β : Type} (r : Rs α) (f : α → AH → Rs β) : Rs β := match r with
  | .ok a h => f a h
  | .exc c fs h => .exc c fs h
  | .bad => .bad
@[simp] theorem Rs.bind_ok {α β : Type} (a : α) (h : AH) (f : α → AH → Rs β) : (Rs.ok a h).bind f = f a h := rfl
@[simp] theorem Rs.bind_exc {α β : Type} (c : Nat) (fs : List (Str × D)) (h : AH) (f : α → AH → Rs β) : (Rs.exc c fs h).bind f = .exc c fs h := rfl
@[simp] theorem Rs.bind_bad {α β : Type} (f : α → AH → Rs β) : (Rs.bad).bind f = .bad := rfl

abbrev CallT := Nat → List D → M D
abbrev Env' := List (Option D)
/-- an expression, a test, an argument list, a slice's part -/
abbrev SE := CallT → Env' → M D
abbrev ST := CallT → Env' → M Bool
abbrev SA := CallT → Env' → M (List D)
abbrev SO := CallT → Env' → M (Option Int)

inductive RS where
  | next (ρ : Env') (h : AH)
  | ret (d : D) (h : AH)
  | brk (ρ : Env') (h : AH)
  | cnt (ρ : Env') (h : AH)
  | exc (c : Nat) (fs : List (Str × D)) (ρ : Env') (h : AH)
  | bad
abbrev SS := CallT → Env' → AH → RS

/-! ## 2. Operations on values -/
def alloc (o : AO) : M D := fun h => .ok (.ref h.length) (h ++ [o])
open Classical in
noncomputable def chk {α : Type} (c : Prop) (r : Rs α) : Rs α := if c then r else .bad
@[simp] theorem chk_pos {α : Type} {c : Prop} {r : Rs α} (h : c) : chk c r = r := if_pos h

/-- the items of what is read as a list or a tuple -/
def itemsOf (d : D) (h : AH) : Option (List D) := match d with
  | .tup xs => some xs
  | .kl xs => some xs
  | .ref n => match h[n]? with
    | some (.lst xs) => some xs
    | _ => none
  | _ => none

def pLen (d : D) : M D := fun h => match d with
  | .str s => chk (s.length ≤ sizeLine) (.ok (.int s.length) h)
  | d => match itemsOf d h with
    | some xs => .ok (.int xs.length) h
    | none => .bad
def pTup (ds : List D) : M D := fun h => chk (ds.length ≤ sizeLine) (.ok (.tup ds) h)
def pLst (ds : List D) : M D := fun h => chk (ds.length ≤ sizeLine) (alloc (.lst ds) h)
def pAdd (a b : D) : M D := fun h => match a, b with
  | .int i, .int j => .ok (.int (i + j)) h
  | .str s, .str t => chk (s.length + t.length ≤ sizeLine) (.ok (.str (s ++ t)) h)
  | .tup s, .tup t => chk (s.length + t.length ≤ sizeLine) (.ok (.tup (s ++ t)) h)
  | .ref m, .ref n => match h[m]?, h[n]? with
    | some (.lst xs), some (.lst ys) => chk (xs.length + ys.length ≤ sizeLine) (alloc (.lst (xs ++ ys)) h)
    | _, _ => .bad
  | _, _ => .bad
def pSub (a b : D) : M D := fun h => match a, b with
  | .int i, .int j => .ok (.int (i - j)) h
  | _, _ => .bad
def rep {α : Type} (n : Nat) (s : List α) : List α := (List.replicate n s).flatten
def pMul (a b : D) : M D := fun h => match a, b with
  | .int i, .int j => chk ((-(2 ^ 64) < i ∧ i < 2 ^ 64) ∨ (-(2 ^ 64) < j ∧ j < 2 ^ 64)) (.ok (.int (i * j)) h)
  | .str s, .int j => chk (0 ≤ j ∧ j ≤ 1000 ∧ s.length ≤ 1000) (.ok (.str (rep j.toNat s)) h)
  | .ref m, .int j => match h[m]? with
    | some (.lst xs) => chk (-(2 ^ 63) ≤ j ∧ j < 2 ^ 63 ∧ xs.length * j.toNat ≤ sizeLine) (alloc (.lst (rep j.toNat xs)) h)
    | _ => .bad
  | _, _ => .bad
def pMod (a b : D) : M D := fun h => match a, b with
  | .int i, .int j => chk (0 < j) (.ok (.int (i % j)) h)
  | _, _ => .bad
def pFdiv (a b : D) : M D := fun h => match a, b with
  | .int i, .int j => chk (0 < j ∧ j < 1073741824) (.ok (.int (i / j)) h)
  | _, _ => .bad
def pPow (a b : D) : M D := fun h => match a, b with
  | .int i, .int j => chk (0 ≤ j ∧ j ≤ 1000000 ∧ i.natAbs < 2 ^ 64) (.ok (.int (i ^ j.toNat)) h)
  | _, _ => .bad
def pNeg (a : D) : M D := fun h => match a with
  | .int i => .ok (.int (-i)) h
  | _ => .bad

/-! ### == -/
def toS (s : List Char) : Str := ⟨(s.map Char.toNat).toArray⟩
mutual
/-- the data that a value stands for -/
def pd (r : Nat → Option PyData) : D → Option PyData
  | .non => some .none
  | .bl b => some (.bool b)
  | .int i => some (.int i)
  | .str s => some (.str (toS s))
  | .tup xs => match pds r xs with
    | some ys => some (.tuple ys)
    | none => none
  | .kl xs => match pds r xs with
    | some ys => some (.list ys)
    | none => none
  | .ref k => r k
def pds (r : Nat → Option PyData) : List D → Option (List PyData)
  | [] => some []
  | d :: ds => match pd r d, pds r ds with
    | some x, some xs => some (x :: xs)
    | _, _ => none
end
/-- lists are read at most n deep -/
def rd (h : AH) : Nat → Nat → Option PyData
  | 0, _ => none
  | n + 1, k => match h[k]? with
    | some (.lst xs) => match pds (rd h n) xs with
      | some ys => some (.list ys)
      | none => none
    | _ => none
/-- the scalars that == tells apart -/
def scalEq : D → D → Option Bool
  | .non, .non => some true
  | .int i, .int j => some (decide (i = j))
  | .bl i, .bl j => some (decide (i = j))
  | .str i, .str j => some (decide (i = j))
  | .non, .int _ | .int _, .non | .non, .bl _ | .bl _, .non | .non, .str _ | .str _, .non => some false
  | .int _, .str _ | .str _, .int _ | .bl _, .str _ | .str _, .bl _ => some false
  | _, _ => none
def eqD (h : AH) (a b : D) : Option Bool := match scalEq a b with
  | some r => some r
  | none => match pd (rd h 8) a, pd (rd h 8) b with
    | some x, some y => if SeqAt.shaped x = true ∧ SeqAt.shaped y = true then some (PyData.eqv x y) else none
    | _, _ => none
def pEq (a b : D) : M D := fun h => match eqD h a b with
  | some r => .ok (.bl r) h
  | none => .bad
def pNe (a b : D) : M D := fun h => match eqD h a b with
  | some r => .ok (.bl (!r)) h
  | none => .bad
def pIs (a b : D) : M D := fun h => match a, b with
  | x, .non => .ok (.bl (decide (x = .non))) h
  | .bl x, .bl y => .ok (.bl (decide (x = y))) h
  | _, _ => .bad
def pIsNot (a b : D) : M D := fun h => match a, b with
  | x, .non => .ok (.bl (!decide (x = .non))) h
  | .bl x, .bl y => .ok (.bl (!decide (x = y))) h
  | _, _ => .bad
/-- the order of texts by their codes -/
def strLt (s t : List Char) : Bool := decide (s.map Char.toNat < t.map Char.toNat)
def pLt (a b : D) : M D := fun h => match a, b with
  | .int i, .int j => .ok (.bl (decide (i < j))) h
  | .str i, .str j => .ok (.bl (strLt i j)) h
  | _, _ => .bad
def pGt (a b : D) : M D := fun h => match a, b with
  | .int i, .int j => .ok (.bl (decide (j < i))) h
  | .str i, .str j => .ok (.bl (strLt j i)) h
  | _, _ => .bad
def pLe (a b : D) : M D := fun h => match a, b with
  | .int i, .int j => .ok (.bl (decide (i ≤ j))) h
  | .str i, .str j => .ok (.bl (!strLt j i)) h
  | _, _ => .bad
def pGe (a b : D) : M D := fun h => match a, b with
  | .int i, .int j => .ok (.bl (decide (j ≤ i))) h
  | .str i, .str j => .ok (.bl (!strLt i j)) h
  | _, _ => .bad
def flatD : D → Bool
  | .tup _ => false
  | .ref _ => false
  | .kl _ => false
  | _ => true
/-- == of flat values -/
def flatEq : D → D → Bool
  | .non, .non => true
  | .bl a, .bl b => a == b
  | .bl a, .int b => (if a then 1 else 0) == b
  | .int a, .bl b => a == (if b then 1 else 0)
  | .int a, .int b => a == b
  | .str a, .str b => a == b
  | _, _ => false
def anyEqv (x : PyData) (ys : List PyData) : Bool := ys.any fun z => PyData.eqv z x
def inD (h : AH) (a b : D) : Option Bool := match a, b with
  | .str [c], .str t => some (decide (c ∈ t))
  | x, y => match itemsOf y h with
    | some xs =>
      if flatD x = true ∧ xs.all flatD = true then some (xs.any fun z => flatEq z x) else
      match y, pd (rd h 8) x, pd (rd h 8) y with
      | .kl _, some p, some (.list ys) => if SeqAt.shaped p = true ∧ SeqAt.shaped (.list ys) = true then some (anyEqv p ys) else none
      | .ref _, some p, some (.list ys) => if SeqAt.shaped p = true ∧ SeqAt.shaped (.list ys) = true then some (anyEqv p ys) else none
      | _, _, _ => none
    | none => none
def pIn (a b : D) : M D := fun h => match inD h a b with
  | some r => .ok (.bl r) h
  | none => .bad
def pNotIn (a b : D) : M D := fun h => match inD h a b with
  | some r => .ok (.bl (!r)) h
  | none => .bad

/-! ### items, slices -/
def pIx (a b : D) : M D := fun h => match a, b with
  | .str s, .int i => match atI s i with
    | some c => chk (s.length ≤ sizeLine) (.ok (.str [c]) h)
    | none => .bad
  | d, .int i => match itemsOf d h with
    | some xs => match atI xs i with
      | some x => .ok x h
      | none => .bad
    | none => .bad
  | _, _ => .bad
def cut {α : Type} (xs : List α) (lo hi : Option Int) : List α := (xs.drop (HT.sIx xs.length 0 lo)).take (HT.sIx xs.length xs.length hi - HT.sIx xs.length 0 lo)
def pSl (a : D) (lo hi : Option Int) : M D := fun h => match a with
  | .str s => chk (s.length ≤ sizeLine) (.ok (.str (cut s lo hi)) h)
  | .tup xs => .ok (.tup (cut xs lo hi)) h
  | .kl xs => alloc (.lst (cut xs lo hi)) h
  | .ref n => match itemsOf (.ref n) h with
    | some xs => alloc (.lst (cut xs lo hi)) h
    | none => .bad
  | _ => .bad
def pRev (a : D) : M D := fun h => match a with
  | .kl xs => alloc (.lst xs.reverse) h
  | .ref n => match itemsOf (.ref n) h with
    | some xs => alloc (.lst xs.reverse) h
    | none => .bad
  | _ => .bad

/-! ### truth -/
def pTru (a : D) : M Bool := fun h => match a with
  | .non => .ok false h
  | .bl b => .ok b h
  | .int i => .ok (i != 0) h
  | .str s => chk (s.length ≤ sizeLine) (.ok (!s.isEmpty) h)
  | .tup xs => .ok (!xs.isEmpty) h
  | .kl xs => .ok (!xs.isEmpty) h
  | .ref n => match itemsOf (.ref n) h with
    | some xs => .ok (!xs.isEmpty) h
    | none => .bad
def pBool (a : D) : M Bool := fun h => match a with
  | .bl b => .ok b h
  | _ => .bad

/-! ### built-in functions -/
inductive Ty where
  | bool | int | str | tuple | list
  deriving DecidableEq
def isTy (t : Ty) (d : D) (h : AH) : Option Bool := match d with
  | .non => some false
  | .bl _ => some (t == .bool || t == .int)
  | .int _ => some (t == .int)
  | .str _ => some (t == .str)
  | .tup _ => some (t == .tuple)
  | .kl _ => some (t == .list)
  | .ref n => match h[n]? with
    | some (.lst _) => some (t == .list)
    | _ => none
def pIsi (t : Ty) (d : D) : M D := fun h => match isTy t d h with
  | some b => .ok (.bl b) h
  | none => .bad
inductive Bi where
  | len | int | tuple | list | abs | max2 | min2
  deriving DecidableEq
def pBi (b : Bi) (ds : List D) : M D := fun h => match b, ds with
  | .len, [d] => pLen d h
  | .int, [.int i] => .ok (.int i) h
  | .int, [.bl k] => .ok (.int (if k then 1 else 0)) h
  | .tuple, [d] => match itemsOf d h with
    | some xs => .ok (.tup xs) h
    | none => .bad
  | .list, [d] => match itemsOf d h with
    | some xs => alloc (.lst xs) h
    | none => .bad
  | .abs, [.int i] => .ok (.int (if i < 0 then -i else i)) h
  | .max2, [.int i, .int j] => .ok (.int (if j > i then j else i)) h
  | .min2, [.int i, .int j] => .ok (.int (if j < i then j else i)) h
  | _, _ => .bad

/-! ### built-in methods -/
def strsOf : List D → Option (List (List Char))
  | [] => some []
  | .str s :: ds => match strsOf ds with
    | some r => some (s :: r)
    | none => none
  | _ :: _ => none
def joinS (sep : List Char) : List (List Char) → List Char
  | [] => []
  | [s] => s
  | s :: t :: r => s ++ sep ++ joinS sep (t :: r)
def joinLen (sep : List Char) (ys : List (List Char)) : Nat := (ys.map fun y => y.length + sep.length).sum
def upC (c : Char) : Char := if 97 ≤ c.toNat ∧ c.toNat ≤ 122 then Char.ofNat (c.toNat - 32) else c
inductive Bm where
  | join | upper | append
  deriving DecidableEq
def bmTy : Bm → Ty
  | .append => .list
  | _ => .str
def pBm (b : Bm) (o : D) (ds : List D) : M D := fun h => match b, o, ds with
  | .join, .str sep, [d] => match itemsOf d h with
    | some xs => match strsOf xs with
      | some ys => chk (joinLen sep ys ≤ sizeLine) (.ok (.str (joinS sep ys)) h)
      | none => .bad
    | none => .bad
  | .upper, .str s, [] => chk (s.length ≤ 5592405 ∧ s.all (fun c => c.toNat < 128) = true) (.ok (.str (s.map upC)) h)
  | .append, .ref n, [d] => match h[n]? with
    | some (.lst xs) => chk (xs.length < sizeLine) (.ok .non (h.set n (.lst (xs ++ [d]))))
    | _ => .bad
  | _, _, _ => .bad

/-! ## 3. The words of expressions -/
def sCst (d : D) : SE := fun _ _ h => .ok d h
def sVar (i : Nat) : SE := fun _ ρ h => match ρ[i]? with
  | some (some d) => .ok d h
  | _ => .bad
def sNil : SA := fun _ _ h => .ok [] h
def sCons (a : SE) (r : SA) : SA := fun c ρ h => (a c ρ h).bind fun x h1 => (r c ρ h1).bind fun xs h2 => .ok (x :: xs) h2
def sN (f : List D → M D) (es : SA) : SE := fun c ρ h => (es c ρ h).bind fun xs h1 => f xs h1
def sOp1 (f : D → M D) (a : SE) : SE := fun c ρ h => (a c ρ h).bind fun x h1 => f x h1
def sOp2 (f : D → D → M D) (a b : SE) : SE := fun c ρ h => (a c ρ h).bind fun x h1 => (b c ρ h1).bind fun y h2 => f x y h2
def sCh (f g : D → D → M D) (a b e : SE) : SE := fun c ρ h => (a c ρ h).bind fun x h1 => (b c ρ h1).bind fun y h2 => (f x y h2).bind fun z h3 => (pBool z h3).bind fun k h4 =>
  if k = true then (e c ρ h4).bind fun w h5 => g y w h5 else .ok (.bl false) h4
def sAnd (a b : SE) : SE := fun c ρ h => (a c ρ h).bind fun x h1 => (pBool x h1).bind fun k h2 => if k = true then b c ρ h2 else .ok (.bl false) h2
def sOr (a b : SE) : SE := fun c ρ h => (a c ρ h).bind fun x h1 => (pBool x h1).bind fun k h2 => if k = true then .ok (.bl true) h2 else b c ρ h2
def sNot (a : SE) : SE := fun c ρ h => (a c ρ h).bind fun x h1 => (pBool x h1).bind fun k h2 => .ok (.bl (!k)) h2
def sIte (t : ST) (a b : SE) : SE := fun c ρ h => (t c ρ h).bind fun k h1 => if k = true then a c ρ h1 else b c ρ h1
def sCall (f : Nat) (es : SA) : SE := fun c ρ h => (es c ρ h).bind fun xs h1 => c f xs h1
def oNone : SO := fun _ _ h => .ok none h
def oSome (a : SE) : SO := fun c ρ h => (a c ρ h).bind fun x h1 => match x with
  | .int i => .ok (some i) h1
  | _ => .bad
def sSl (a : SE) (lo hi : SO) : SE := fun c ρ h => (a c ρ h).bind fun x h1 => (lo c ρ h1).bind fun l h2 => (hi c ρ h2).bind fun u h3 => pSl x l u h3
def sBm (b : Bm) (o : SE) (es : SA) : SE := fun c ρ h => (o c ρ h).bind fun x h1 => if isTy (bmTy b) x h1 = some true then (es c ρ h1).bind fun xs h2 => pBm b x xs h2 else .bad
/-- the same with what is told of the object first -/
def tTru (a : SE) : ST := fun c ρ h => (a c ρ h).bind fun x h1 => pTru x h1
def tBoo (a : SE) : ST := fun c ρ h => (a c ρ h).bind fun x h1 => pBool x h1
def tAn (a b : ST) : ST := fun c ρ h => (a c ρ h).bind fun k h1 => if k = true then b c ρ h1 else .ok false h1
def tO (a b : ST) : ST := fun c ρ h => (a c ρ h).bind fun k h1 => if k = true then .ok true h1 else b c ρ h1
def tNo (a : ST) : ST := fun c ρ h => (a c ρ h).bind fun k h1 => .ok (!k) h1

/-! ### what is walked -/
structure Src where
  /-- the list that stands while it is walked -/
  of : Option Nat
  xs : List D
abbrev SI := CallT → Env' → M Src
def srcOf (d : D) : M Src := fun h => match d with
  | .str s => .ok ⟨none, s.map fun c => .str [c]⟩ h
  | .tup xs => .ok ⟨none, xs⟩ h
  | .kl xs => .ok ⟨none, xs⟩ h
  | .ref n => match itemsOf (.ref n) h with
    | some xs => .ok ⟨some n, xs⟩ h
    | none => .bad
  | _ => .bad
def iVal (a : SE) : SI := fun c ρ h => (a c ρ h).bind fun x h1 => srcOf x h1
def rngL (i j : Int) : List D := (List.range (j - i).toNat).map fun k => .int (i + (k : Nat))
def srcR (ds : List D) : M Src := fun h => match ds with
  | [.int j] => chk (-(2 ^ 62) ≤ j ∧ j < 2 ^ 62) (.ok ⟨none, rngL 0 j⟩ h)
  | [.int i, .int j] => chk (-(2 ^ 62) ≤ i ∧ i < 2 ^ 62 ∧ -(2 ^ 62) ≤ j ∧ j < 2 ^ 62) (.ok ⟨none, rngL i j⟩ h)
  | _ => .bad
def iRng (es : SA) : SI := fun c ρ h => (es c ρ h).bind fun xs h1 => srcR xs h1
/-- the walked list is as it was -/
def stands (o : Option Nat) (xs : List D) (h : AH) : Bool := match o with
  | none => true
  | some n => decide (itemsOf (.ref n) h = some xs)

/-- targets -/
abbrev TGT := D → Env' → Option Env'
def gVar (i : Nat) : TGT := fun d ρ => some (ρ.set i (some d))

def wipe' (ρ : Env') : List Nat → Env'
  | [] => ρ
  | v :: vs => (wipe' ρ vs).set v none

/-- a comprehension's turns; nothing may be raised within -/
def lcL (st : AH → Bool) (g : TGT) (ρ : Env') (t : Env' → M Bool) (e : Env' → M D) : List D → AH → Rs (List D)
  | [], h => if st h = true then .ok [] h else .bad
  | x :: xs, h => if st h = true then match g x ρ with
    | none => .bad
    | some ρ1 => match t ρ1 h with
      | .ok true h1 => match e ρ1 h1 with
        | .ok y h2 => match lcL st g ρ t e xs h2 with
          | .ok ys h3 => .ok (y :: ys) h3
          | _ => .bad
        | _ => .bad
      | .ok false h1 => lcL st g ρ t e xs h1
      | _ => .bad
    else .bad
def tYesS : ST := fun _ _ h => .ok true h
def sLc (own : List Nat) (g : TGT) (it : SI) (t : ST) (e : SE) : SE := fun c ρ h => (it c ρ h).bind fun s h1 =>
  match lcL (stands s.of s.xs) g (wipe' ρ own) (t c) (e c) s.xs h1 with
  | .ok ys h2 => chk (ys.length ≤ sizeLine) (alloc (.lst ys) h2)
  | _ => .bad

/-! ## 4. The words of statements -/
def RS.seq (r : RS) (f : Env' → AH → RS) : RS := match r with
  | .next ρ h => f ρ h
  | r => r
@[simp] theorem RS.seq_next (ρ : Env') (h : AH) (f : Env' → AH → RS) : (RS.next ρ h).seq f = f ρ h := rfl
@[simp] theorem RS.seq_ret (d : D) (h : AH) (f : Env' → AH → RS) : (RS.ret d h).seq f = .ret d h := rfl
@[simp] theorem RS.seq_brk (ρ : Env') (h : AH) (f : Env' → AH → RS) : (RS.brk ρ h).seq f = .brk ρ h := rfl
@[simp] theorem RS.seq_cnt (ρ : Env') (h : AH) (f : Env' → AH → RS) : (RS.cnt ρ h).seq f = .cnt ρ h := rfl
@[simp] theorem RS.seq_exc (c : Nat) (fs : List (Str × D)) (ρ : Env') (h : AH) (f : Env' → AH → RS) : (RS.exc c fs ρ h).seq f = .exc c fs ρ h := rfl
@[simp] theorem RS.seq_bad (f : Env' → AH → RS) : (RS.bad).seq f = .bad := rfl
/-- an expression's answer within a statement -/
def Rs.st {α : Type} (r : Rs α) (ρ : Env') (f : α → AH → RS) : RS := match r with
  | .ok a h => f a h
  | .exc c fs h => .exc c fs ρ h
  | .bad => .bad
@[simp] theorem Rs.st_ok {α : Type} (a : α) (h : AH) (ρ : Env') (f : α → AH → RS) : (Rs.ok a h).st ρ f = f a h := rfl
@[simp] theorem Rs.st_exc {α : Type} (c : Nat) (fs : List (Str × D)) (h : AH) (ρ : Env') (f : α → AH → RS) : (Rs.exc c fs h).st ρ f = .exc c fs ρ h := rfl
@[simp] theorem Rs.st_bad {α : Type} (ρ : Env') (f : α → AH → RS) : (Rs.bad).st ρ f = .bad := rfl

def kNil : SS := fun _ ρ h => .next ρ h
def kSeq (a b : SS) : SS := fun c ρ h => (a c ρ h).seq fun ρ1 h1 => b c ρ1 h1
def kSet (g : TGT) (a : SE) : SS := fun c ρ h => (a c ρ h).st ρ fun x h1 => match g x ρ with
  | some ρ1 => .next ρ1 h1
  | none => .bad
def kExpr (a : SE) : SS := fun c ρ h => (a c ρ h).st ρ fun _ h1 => .next ρ h1
def kRet (a : SE) : SS := fun c ρ h => (a c ρ h).st ρ fun x h1 => .ret x h1
def kRetN : SS := fun _ _ h => .ret .non h
def kIf (t : ST) (a b : SS) : SS := fun c ρ h => (t c ρ h).st ρ fun k h1 => if k = true then a c ρ h1 else b c ρ h1
def kBrk : SS := fun _ ρ h => .brk ρ h
def kCnt : SS := fun _ ρ h => .cnt ρ h
def forL (st : AH → Bool) (g : TGT) (body : Env' → AH → RS) : List D → Env' → AH → RS
  | [], ρ, h => if st h = true then .next ρ h else .bad
  | x :: xs, ρ, h => if st h = true then match g x ρ with
    | none => .bad
    | some ρ1 => match body ρ1 h with
      | .next ρ2 h2 => forL st g body xs ρ2 h2
      | .cnt ρ2 h2 => forL st g body xs ρ2 h2
      | .brk ρ2 h2 => .next ρ2 h2
      | r => r
    else .bad
def kFor (g : TGT) (it : SI) (body : SS) : SS := fun c ρ h => (it c ρ h).st ρ fun s h1 => forL (stands s.of s.xs) g (body c) s.xs ρ h1
def whileL (t : Env' → M Bool) (body : Env' → AH → RS) : Nat → Env' → AH → RS
  | 0, _, _ => .bad
  | n + 1, ρ, h => (t ρ h).st ρ fun k h1 => if k = true then match body ρ h1 with
      | .next ρ2 h2 => whileL t body n ρ2 h2
      | .cnt ρ2 h2 => whileL t body n ρ2 h2
      | .brk ρ2 h2 => .next ρ2 h2
      | r => r
    else .next ρ h1
def whileFuel : Nat := 1000000
def kWhile (t : ST) (body : SS) : SS := fun c ρ h => whileL (t c) (body c) whileFuel ρ h
def kSetIx (o i v : SE) : SS := fun c ρ h => (v c ρ h).st ρ fun z h1 => (o c ρ h1).st ρ fun x h2 => (i c ρ h2).st ρ fun y h3 => match x, y with
  | .ref n, .int k => match h3[n]? with
    | some (.lst xs) => match ixN xs.length k with
      | some j => .next ρ (h3.set n (.lst (xs.set j z)))
      | none => .bad
    | _ => .bad
  | _, _ => .bad

/-! ## 5. Functions -/
structure FB where
  np : Nat
  nn : Nat
  body : SS
def RS.out (r : RS) : Rs D := match r with
  | .next _ h => .ok .non h
  | .ret d h => .ok d h
  | .exc c fs _ h => .exc c fs h
  | _ => .bad
def start' (nn : Nat) (ds : List D) : Env' := ds.map some ++ List.replicate (nn - ds.length) none
def callF (fs : Nat → Option FB) : Nat → CallT
  | 0 => fun _ _ _ => .bad
  | n + 1 => fun f ds h => match fs f with
    | none => .bad
    | some b => if ds.length = b.np then (b.body (callF fs n) (start' b.nn ds) h).out else .bad
end Pm

set_option maxRecDepth 100000
set_option maxHeartbeats 1000000
noncomputable section
namespace Pm
open PySem L2

/-! ## 6. What stands for what -/
/-- a list that never changes: locked, or the module's own -/
def SqK (K : PySem.W.Frag) (H : Hp) (a : Addr) (xs : List V) : Prop :=
  (∃ o, H a = some (.frz o (.lst xs))) ∨
    ∃ (o : Obj) (its : Array Value) (n : Nat), K.lookup a = some o ∧ o.cls = .type "list" ∧ o.dict = none ∧ o.data = .seq its n ∧ its.size ≤ sizeLine ∧ Vals xs its.toList
theorem SqK.sq {K : PySem.W.Frag} {H : Hp} {a : Addr} {xs : List V} (h : SqK K H a xs) : SqL K H a xs := by
  rcases h with ⟨o, h⟩ | h
  · exact .inl (.inr ⟨o, h⟩)
  · exact .inr h
mutual
inductive RelD (K : PySem.W.Frag) (μ : List Addr) (H : Hp) : D → V → Prop
  | non : RelD K μ H .non .non
  | bl (b : Bool) : RelD K μ H (.bl b) (.bl b)
  | int (i : Int) : RelD K μ H (.int i) (.int i)
  | str (s : List Char) : RelD K μ H (.str s) (.str (toS s))
  | tup {xs : List D} {a : Addr} {vs : List V} : SqT K H a vs → RelDs K μ H xs vs → RelD K μ H (.tup xs) (.ref a)
  | ref {n : Nat} {a : Addr} : μ[n]? = some a → RelD K μ H (.ref n) (.ref a)
  | kl {xs : List D} {a : Addr} {vs : List V} : SqK K H a vs → RelDs K μ H xs vs → RelD K μ H (.kl xs) (.ref a)
inductive RelDs (K : PySem.W.Frag) (μ : List Addr) (H : Hp) : List D → List V → Prop
  | nil : RelDs K μ H [] []
  | cons {d : D} {v : V} {ds : List D} {vs : List V} : RelD K μ H d v → RelDs K μ H ds vs → RelDs K μ H (d :: ds) (v :: vs)
end
/-- what was tracked and is not the machine's own, or never changes, stays -/
structure Ext (μ : List Addr) (H : Hp) (μ' : List Addr) (H' : Hp) : Prop where
  pre : ∀ (n : Nat) (a : Addr), μ[n]? = some a → μ'[n]? = some a
  keep : ∀ (a : Addr) (o : HO), H a = some o → (a ∉ μ ∨ ¬ Mut (some o)) → H' a = some o
  new : ∀ a : Addr, a ∈ μ' → a ∈ μ ∨ H a = none
theorem Ext.refl (μ : List Addr) (H : Hp) : Ext μ H μ H := ⟨fun _ _ h => h, fun _ _ h _ => h, fun _ h => .inl h⟩
theorem Ext.sub {μ μ' : List Addr} {H H' : Hp} (e : Ext μ H μ' H') {a : Addr} (h : a ∈ μ) : a ∈ μ' := by
  obtain ⟨n, hn⟩ := List.getElem?_of_mem h
  exact List.mem_of_getElem? (e.pre n a hn)
theorem Ext.trans {μ μ1 μ2 : List Addr} {H H1 H2 : Hp} (e : Ext μ H μ1 H1) (f : Ext μ1 H1 μ2 H2) : Ext μ H μ2 H2 := by
  refine ⟨fun n a h => f.pre n a (e.pre n a h), fun a o h c => ?_, fun a h => ?_⟩
  · have h1 := e.keep a o h c
    refine f.keep a o h1 ?_
    rcases c with c | c
    · refine .inl fun hm => ?_
      rcases e.new a hm with q | q
      · exact c q
      · rw [h] at q; cases q
    · exact .inr c
  · rcases f.new a h with q | q
    · exact e.new a q
    · cases r : H a with
      | none => exact .inr rfl
      | some o =>
        by_cases hm : a ∈ μ
        · exact .inl hm
        · have := e.keep a o r (.inl hm)
          rw [this] at q; cases q
theorem Ext.sqT {K : PySem.W.Frag} {μ μ' : List Addr} {H H' : Hp} (e : Ext μ H μ' H') {a : Addr} {vs : List V} (h : SqT K H a vs) : SqT K H' a vs := by
  rcases h with (h | ⟨o, h⟩) | h
  · exact .inl (.inl (e.keep _ _ h (.inr id)))
  · exact .inl (.inr ⟨o, e.keep _ _ h (.inr id)⟩)
  · exact .inr h
theorem Ext.sqK {K : PySem.W.Frag} {μ μ' : List Addr} {H H' : Hp} (e : Ext μ H μ' H') {a : Addr} {vs : List V} (h : SqK K H a vs) : SqK K H' a vs := by
  rcases h with ⟨o, h⟩ | h
  · exact .inl ⟨o, e.keep _ _ h (.inr id)⟩
  · exact .inr h
mutual
theorem RelD.mono {K : PySem.W.Frag} {μ μ' : List Addr} {H H' : Hp} (e : Ext μ H μ' H') : ∀ {d : D} {v : V}, RelD K μ H d v → RelD K μ' H' d v
  | _, _, .non => .non
  | _, _, .bl b => .bl b
  | _, _, .int i => .int i
  | _, _, .str s => .str s
  | _, _, .tup h hs => .tup (e.sqT h) (RelDs.mono e hs)
  | _, _, .ref h => .ref (e.pre _ _ h)
  | _, _, .kl h hs => .kl (e.sqK h) (RelDs.mono e hs)
theorem RelDs.mono {K : PySem.W.Frag} {μ μ' : List Addr} {H H' : Hp} (e : Ext μ H μ' H') : ∀ {ds : List D} {vs : List V}, RelDs K μ H ds vs → RelDs K μ' H' ds vs
  | _, _, .nil => .nil
  | _, _, .cons h hs => .cons (RelD.mono e h) (RelDs.mono e hs)
end
section
variable {K : PySem.W.Frag} {μ : List Addr} {H : Hp}
theorem RelDs.length : ∀ {ds : List D} {vs : List V}, RelDs K μ H ds vs → ds.length = vs.length
  | _, _, .nil => rfl
  | _, _, .cons _ hs => congrArg Nat.succ (RelDs.length hs)
theorem RelDs.get : ∀ {ds : List D} {vs : List V} {i : Nat} {d : D}, RelDs K μ H ds vs → ds[i]? = some d → ∃ v, vs[i]? = some v ∧ RelD K μ H d v
  | _, _, _, _, .nil, h => by simp at h
  | _, _, 0, _, .cons h _, e => by simp at e; subst e; exact ⟨_, rfl, h⟩
  | _, _, i + 1, _, .cons _ hs, e => by
    obtain ⟨v, h1, h2⟩ := RelDs.get (i := i) hs (by simpa using e)
    exact ⟨v, by simpa using h1, h2⟩
theorem RelDs.getV : ∀ {ds : List D} {vs : List V} {i : Nat} {v : V}, RelDs K μ H ds vs → vs[i]? = some v → ∃ d, ds[i]? = some d ∧ RelD K μ H d v
  | _, _, _, _, .nil, h => by simp at h
  | _, _, 0, _, .cons h _, e => by simp at e; subst e; exact ⟨_, rfl, h⟩
  | _, _, i + 1, _, .cons _ hs, e => by
    obtain ⟨v, h1, h2⟩ := RelDs.getV (i := i) hs (by simpa using e)
    exact ⟨v, by simpa using h1, h2⟩
theorem RelDs.append : ∀ {ds es : List D} {vs ws : List V}, RelDs K μ H ds vs → RelDs K μ H es ws → RelDs K μ H (ds ++ es) (vs ++ ws)
  | _, _, _, _, .nil, h => h
  | _, _, _, _, .cons h hs, k => .cons h (RelDs.append hs k)
theorem RelDs.take : ∀ {ds : List D} {vs : List V} (n : Nat), RelDs K μ H ds vs → RelDs K μ H (ds.take n) (vs.take n)
  | _, _, 0, _ => by simp; exact .nil
  | _, _, _ + 1, .nil => .nil
  | _, _, n + 1, .cons h hs => .cons h (RelDs.take n hs)
theorem RelDs.drop : ∀ {ds : List D} {vs : List V} (n : Nat), RelDs K μ H ds vs → RelDs K μ H (ds.drop n) (vs.drop n)
  | _, _, 0, h => h
  | _, _, _ + 1, .nil => .nil
  | _, _, n + 1, .cons _ hs => RelDs.drop n hs
theorem RelDs.set : ∀ {ds : List D} {vs : List V} (n : Nat) {d : D} {v : V}, RelDs K μ H ds vs → RelD K μ H d v → RelDs K μ H (ds.set n d) (vs.set n v)
  | _, _, _, _, _, .nil, _ => .nil
  | _, _, 0, _, _, .cons _ hs, k => .cons k hs
  | _, _, n + 1, _, _, .cons h hs, k => .cons h (RelDs.set n hs k)
theorem RelDs.reverse {ds : List D} {vs : List V} (h : RelDs K μ H ds vs) : RelDs K μ H ds.reverse vs.reverse := by
  induction ds generalizing vs with
  | nil => cases h; exact .nil
  | cons d ds ih =>
    cases h with
    | cons h hs => rw [List.reverse_cons, List.reverse_cons]; exact RelDs.append (ih hs) (.cons h .nil)
theorem RelDs.rep {ds : List D} {vs : List V} (h : RelDs K μ H ds vs) : ∀ k : Nat, RelDs K μ H (Pm.rep k ds) (List.replicate k vs).flatten
  | 0 => .nil
  | k + 1 => by
    unfold Pm.rep
    rw [List.replicate_succ, List.replicate_succ, List.flatten_cons, List.flatten_cons]
    exact RelDs.append h (RelDs.rep h k)
theorem RelDs.cut {ds : List D} {vs : List V} (h : RelDs K μ H ds vs) (lo hi : Option Int) : RelDs K μ H (Pm.cut ds lo hi) (cutV vs lo hi) := by
  unfold Pm.cut cutV
  rw [h.length]
  exact (h.drop _).take _
end
def RelFs (K : PySem.W.Frag) (μ : List Addr) (H : Hp) (fs : List (Str × D)) (gs : List (Str × V)) : Prop := fs.map (·.1) = gs.map (·.1) ∧ RelDs K μ H (fs.map (·.2)) (gs.map (·.2))
theorem RelFs.mono {K : PySem.W.Frag} {μ μ' : List Addr} {H H' : Hp} (e : Ext μ H μ' H') {fs : List (Str × D)} {gs : List (Str × V)} (h : RelFs K μ H fs gs) : RelFs K μ' H' fs gs := ⟨h.1, h.2.mono e⟩

/-- an object of the machine at its address; ca: the classes -/
def RelO (K : PySem.W.Frag) (ca : Nat → Addr) (μ : List Addr) (H : Hp) (a : Addr) : AO → Prop
  | .lst xs => ∃ vs, H a = some (.lst vs) ∧ RelDs K μ H xs vs
  | .ins c fs => ∃ dx gs, H a = some (.ins (ca c) dx gs) ∧ RelFs K μ H fs gs
structure RelH (K : PySem.W.Frag) (ca : Nat → Addr) (μ : List Addr) (H : Hp) (h : AH) : Prop where
  len : μ.length = h.length
  nd : μ.Nodup
  at' : ∀ (n : Nat) (o : AO) (a : Addr), h[n]? = some o → μ[n]? = some a → RelO K ca μ H a o
section
variable {K : PySem.W.Frag} {ca : Nat → Addr} {μ : List Addr} {H : Hp} {h : AH}
theorem RelO.some {a : Addr} {o : AO} (r : RelO K ca μ H a o) : ∃ u, H a = some u := by
  cases o with
  | lst xs => obtain ⟨vs, e, _⟩ := r; exact ⟨_, e⟩
  | ins c fs => obtain ⟨dx, gs, e, _⟩ := r; exact ⟨_, e⟩
theorem RelH.addr (R : RelH K ca μ H h) {n : Nat} {o : AO} (e : h[n]? = some o) : ∃ a, μ[n]? = some a ∧ RelO K ca μ H a o := by
  have hn : n < h.length := (List.getElem?_eq_some_iff.mp e).1
  rw [← R.len] at hn
  exact ⟨μ[n], by simp [hn], R.at' n o _ e (by simp [hn])⟩
theorem RelH.notin (R : RelH K ca μ H h) {p : Addr} (hp : H p = none) : p ∉ μ := fun hm => by
  obtain ⟨n, hn⟩ := List.getElem?_of_mem hm
  have hl : n < μ.length := (List.getElem?_eq_some_iff.mp hn).1
  rw [R.len] at hl
  obtain ⟨u, e⟩ := (R.at' n h[n] p (by simp [hl]) hn).some
  rw [hp] at e; cases e
theorem RelO.mono {μ' : List Addr} {H' : Hp} (e : Ext μ H μ' H') {a : Addr} {o : AO} (k : ∀ u, H a = Option.some u → H' a = Option.some u) (r : RelO K ca μ H a o) : RelO K ca μ' H' a o := by
  cases o with
  | lst xs => obtain ⟨vs, q, s⟩ := r; exact ⟨vs, k _ q, s.mono e⟩
  | ins c fs => obtain ⟨dx, gs, q, s⟩ := r; exact ⟨dx, gs, k _ q, s.mono e⟩
theorem Ext.upd {p : Addr} {o : HO} (hp : H p = none) : Ext μ H μ (upd H p o) :=
  ⟨fun _ _ h => h, fun a u q _ => by rw [upd_ne (ne_of_none q hp)]; exact q, fun _ h => .inl h⟩
theorem RelH.upd (R : RelH K ca μ H h) {p : Addr} {o : HO} (hp : H p = none) : RelH K ca μ (upd H p o) h :=
  ⟨R.len, R.nd, fun n u a e1 e2 => (R.at' n u a e1 e2).mono (Ext.upd hp) fun w q => by rw [upd_ne (ne_of_none q hp)]; exact q⟩
/-- a new object that the machine has -/
theorem Ext.alloc {p : Addr} {o : HO} (hp : H p = none) : Ext μ H (μ ++ [p]) (L2.upd H p o) := by
  refine ⟨fun n a e => ?_, fun a u q _ => by rw [upd_ne (ne_of_none q hp)]; exact q, fun a hm => ?_⟩
  · rw [List.getElem?_append_left (List.getElem?_eq_some_iff.mp e).1]; exact e
  · rcases List.mem_append.mp hm with q | q
    · exact .inl q
    · rw [List.mem_singleton] at q; subst q; exact .inr hp
theorem RelH.alloc (R : RelH K ca μ H h) {p : Addr} {o : HO} {u : AO} (hp : H p = none) (hu : RelO K ca (μ ++ [p]) (L2.upd H p o) p u) : RelH K ca (μ ++ [p]) (L2.upd H p o) (h ++ [u]) := by
  refine ⟨by rw [List.length_append, List.length_append, R.len]; rfl, ?_, fun n w a e1 e2 => ?_⟩
  · rw [List.nodup_append]
    refine ⟨R.nd, by simp, fun a ha b hb e => ?_⟩
    rw [List.mem_singleton] at hb
    subst hb; subst e
    exact R.notin hp ha
  · by_cases hn : n < h.length
    · rw [List.getElem?_append_left hn] at e1
      rw [List.getElem?_append_left (by rw [R.len]; exact hn)] at e2
      exact (R.at' n w a e1 e2).mono (Ext.alloc hp) fun v q => by rw [upd_ne (ne_of_none q hp)]; exact q
    · have hm : n < (h ++ [u]).length := (List.getElem?_eq_some_iff.mp e1).1
      rw [List.length_append, List.length_singleton] at hm
      have hz : n = h.length := by omega
      subst hz
      rw [List.getElem?_append_right (Nat.le_refl _)] at e1
      rw [List.getElem?_append_right (by rw [R.len]; exact Nat.le_refl _)] at e2
      simp at e1
      rw [R.len] at e2
      simp at e2
      subst e1; subst e2
      exact hu
theorem RelD.new {p : Addr} (R : RelH K ca μ H h) {H' : Hp} : RelD K (μ ++ [p]) H' (.ref h.length) (.ref p) := by
  refine .ref ?_
  rw [List.getElem?_append_right (by rw [R.len]; exact Nat.le_refl _), R.len]
  simp
/-- an object of the machine is changed -/
theorem Ext.write {a : Addr} {o : HO} {n : Nat} (ha : μ[n]? = some a) (mu : Mut (H a)) : Ext μ H μ (L2.upd H a o) := by
  refine ⟨fun _ _ h => h, fun b u q c => ?_, fun _ h => .inl h⟩
  rw [upd_ne]
  · exact q
  · rintro rfl
    rcases c with c | c
    · exact c (List.mem_of_getElem? ha)
    · rw [q] at mu; exact c mu
theorem RelH.write (R : RelH K ca μ H h) {a : Addr} {o : HO} {n : Nat} {u : AO} (ha : μ[n]? = some a) (mu : Mut (H a)) (hu : RelO K ca μ (L2.upd H a o) a u) : RelH K ca μ (L2.upd H a o) (h.set n u) := by
  refine ⟨by rw [List.length_set]; exact R.len, R.nd, fun m w b e1 e2 => ?_⟩
  by_cases hm : m = n
  · subst hm
    rw [ha] at e2; cases e2
    have hl : m < h.length := by rw [← R.len]; exact (List.getElem?_eq_some_iff.mp ha).1
    rw [List.getElem?_set_self hl] at e1
    cases e1
    exact hu
  · rw [List.getElem?_set_ne (Ne.symm hm)] at e1
    have hab : b ≠ a := by
      rintro rfl
      have h1 := List.getElem?_eq_some_iff.mp e2
      have h2 := List.getElem?_eq_some_iff.mp ha
      obtain ⟨l1, q1⟩ := h1
      obtain ⟨l2, q2⟩ := h2
      exact hm ((List.getElem_inj R.nd).mp (q1.trans q2.symm))
    exact (R.at' m w b e1 e2).mono (Ext.write ha mu) fun v q => by rw [upd_ne hab]; exact q
/-- what is read as a list or tuple -/
theorem itemsOf_rel {d : D} {v : V} {xs : List D} (R : RelH K ca μ H h) (r : RelD K μ H d v) (e : itemsOf d h = some xs) : ∃ a vs, v = .ref a ∧ RelDs K μ H xs vs ∧ (SqL K H a vs ∨ SqT K H a vs) := by
  cases r with
  | tup hq hs => cases e; exact ⟨_, _, rfl, hs, .inr hq⟩
  | kl hq hs => cases e; exact ⟨_, _, rfl, hs, .inl hq.sq⟩
  | ref hn =>
    rename_i n a
    unfold itemsOf at e
    cases q : h[n]? with
    | none => simp [q] at e
    | some o =>
      obtain ⟨b, hb, ro⟩ := R.addr q
      rw [hn] at hb; cases hb
      cases o with
      | lst ys => simp [q] at e; subst e; obtain ⟨vs, e1, e2⟩ := ro; exact ⟨_, vs, rfl, e2, .inl (.inl (.inl e1))⟩
      | ins c fs => simp [q] at e
  | _ => cases e
theorem itemsOf_ref {n : Nat} {a : Addr} {xs : List D} (R : RelH K ca μ H h) (hn : μ[n]? = some a) (e : itemsOf (.ref n) h = some xs) : ∃ vs, RelDs K μ H xs vs ∧ SqL K H a vs := by
  unfold itemsOf at e
  cases q : h[n]? with
  | none => simp [q] at e
  | some o =>
    obtain ⟨b, hb, ro⟩ := R.addr q
    rw [hn] at hb; cases hb
    cases o with
    | lst ys => simp [q] at e; subst e; obtain ⟨vs, e1, e2⟩ := ro; exact ⟨vs, e2, .inl (.inl e1)⟩
    | ins c fs => simp [q] at e
theorem lst_rel {n : Nat} {a : Addr} {xs : List D} (R : RelH K ca μ H h) (hn : μ[n]? = some a) (e : h[n]? = some (.lst xs)) : ∃ vs, RelDs K μ H xs vs ∧ H a = some (.lst vs) := by
  obtain ⟨b, hb, ro⟩ := R.addr e
  rw [hn] at hb; cases hb
  obtain ⟨vs, e1, e2⟩ := ro
  exact ⟨vs, e2, e1⟩
end

/-! ## 7. What is wanted of an answer -/
/-- an exception's own dict -/
def XR (K : PySem.W.Frag) (μ : List Addr) (H : Hp) (fs : List (Str × D)) (d : Option Addr) : Prop := (fs = [] ∧ d = none) ∨ ∃ dd gs, fs ≠ [] ∧ d = some dd ∧ H dd = some (.xd gs) ∧ RelFs K μ H fs gs
def Ans {α β : Type} (K : PySem.W.Frag) (ca : Nat → Addr) (R : List Addr → Hp → α → β → Prop) (W : XK) (μ : List Addr) (H : Hp) (r : Rs α) (Q : β → Hp → Prop) : Prop := match r with
  | .ok a h' => ∀ b μ' H', Ext μ H μ' H' → R μ' H' a b → RelH K ca μ' H' h' → Q b H'
  | .exc c fs h' => ∀ d μ' H', Ext μ H μ' H' → XR K μ' H' fs d → RelH K ca μ' H' h' → W (.ref (ca c)) d H'
  | .bad => False
theorem Ans.mono {α β : Type} {K : PySem.W.Frag} {ca : Nat → Addr} {R : List Addr → Hp → α → β → Prop} {W : XK} {μ μ1 : List Addr} {H H1 : Hp} {r : Rs α} {Q : β → Hp → Prop} (e : Ext μ H μ1 H1) (p : Ans K ca R W μ H r Q) : Ans K ca R W μ1 H1 r Q := by
  cases r with
  | ok a h' => exact fun b μ' H' e' => p b μ' H' (e.trans e')
  | exc c fs h' => exact fun d μ' H' e' => p d μ' H' (e.trans e')
  | bad => exact p
theorem Ans.bind {α β α' β' : Type} {K : PySem.W.Frag} {ca : Nat → Addr} {R : List Addr → Hp → α → β → Prop} {R' : List Addr → Hp → α' → β' → Prop} {W : XK} {μ : List Addr} {H : Hp} {r : Rs α'} {f : α' → AH → Rs α} {Q : β → Hp → Prop} {Q' : β' → Hp → Prop}
    (p : Ans K ca R W μ H (r.bind f) Q) (k : ∀ a h1 b μ1 H1, Ext μ H μ1 H1 → R' μ1 H1 a b → RelH K ca μ1 H1 h1 → Ans K ca R W μ1 H1 (f a h1) Q → Q' b H1) : Ans K ca R' W μ H r Q' := by
  cases r with
  | ok a h1 => exact fun b μ1 H1 e r' rh => k a h1 b μ1 H1 e r' rh (Ans.mono e p)
  | exc c fs h1 => exact p
  | bad => exact p
theorem Ans.bindE {α β α' β' : Type} {K : PySem.W.Frag} {ca : Nat → Addr} {R : List Addr → Hp → α → β → Prop} {R' : List Addr → Hp → α' → β' → Prop} {W : XK} {μ : List Addr} {H : Hp} {r : Rs α'} {f : α' → AH → Rs α} {Q : β → Hp → Prop} {Q' : β' → Hp → Prop}
    (p : Ans K ca R W μ H (r.bind f) Q) (k : ∀ a h1 b μ1 H1, r = .ok a h1 → Ext μ H μ1 H1 → R' μ1 H1 a b → RelH K ca μ1 H1 h1 → Ans K ca R W μ1 H1 (f a h1) Q → Q' b H1) : Ans K ca R' W μ H r Q' := by
  cases r with
  | ok a h1 => exact fun b μ1 H1 e r' rh => k a h1 b μ1 H1 rfl e r' rh (Ans.mono e p)
  | exc c fs h1 => exact p
  | bad => exact p
/-- no exception -/
abbrev WN : XK := fun _ _ _ => False
theorem chk_ok {α β : Type} {K : PySem.W.Frag} {ca : Nat → Addr} {R : List Addr → Hp → α → β → Prop} {W : XK} {μ : List Addr} {H : Hp} {r : Rs α} {c : Prop} {Q : β → Hp → Prop} (p : Ans K ca R W μ H (chk c r) Q) : c ∧ Ans K ca R W μ H r Q := by
  unfold chk at p
  by_cases h : c
  · rw [if_pos h] at p; exact ⟨h, p⟩
  · rw [if_neg h] at p; exact p.elim
section
variable {K : PySem.W.Frag} {ca : Nat → Addr} {μ : List Addr} {H : Hp} {h : AH} {W : XK} {Q : VK}
theorem Ans.now {d : D} {v : V} (p : Ans K ca (RelD K) W μ H (.ok d h) Q) (r : RelD K μ H d v) (R : RelH K ca μ H h) : Q v H := p v μ H (Ext.refl μ H) r R
/-- a new list -/
theorem Ans.lst {xs : List D} {vs : List V} (p : Ans K ca (RelD K) W μ H (alloc (.lst xs) h) Q) (R : RelH K ca μ H h) (r : RelDs K μ H xs vs) (q : Addr) (hq : H q = none) : Q (.ref q) (upd H q (.lst vs)) :=
  p (.ref q) (μ ++ [q]) _ (Ext.alloc hq) (RelD.new R) (R.alloc hq ⟨vs, upd_same, r.mono (Ext.alloc hq)⟩)
/-- a new tuple -/
theorem Ans.tup {xs : List D} {vs : List V} (p : Ans K ca (RelD K) W μ H (.ok (.tup xs) h) Q) (R : RelH K ca μ H h) (r : RelDs K μ H xs vs) (q : Addr) (hq : H q = none) : Q (.ref q) (upd H q (.tup vs)) :=
  p (.ref q) μ _ (Ext.upd hq) (.tup (.inl (.inl upd_same)) (r.mono (Ext.upd hq))) (R.upd hq)
end
end Pm

set_option maxRecDepth 100000
set_option maxHeartbeats 1000000
noncomputable section
namespace Pm
open PySem PySem.Spec PyProof.Rows L2

/-! ## 8. Operations are what the model does -/
def bOp (X : Cx) (f : Value → Value → Sem Value) : R2 := fun x y H Q => ∀ (pins : List (Addr × Obj)) (s : Shared) (σ : L2.St) (v u : Value), Inv X pins σ H s → RelV x v → RelV y u → wpAny (model X.prog X.w) X.A (f v u) (EP X pins σ Q) X.xe s
theorem bOp_ok {X : Cx} {f : Value → Value → Sem Value} : OpR X f (bOp X f) := fun pins s σ _ _ _ v u _ I rx ry h => h pins s σ v u I rx ry
theorem bOp_of {X : Cx} {f : Value → Value → Sem Value} {r : R2} (o : OpR X f r) {x y : V} {H : Hp} {Q : VK} (h : r x y H Q) : bOp X f x y H Q := fun pins s σ v u I rx ry => o pins s σ H x y v u Q I rx ry h
def bUn (X : Cx) (f : Value → Sem Value) : V → Hp → VK → Prop := fun x H Q => ∀ (pins : List (Addr × Obj)) (s : Shared) (σ : L2.St) (v : Value), Inv X pins σ H s → RelV x v → wpAny (model X.prog X.w) X.A (f v) (EP X pins σ Q) X.xe s
theorem bUn_ok {X : Cx} {f : Value → Sem Value} : UnR X f (bUn X f) := fun pins s σ _ _ v _ I rx h => h pins s σ v I rx
theorem bUn_of {X : Cx} {f : Value → Sem Value} {r : V → Hp → VK → Prop} (o : UnR X f r) {x : V} {H : Hp} {Q : VK} (h : r x H Q) : bUn X f x H Q := fun pins s σ v I rx => o pins s σ H x v Q I rx h
def bCall (X : Cx) (f : Value) : List V → Hp → VK → Prop := fun xs H Q => ∀ (pins : List (Addr × Obj)) (s : Shared) (σ : L2.St) (us : List Value), Inv X pins σ H s → Vals xs us → wpAny (model X.prog X.w) X.A (call f us) (EP X pins σ Q) X.xe s
theorem bCall_ok {X : Cx} {f : Value} : CallR X f (bCall X f) := fun pins s σ _ _ us _ I rx h => h pins s σ us I rx
theorem bCall_of {X : Cx} {f : Value} {r : List V → Hp → VK → Prop} (o : CallR X f r) {xs : List V} {H : Hp} {Q : VK} (h : r xs H Q) : bCall X f xs H Q := fun pins s σ us I rx => o pins s σ H xs us Q I rx h
def bIx (X : Cx) : R2 := fun x y H Q => ∀ (value slice : Expr) (pins : List (Addr × Obj)) (s : Shared) (σ : L2.St) (v u : Value), Inv X pins σ H s → RelV x v → RelV y u →
    subscripted slice false v u = operate [v, u] (getItem v u) → wpAny (model X.prog X.w) X.A (subscriptTail value slice v u) (EP X pins σ Q) X.xe s
theorem bIx_ok {X : Cx} : IxR X (bIx X) := fun value slice pins s σ _ _ _ v u _ I rx ry h => h value slice pins s σ v u I rx ry
theorem bIx_of {X : Cx} {r : R2} (o : IxR X r) {x y : V} {H : Hp} {Q : VK} (h : r x y H Q) : bIx X x y H Q := fun value slice pins s σ v u I rx ry => o value slice pins s σ H x y v u Q I rx ry h
def bSl (X : Cx) : V → Option Int → Option Int → Hp → VK → Prop := fun x lo hi H Q => ∀ (pins : List (Addr × Obj)) (s : Shared) (σ : L2.St) (v vl vu : Value) (sl : Addr), Inv X pins σ H s → RelV x v → s.heap.IsSliceOf sl vl vu .none → IsPart vl lo → IsPart vu hi →
    ∃ T id, typeLookup (.type T) "__getitem__" = pure (some (.builtin id)) ∧ s.TypeIs v T ∧ wpAny (model X.prog X.w) X.A (getItem v (.ref sl)) (EP X pins σ Q) X.xe s
theorem bSl_ok {X : Cx} : SlR X (bSl X) := fun pins s σ _ _ v vl vu _ _ sl _ I rx hs pl pu h => h pins s σ v vl vu sl I rx hs pl pu
theorem bSl_of {X : Cx} {r : V → Option Int → Option Int → Hp → VK → Prop} (o : SlR X r) {x : V} {lo hi : Option Int} {H : Hp} {Q : VK} (h : r x lo hi H Q) : bSl X x lo hi H Q := fun pins s σ v vl vu sl I rx hs pl pu => o pins s σ H x v vl vu lo hi sl Q I rx hs pl pu h
def bTru (X : Cx) : V → Hp → (Bool → Hp → Prop) → Prop := fun x H Q => ∃ k, TruV X.K x H k ∧ Q k H

/-! ### texts -/
theorem toS_append (s t : List Char) : toS (s ++ t) = toS s ++ toS t := by
  unfold toS
  rw [List.map_append]
  show _ = Str.append _ _
  simp [Str.append]
theorem toS_length (s : List Char) : (toS s).length = s.length := by
  show (s.map Char.toNat).toArray.size = s.length
  simp
theorem toS_list (s : List Char) : (toS s).cps.toList = s.map Char.toNat := by simp [toS]
theorem toNat_inj {a b : Char} (h : a.toNat = b.toNat) : a = b := Char.toNat_inj.mp h
theorem map_toNat_inj : ∀ {s t : List Char}, s.map Char.toNat = t.map Char.toNat → s = t
  | [], [], _ => rfl
  | [], _ :: _, h => by simp at h
  | _ :: _, [], h => by simp at h
  | a :: s, b :: t, h => by
    simp only [List.map_cons, List.cons.injEq] at h
    rw [toNat_inj h.1, map_toNat_inj h.2]
theorem toS_inj {s t : List Char} : toS s = toS t ↔ s = t := by
  refine ⟨fun h => map_toNat_inj ?_, fun h => by rw [h]⟩
  rw [← toS_list, ← toS_list, h]
theorem toS_beq (s t : List Char) : (toS s == toS t) = decide (s = t) := by
  by_cases h : s = t
  · subst h; simp
  · have : toS s ≠ toS t := fun e => h (toS_inj.mp e)
    simp [h, this]
theorem V_str_eq (s t : List Char) : decide (V.str (toS s) = V.str (toS t)) = decide (s = t) := by
  rw [dec_str, toS_beq]

section
variable {X : Cx} {ca : Nat → Addr} {W : XK} {μ : List Addr} {H : Hp} {h : AH} {Q : VK}
/-- what an operation's rule must show -/
abbrev OpSim (X : Cx) (ca : Nat → Addr) (f : Value → Value → Sem Value) (p : D → D → M D) : Prop :=
  ∀ {W : XK} {μ : List Addr} {H : Hp} {h : AH} {Q : VK} {a b : D} {x y : V}, RelH X.K ca μ H h → RelD X.K μ H a x → RelD X.K μ H b y → Ans X.K ca (RelD X.K) W μ H (p a b h) Q → bOp X f x y H Q

theorem os_add : OpSim X ca (binaryOp .Add) pAdd := by
  intro W μ H h Q a b x y R ra rb p
  cases ra with
  | int i =>
    cases rb with
    | int j => exact bOp_of op_add ⟨_, _, rfl, rfl, Ans.now p (.int _) R⟩
    | _ => exact p.elim
  | str s =>
    cases rb with
    | str t =>
      obtain ⟨hl, p⟩ := chk_ok p
      refine bOp_of op_add_str ⟨_, _, rfl, rfl, by rw [toS_length, toS_length]; exact hl, ?_⟩
      rw [← toS_append]
      exact Ans.now p (.str _) R
    | _ => exact p.elim
  | tup hq hs =>
    cases rb with
    | tup hq' hs' =>
      obtain ⟨hl, p⟩ := chk_ok p
      refine bOp_of op_catA ⟨_, _, _, _, rfl, rfl, hq, hq', by rw [← hs.length, ← hs'.length]; exact hl, fun e => ?_, fun e e' => ?_, fun _ _ q hq => ?_⟩
      · subst e
        cases hs
        exact Ans.now p (.tup hq' hs') R
      · subst e'
        cases hs'
        rw [List.append_nil] at p
        exact Ans.now p (.tup ‹_› hs) R
      · exact Ans.tup p R (hs.append hs') q hq
    | _ => exact p.elim
  | @ref m am hm =>
    cases rb with
    | @ref n an hn =>
      have p : Ans X.K ca (RelD X.K) W μ H (match h[m]?, h[n]? with
        | some (.lst xs), some (.lst ys) => chk (xs.length + ys.length ≤ sizeLine) (alloc (.lst (xs ++ ys)) h)
        | _, _ => .bad) Q := p
      split at p
      · rename_i xs ys e1 e2
        obtain ⟨hl, p⟩ := chk_ok p
        obtain ⟨vs, r1, q1⟩ := lst_rel R hm e1
        obtain ⟨ws, r2, q2⟩ := lst_rel R hn e2
        exact bOp_of op_cat ⟨_, _, _, _, rfl, rfl, q1, q2, by rw [← r1.length, ← r2.length]; exact hl, fun q hq => Ans.lst p R (r1.append r2) q hq⟩
      · exact p.elim
    | _ => exact p.elim
  | _ => exact p.elim
theorem os_sub : OpSim X ca (binaryOp .Sub) pSub := by
  intro W μ H h Q a b x y R ra rb p
  cases ra with
  | int i =>
    cases rb with
    | int j => exact bOp_of op_sub ⟨_, _, rfl, rfl, Ans.now p (.int _) R⟩
    | _ => exact p.elim
  | _ => exact p.elim
theorem foldl_cps (a : Array Nat) : ∀ (n : Nat) (acc : Array Nat), (List.foldl (· ++ ·) acc (List.replicate n a)).toList = acc.toList ++ (List.replicate n a.toList).flatten
  | 0, acc => by simp
  | n + 1, acc => by
    rw [List.replicate_succ, List.foldl_cons, foldl_cps a n (acc ++ a), List.replicate_succ, List.flatten_cons]
    simp
theorem map_rep {α β : Type} (f : α → β) (n : Nat) (s : List α) : (rep n s).map f = rep n (s.map f) := by
  unfold rep
  induction n with
  | zero => rfl
  | succ n ih => rw [List.replicate_succ, List.replicate_succ, List.flatten_cons, List.flatten_cons, List.map_append, ih]
theorem length_rep {α : Type} (n : Nat) (s : List α) : (rep n s).length = n * s.length := by
  unfold rep
  induction n with
  | zero => simp
  | succ n ih => rw [List.replicate_succ, List.flatten_cons, List.length_append, ih, Nat.succ_mul]; omega
theorem txt_mul (s : List Char) (j : Int) (h0 : 0 ≤ j) : Txt.mul (toS s) j = toS (rep j.toNat s) := by
  have ext : ∀ x y : Str, x.cps.toList = y.cps.toList → x = y := fun x y e => by
    cases x with
    | mk a =>
      cases y with
      | mk b => simp only at e; rw [Array.toList_inj.mp e]
  apply ext
  rw [toS_list, map_rep]
  unfold Txt.mul
  by_cases h1 : j < 1
  · have : j = 0 := by omega
    subst this
    rw [if_pos h1]
    simp [rep, Str.empty]
  · rw [if_neg h1]
    by_cases h2 : (j == 1 || (toS s).length == 0) = true
    · rw [if_pos h2, toS_list]
      rw [Bool.or_eq_true, beq_iff_eq, beq_iff_eq, toS_length] at h2
      rcases h2 with e | e
      · subst e; simp [rep]
      · have : s = [] := List.eq_nil_of_length_eq_zero e
        subst this
        simp [rep]
    · rw [if_neg h2]
      show (List.foldl (· ++ ·) #[] (List.replicate j.toNat (toS s).cps)).toList = _
      rw [foldl_cps, toS_list]
      simp [rep]
theorem mul_le_million {a b : Nat} (ha : a ≤ 1000) (hb : b ≤ 1000) : a * b ≤ 1000000 := Nat.le_trans (Nat.mul_le_mul ha hb) (by decide)
theorem op_mul_str : OpR X (binaryOp .Mult) (fun x y H Q => ∃ (s : List Char) (j : Int), x = .str (toS s) ∧ y = .int j ∧ (0 ≤ j ∧ j ≤ 1000 ∧ s.length ≤ 1000) ∧ Q (.str (toS (rep j.toNat s))) H) := by
  intro pins s σ H x y v u Q I rx ry h
  obtain ⟨z, j, rfl, rfl, ⟨h0, h1, h2⟩, q⟩ := h
  obtain ⟨t, rfl⟩ := rx
  obtain ⟨t', rfl⟩ := ry
  have hm := mul_le_million h2 (show j.toNat ≤ 1000 by omega)
  refine SB.mul ⟨?_, fun _ _ => ?_, fun _ _ => ?_⟩ fun k t2 => ⟨.str _, H, I.tok _, ⟨_, by rw [txt_mul z j h0]⟩, q⟩
  · rw [Bool.or_eq_false_iff]
    exact ⟨decide_eq_false (by omega), decide_eq_false (by omega)⟩
  · rw [toS_length]
    intro hc
    have hj : 0 < j := by omega
    have e1 : (9223372036854775807 : Int) / j ≥ 9223372036854775807 / 1000 := by
      have := Int.ediv_le_ediv (a := (9223372036854775807 : Int) / 1000 * j) (b := 9223372036854775807) hj (by
        have : (9223372036854775807 : Int) / 1000 = 9223372036854775 := by decide
        rw [this]; omega)
      rw [Int.mul_ediv_cancel _ (by omega)] at this
      exact this
    have e2 : (9223372036854775807 : Int) / 1000 = 9223372036854775 := by decide
    rw [e2] at e1
    have e3 : (2 ^ 63 - 1 : Int) = 9223372036854775807 := by decide
    rw [e3] at hc
    omega
  · rw [toS_length]
    show decide (z.length * j.toNat > 2 ^ 24) = false
    exact decide_eq_false (by omega)
theorem os_mul : OpSim X ca (binaryOp .Mult) pMul := by
  intro W μ H h Q a b x y R ra rb p
  cases ra with
  | int i =>
    cases rb with
    | int j =>
      obtain ⟨hc, p⟩ := chk_ok p
      exact bOp_of op_mul ⟨_, _, rfl, rfl, hc, Ans.now p (.int _) R⟩
    | _ => exact p.elim
  | str s =>
    cases rb with
    | int j =>
      obtain ⟨hc, p⟩ := chk_ok p
      exact bOp_of op_mul_str ⟨_, _, rfl, rfl, hc, Ans.now p (.str _) R⟩
    | _ => exact p.elim
  | @ref m am hm =>
    cases rb with
    | int j =>
      have p : Ans X.K ca (RelD X.K) W μ H (match h[m]? with
        | some (.lst xs) => chk (-(2 ^ 63) ≤ j ∧ j < 2 ^ 63 ∧ xs.length * j.toNat ≤ sizeLine) (alloc (.lst (rep j.toNat xs)) h)
        | _ => .bad) Q := p
      split at p
      · rename_i xs e1
        obtain ⟨⟨h1, h2, h3⟩, p⟩ := chk_ok p
        obtain ⟨vs, r1, q1⟩ := lst_rel R hm e1
        exact bOp_of op_rep ⟨_, _, _, rfl, rfl, q1, h1, h2, by rw [← r1.length]; exact h3, fun q hq => Ans.lst p R (r1.rep _) q hq⟩
      · exact p.elim
    | _ => exact p.elim
  | _ => exact p.elim
theorem os_mod : OpSim X ca (binaryOp .Mod) pMod := by
  intro W μ H h Q a b x y R ra rb p
  cases ra with
  | int i =>
    cases rb with
    | int j =>
      obtain ⟨hc, p⟩ := chk_ok p
      exact bOp_of op_mod ⟨_, _, rfl, rfl, hc, Ans.now p (.int _) R⟩
    | _ => exact p.elim
  | _ => exact p.elim
theorem os_fdiv : OpSim X ca (binaryOp .FloorDiv) pFdiv := by
  intro W μ H h Q a b x y R ra rb p
  cases ra with
  | int i =>
    cases rb with
    | int j =>
      obtain ⟨hc, p⟩ := chk_ok p
      exact bOp_of op_fdiv ⟨_, _, rfl, rfl, hc, Ans.now p (.int _) R⟩
    | _ => exact p.elim
  | _ => exact p.elim
theorem os_pow : OpSim X ca (binaryOp .Pow) pPow := by
  intro W μ H h Q a b x y R ra rb p
  cases ra with
  | int i =>
    cases rb with
    | int j =>
      obtain ⟨hc, p⟩ := chk_ok p
      exact bOp_of op_pow ⟨_, _, rfl, rfl, hc, Ans.now p (.int _) R⟩
    | _ => exact p.elim
  | _ => exact p.elim
theorem us_neg {a : D} {x : V} (R : RelH X.K ca μ H h) (ra : RelD X.K μ H a x) (p : Ans X.K ca (RelD X.K) W μ H (pNeg a h) Q) : bUn X (unaryOp .USub) x H Q := by
  cases ra with
  | int i => exact bUn_of un_neg ⟨_, rfl, Ans.now p (.int _) R⟩
  | _ => exact p.elim

/-! ### == -/
mutual
theorem pd_dp (r : Nat → Option PyData) (hr : ∀ (k : Nat) (a : Addr) (x : PyData), μ[k]? = some a → r k = some x → Dp X.K H (.ref a) x) : ∀ (d : D) (v : V) (x : PyData), RelD X.K μ H d v → pd r d = some x → Dp X.K H v x
  | .non, _, _, rd, e => by cases rd; cases e; exact .non
  | .bl b, _, _, rd, e => by cases rd; cases e; exact .bl b
  | .int i, _, _, rd, e => by cases rd; cases e; exact .int i
  | .str s, _, _, rd, e => by cases rd; cases e; exact .str _
  | .tup xs, _, _, rd, e => by
    cases rd with
    | tup hq hs =>
      unfold pd at e
      cases q : pds r xs with
      | none => rw [q] at e; cases e
      | some ys =>
        rw [q] at e
        cases e
        exact .tup hq (pds_dp r hr xs _ _ hs q)
  | .kl xs, _, _, rd, e => by
    cases rd with
    | kl hq hs =>
      unfold pd at e
      cases q : pds r xs with
      | none => rw [q] at e; cases e
      | some ys =>
        rw [q] at e
        cases e
        exact .lst hq.sq (pds_dp r hr xs _ _ hs q)
  | .ref k, _, _, rd, e => by
    cases rd with
    | ref hn => exact hr _ _ _ hn e
theorem pds_dp (r : Nat → Option PyData) (hr : ∀ (k : Nat) (a : Addr) (x : PyData), μ[k]? = some a → r k = some x → Dp X.K H (.ref a) x) : ∀ (ds : List D) (vs : List V) (xs : List PyData), RelDs X.K μ H ds vs → pds r ds = some xs → DpAll X.K H vs xs
  | [], _, _, rd, e => by cases rd; cases e; exact .nil
  | d :: ds, _, _, rd, e => by
    cases rd with
    | cons h1 h2 =>
      unfold pds at e
      cases q1 : pd r d with
      | none => rw [q1] at e; simp at e
      | some x =>
        cases q2 : pds r ds with
        | none => rw [q1, q2] at e; simp at e
        | some xs =>
          rw [q1, q2] at e
          cases e
          exact .cons (pd_dp r hr d _ _ h1 q1) (pds_dp r hr ds _ _ h2 q2)
end
theorem rd_dp (R : RelH X.K ca μ H h) : ∀ (n k : Nat) (a : Addr) (x : PyData), μ[k]? = some a → rd h n k = some x → Dp X.K H (.ref a) x
  | 0, _, _, _, _, e => by cases e
  | n + 1, k, a, x, hk, e => by
    unfold rd at e
    cases q : h[k]? with
    | none => rw [q] at e; simp at e
    | some o =>
      rw [q] at e
      obtain ⟨b, hb, ro⟩ := R.addr q
      rw [hk] at hb; cases hb
      cases o with
      | lst xs =>
        simp only at e
        cases q2 : pds (rd h n) xs with
        | none => rw [q2] at e; cases e
        | some ys =>
          rw [q2] at e
          cases e
          obtain ⟨vs, e1, e2⟩ := ro
          exact .lst (.inl (.inl e1)) (pds_dp (rd h n) (rd_dp R n) xs _ _ e2 q2)
      | ins c fs => simp at e
theorem scal_rel {a b : D} {x y : V} {r : Bool} (ra : RelD X.K μ H a x) (rb : RelD X.K μ H b y) (e : scalEq a b = some r) : scal x y = true ∧ decide (x = y) = r := by
  cases ra with
  | non =>
    cases rb with
    | tup _ _ => cases e
    | kl _ _ => cases e
    | ref _ => cases e
    | _ => cases e; exact ⟨rfl, by simp⟩
  | bl i =>
    cases rb with
    | tup _ _ => cases e
    | kl _ _ => cases e
    | ref _ => cases e
    | int j => cases e
    | bl j => cases e; exact ⟨rfl, by rw [dec_bl]; cases i <;> cases j <;> rfl⟩
    | _ => cases e; exact ⟨rfl, by simp⟩
  | int i =>
    cases rb with
    | tup _ _ => cases e
    | kl _ _ => cases e
    | ref _ => cases e
    | bl j => cases e
    | int j => cases e; exact ⟨rfl, by rw [dec_int, Bool.beq_eq_decide_eq]⟩
    | _ => cases e; exact ⟨rfl, by simp⟩
  | str i =>
    cases rb with
    | tup _ _ => cases e
    | kl _ _ => cases e
    | ref _ => cases e
    | str j => cases e; exact ⟨rfl, V_str_eq _ _⟩
    | _ => cases e; exact ⟨rfl, by simp⟩
  | tup hq hs => cases e
  | kl hq hs => cases e
  | ref _ => cases e
theorem eqD_cases {a b : D} {x y : V} {r : Bool} (R : RelH X.K ca μ H h) (ra : RelD X.K μ H a x) (rb : RelD X.K μ H b y) (e : eqD h a b = some r) :
    (scal x y = true ∧ decide (x = y) = r) ∨ ∃ p q, Dp X.K H x p ∧ Dp X.K H y q ∧ SeqAt.shaped p = true ∧ SeqAt.shaped q = true ∧ PyData.eqv p q = r := by
  unfold eqD at e
  split at e
  · rename_i r' e1
    cases e
    exact .inl (scal_rel ra rb e1)
  · split at e
    · rename_i p q e1 e2
      split at e
      · rename_i hs
        cases e
        exact .inr ⟨p, q, pd_dp _ (rd_dp R 8) a x p ra e1, pd_dp _ (rd_dp R 8) b y q rb e2, hs.1, hs.2, rfl⟩
      · cases e
    · cases e
theorem os_eq (hu : X.A.units + 64 < cLine) : OpSim X ca (compareOp .Eq) pEq := by
  intro W μ H h Q a b x y R ra rb p
  unfold pEq at p
  split at p
  · rename_i r e
    rcases eqD_cases R ra rb e with ⟨h1, h2⟩ | ⟨d1, d2, k1, k2, s1, s2, h2⟩
    · exact bOp_of op_eq ⟨h1, by rw [h2]; exact Ans.now p (.bl _) R⟩
    · exact bOp_of (op_eqD hu) ⟨d1, d2, k1, k2, s1, s2, by rw [h2]; exact Ans.now p (.bl _) R⟩
  · exact p.elim
theorem os_ne (hu : X.A.units + 64 < cLine) : OpSim X ca (compareOp .NotEq) pNe := by
  intro W μ H h Q a b x y R ra rb p
  unfold pNe at p
  split at p
  · rename_i r e
    rcases eqD_cases R ra rb e with ⟨h1, h2⟩ | ⟨d1, d2, k1, k2, s1, s2, h2⟩
    · exact bOp_of op_ne ⟨h1, by rw [h2]; exact Ans.now p (.bl _) R⟩
    · exact bOp_of (op_neD hu) ⟨d1, d2, k1, k2, s1, s2, by rw [h2]; exact Ans.now p (.bl _) R⟩
  · exact p.elim
theorem dec_non {a : D} {x : V} (ra : RelD X.K μ H a x) : decide (x = .non) = decide (a = .non) := by
  cases ra <;> simp
theorem os_is : OpSim X ca (compareOp .Is) pIs := by
  intro W μ H h Q a b x y R ra rb p
  cases rb with
  | non =>
    refine bOp_of op_isN ⟨rfl, ?_⟩
    rw [dec_non ra]
    cases a <;> exact Ans.now p (.bl _) R
  | bl k =>
    cases ra with
    | bl j => exact bOp_of op_isBl ⟨_, _, rfl, rfl, Ans.now p (.bl _) R⟩
    | _ => exact p.elim
  | _ => cases a <;> exact p.elim
theorem os_isNot : OpSim X ca (compareOp .IsNot) pIsNot := by
  intro W μ H h Q a b x y R ra rb p
  cases rb with
  | non =>
    refine bOp_of op_notN ⟨rfl, ?_⟩
    rw [dec_non ra]
    cases a <;> exact Ans.now p (.bl _) R
  | bl k =>
    cases ra with
    | bl j => exact bOp_of op_notBl ⟨_, _, rfl, rfl, Ans.now p (.bl _) R⟩
    | _ => exact p.elim
  | _ => cases a <;> exact p.elim

/-! ### the order -/
theorem strLt_eq (i j : List Char) : decide ((toS i).cps.toList < (toS j).cps.toList) = strLt i j := by
  unfold strLt
  rw [toS_list, toS_list]
theorem os_lt : OpSim X ca (compareOp .Lt) pLt := by
  intro W μ H h Q a b x y R ra rb p
  cases ra with
  | int i =>
    cases rb with
    | int j => exact bOp_of op_lt ⟨_, _, rfl, rfl, Ans.now p (.bl _) R⟩
    | _ => exact p.elim
  | str i =>
    cases rb with
    | str j => exact bOp_of op_lt_str ⟨_, _, rfl, rfl, by rw [strLt_eq]; exact Ans.now p (.bl _) R⟩
    | _ => exact p.elim
  | _ => exact p.elim
theorem os_gt : OpSim X ca (compareOp .Gt) pGt := by
  intro W μ H h Q a b x y R ra rb p
  cases ra with
  | int i =>
    cases rb with
    | int j => exact bOp_of op_gt ⟨_, _, rfl, rfl, Ans.now p (.bl _) R⟩
    | _ => exact p.elim
  | str i =>
    cases rb with
    | str j => exact bOp_of op_gt_str ⟨_, _, rfl, rfl, by rw [strLt_eq]; exact Ans.now p (.bl _) R⟩
    | _ => exact p.elim
  | _ => exact p.elim
theorem os_le : OpSim X ca (compareOp .LtE) pLe := by
  intro W μ H h Q a b x y R ra rb p
  cases ra with
  | int i =>
    cases rb with
    | int j => exact bOp_of op_le ⟨_, _, rfl, rfl, Ans.now p (.bl _) R⟩
    | _ => exact p.elim
  | str i =>
    cases rb with
    | str j => exact bOp_of op_le_str ⟨_, _, rfl, rfl, by rw [strLt_eq]; exact Ans.now p (.bl _) R⟩
    | _ => exact p.elim
  | _ => exact p.elim
theorem os_ge : OpSim X ca (compareOp .GtE) pGe := by
  intro W μ H h Q a b x y R ra rb p
  cases ra with
  | int i =>
    cases rb with
    | int j => exact bOp_of op_ge ⟨_, _, rfl, rfl, Ans.now p (.bl _) R⟩
    | _ => exact p.elim
  | str i =>
    cases rb with
    | str j => exact bOp_of op_ge_str ⟨_, _, rfl, rfl, by rw [strLt_eq]; exact Ans.now p (.bl _) R⟩
    | _ => exact p.elim
  | _ => exact p.elim

/-! ### in -/
theorem flat_rel {a : D} {x : V} (ra : RelD X.K μ H a x) (e : flatD a = true) : flatV x = true := by
  cases ra <;> first | rfl | cases e
theorem flat_all : ∀ {ds : List D} {vs : List V}, RelDs X.K μ H ds vs → ds.all flatD = true → vs.all flatV = true
  | _, _, .nil, _ => rfl
  | _, _, .cons r rs, e => by
    rw [List.all_cons, Bool.and_eq_true] at e ⊢
    exact ⟨flat_rel r e.1, flat_all rs e.2⟩
theorem flatEq_rel {a b : D} {x y : V} (ra : RelD X.K μ H a x) (rb : RelD X.K μ H b y) : eqV x y = flatEq a b := by
  cases ra <;> cases rb <;> first | rfl | (unfold eqV flatEq; simp only [Bool.beq_eq_decide_eq]; done) | (show (toS _ == toS _) = (_ == _); rw [toS_beq, Bool.beq_eq_decide_eq])
theorem any_rel {a : D} {x : V} (ra : RelD X.K μ H a x) : ∀ {ds : List D} {vs : List V}, RelDs X.K μ H ds vs → inV x vs = ds.any fun z => flatEq z a
  | _, _, .nil => rfl
  | _, _, .cons r rs => by
    have := any_rel ra rs
    unfold inV at this ⊢
    rw [List.any_cons, List.any_cons, this, flatEq_rel r ra]
theorem inD_cases {a b : D} {x y : V} {r : Bool} (R : RelH X.K ca μ H h) (ra : RelD X.K μ H a x) (rb : RelD X.K μ H b y) (e : inD h a b = some r) :
    (∃ (c : Nat) (z : Str), x = .str ⟨#[c]⟩ ∧ y = .str z ∧ decide (c ∈ z.cps.toList) = r) ∨ (∃ p xs, y = .ref p ∧ (SqL X.K H p xs ∨ SqT X.K H p xs) ∧ flatV x = true ∧ xs.all flatV = true ∧ inV x xs = r) ∨
      (∃ d ds, Dp X.K H x d ∧ Dp X.K H y (.list ds) ∧ SeqAt.shaped d = true ∧ SeqAt.shaped (.list ds) = true ∧ (ds.any fun z => PyData.eqv z d) = r) := by
  unfold inD at e
  split at e
  · rename_i c t
    cases ra; cases rb; cases e
    refine .inl ⟨c.toNat, toS t, rfl, rfl, ?_⟩
    rw [toS_list]
    have : (c.toNat ∈ t.map Char.toNat) ↔ c ∈ t := by
      rw [List.mem_map]
      exact ⟨fun ⟨d, h1, h2⟩ => by rw [← toNat_inj h2]; exact h1, fun h => ⟨c, h, rfl⟩⟩
    simp only [this]
  · split at e
    · rename_i xs hx
      split at e
      · rename_i hf
        cases e
        obtain ⟨q, vs, rfl, rs, hq⟩ := itemsOf_rel R rb hx
        exact .inr (.inl ⟨q, vs, rfl, hq, flat_rel ra hf.1, flat_all rs hf.2, any_rel ra rs⟩)
      · split at e
        · rename_i p ys e1 _ e2
          split at e
          · rename_i hs
            cases e
            exact .inr (.inr ⟨p, ys, pd_dp _ (rd_dp R 8) _ _ _ ra e1, pd_dp _ (rd_dp R 8) _ _ _ rb e2, hs.1, hs.2, rfl⟩)
          · cases e
        · rename_i p ys e1 _ e2
          split at e
          · rename_i hs
            cases e
            exact .inr (.inr ⟨p, ys, pd_dp _ (rd_dp R 8) _ _ _ ra e1, pd_dp _ (rd_dp R 8) _ _ _ rb e2, hs.1, hs.2, rfl⟩)
          · cases e
        · cases e
    · cases e
theorem os_in (hu : X.A.units + 65 < cLine) : OpSim X ca (compareOp .In) pIn := by
  intro W μ H h Q a b x y R ra rb p
  unfold pIn at p
  split at p
  · rename_i r e
    have q := Ans.now p (.bl _) R
    rcases inD_cases R ra rb e with ⟨c, z, rfl, rfl, h2⟩ | ⟨p', xs, rfl, hq, h1, h2, h3⟩ | ⟨d, ds, k1, k2, s1, s2, h2⟩
    · exact bOp_of op_in_sign ⟨c, z, rfl, rfl, by rw [h2]; exact q⟩
    · exact bOp_of op_in_seq ⟨p', xs, rfl, hq, h1, h2, by rw [if_neg Bool.false_ne_true, h3]; exact q⟩
    · exact bOp_of (op_inD hu) ⟨d, ds, k1, k2, s1, s2, by rw [h2]; exact q⟩
  · exact p.elim
theorem os_notIn (hu : X.A.units + 65 < cLine) : OpSim X ca (compareOp .NotIn) pNotIn := by
  intro W μ H h Q a b x y R ra rb p
  unfold pNotIn at p
  split at p
  · rename_i r e
    have q := Ans.now p (.bl _) R
    rcases inD_cases R ra rb e with ⟨c, z, rfl, rfl, h2⟩ | ⟨p', xs, rfl, hq, h1, h2, h3⟩ | ⟨d, ds, k1, k2, s1, s2, h2⟩
    · exact bOp_of op_notIn_sign ⟨c, z, rfl, rfl, by rw [h2]; exact q⟩
    · exact bOp_of op_notIn_seq ⟨p', xs, rfl, hq, h1, h2, by rw [if_pos rfl, h3]; exact q⟩
    · exact bOp_of (op_notInD hu) ⟨d, ds, k1, k2, s1, s2, by rw [h2]; exact q⟩
  · exact p.elim
end
end Pm

set_option maxRecDepth 100000
set_option maxHeartbeats 1000000
noncomputable section
namespace Pm
open PySem PySem.Spec PyProof.Rows L2
section
variable {X : Cx} {ca : Nat → Addr} {W : XK} {μ : List Addr} {H : Hp} {h : AH} {Q : VK}

/-! ### items -/
theorem atI_rel {ds : List D} {vs : List V} {i : Int} {d : D} (r : RelDs X.K μ H ds vs) (e : atI ds i = some d) : ∃ v, atI vs i = some v ∧ RelD X.K μ H d v := by
  unfold atI at e ⊢
  rw [← r.length]
  cases q : ixN ds.length i with
  | none => rw [q] at e; cases e
  | some j =>
    rw [q] at e
    exact r.get e
theorem atI_str {s : List Char} {i : Int} {c : Char} (e : atI s i = some c) : atI (toS s).cps.toList i = some c.toNat := by
  rw [toS_list]
  unfold atI at e ⊢
  rw [List.length_map]
  cases q : ixN s.length i with
  | none => rw [q] at e; cases e
  | some j =>
    rw [q] at e
    show (s.map Char.toNat)[j]? = _
    rw [List.getElem?_map, show s[j]? = some c from e]
    rfl
theorem os_ix {a b : D} {x y : V} (R : RelH X.K ca μ H h) (ra : RelD X.K μ H a x) (rb : RelD X.K μ H b y) (p : Ans X.K ca (RelD X.K) W μ H (pIx a b h) Q) : bIx X x y H Q := by
  have seq : ∀ {i : Int}, RelD X.K μ H a x → Ans X.K ca (RelD X.K) W μ H (match itemsOf a h with
      | some xs => match atI xs i with
        | some x => .ok x h
        | none => .bad
      | none => .bad) Q → bIx X x (.int i) H Q := fun {i} ra p => by
    split at p
    · rename_i xs hx
      split at p
      · rename_i d hd
        obtain ⟨q, vs, rfl, rs, hq⟩ := itemsOf_rel R ra hx
        obtain ⟨v, hv, rv⟩ := atI_rel rs hd
        have fin := Ans.now p rv R
        rcases hq with hq | hq
        · exact bIx_of ix_list ⟨q, vs, i, v, rfl, rfl, hq, hv, fin⟩
        · exact bIx_of ix_tup ⟨q, vs, i, v, rfl, rfl, hq, hv, fin⟩
      · exact p.elim
    · exact p.elim
  cases rb with
  | int i =>
    cases ra with
    | str s =>
      have p : Ans X.K ca (RelD X.K) W μ H (match atI s i with
        | some c => chk (s.length ≤ sizeLine) (.ok (.str [c]) h)
        | none => .bad) Q := p
      split at p
      · rename_i c hc
        obtain ⟨hl, p⟩ := chk_ok p
        exact bIx_of ix_str ⟨_, i, c.toNat, rfl, rfl, by rw [toS_length]; exact hl, atI_str hc, Ans.now p (.str [c]) R⟩
      · exact p.elim
    | non => exact seq .non p
    | bl k => exact seq (.bl k) p
    | int k => exact seq (.int k) p
    | tup hq hs => exact seq (.tup hq hs) p
    | kl hq hs => exact seq (.kl hq hs) p
    | ref hn => exact seq (.ref hn) p
  | non => cases ra <;> exact p.elim
  | bl k => cases ra <;> exact p.elim
  | str s => cases ra <;> exact p.elim
  | tup _ _ => cases ra <;> exact p.elim
  | kl _ _ => cases ra <;> exact p.elim
  | ref _ => cases ra <;> exact p.elim

/-! ### slices -/
theorem cut_map {α β : Type} (f : α → β) (xs : List α) (lo hi : Option Int) : (cut xs lo hi).map f = cut (xs.map f) lo hi := by
  unfold cut
  rw [List.map_take, List.map_drop, List.length_map]
theorem cutS_toS (s : List Char) (lo hi : Option Int) : cutS (toS s) lo hi = toS (cut s lo hi) := by
  unfold cutS
  rw [toS_list, toS_length]
  show _ = Str.mk _
  rw [cut_map]
  unfold cut
  rw [List.length_map]
theorem cut_whole {α : Type} {xs : List α} {lo hi : Option Int} (h : HT.sIx xs.length 0 lo = 0 ∧ HT.sIx xs.length xs.length hi = xs.length) : cut xs lo hi = xs := by
  unfold cut
  rw [h.1, h.2]
  simp
theorem os_sl {a : D} {x : V} {lo hi : Option Int} (R : RelH X.K ca μ H h) (ra : RelD X.K μ H a x) (p : Ans X.K ca (RelD X.K) W μ H (pSl a lo hi h) Q) : bSl X x lo hi H Q := by
  cases ra with
  | str s =>
    obtain ⟨hl, p⟩ := chk_ok p
    refine bSl_of sl_str ⟨_, rfl, by rw [toS_length]; exact hl, ?_⟩
    rw [cutS_toS]
    exact Ans.now p (.str _) R
  | @tup xs a vs hq hs =>
    have p : Ans X.K ca (RelD X.K) W μ H (.ok (.tup (cut xs lo hi)) h) Q := p
    refine bSl_of sl_tupA ⟨_, _, rfl, hq, fun hw => ?_, fun _ q hq => Ans.tup p R (hs.cut lo hi) q hq⟩
    rw [← hs.length] at hw
    rw [cut_whole hw] at p
    exact Ans.now p (.tup ‹_› hs) R
  | @ref n a hn =>
    have p : Ans X.K ca (RelD X.K) W μ H (match itemsOf (.ref n) h with
      | some xs => alloc (.lst (cut xs lo hi)) h
      | none => .bad) Q := p
    split at p
    · rename_i xs hx
      obtain ⟨vs, rs, hq⟩ := itemsOf_ref R hn hx
      exact bSl_of sl_list ⟨_, _, rfl, hq, fun q hq => Ans.lst p R (rs.cut lo hi) q hq⟩
    · exact p.elim
  | kl hq hs => exact bSl_of sl_list ⟨_, _, rfl, hq.sq, fun q hq => Ans.lst p R (hs.cut lo hi) q hq⟩
  | _ => exact p.elim

/-! ### truth -/
theorem isEmpty_rel {ds : List D} {vs : List V} (r : RelDs X.K μ H ds vs) : (!ds.isEmpty) = !vs.isEmpty := by
  cases r <;> rfl
theorem os_tru {a : D} {x : V} {Q : Bool → Hp → Prop} (R : RelH X.K ca μ H h) (ra : RelD X.K μ H a x) (p : Ans X.K ca (fun _ _ => Eq) W μ H (pTru a h) Q) : bTru X x H Q := by
  have fin : ∀ {k : Bool}, Ans X.K ca (fun _ _ => Eq) W μ H (.ok k h) Q → Q k H := fun p => p _ μ H (Ext.refl μ H) rfl R
  cases ra with
  | non => exact ⟨_, rfl, fin p⟩
  | bl b => exact ⟨_, rfl, fin p⟩
  | int i => exact ⟨_, rfl, fin p⟩
  | str s =>
    obtain ⟨hl, p⟩ := chk_ok p
    refine ⟨_, ⟨by rw [toS_length]; exact hl, rfl⟩, ?_⟩
    have e : (((toS s).length : Int) != 0) = !s.isEmpty := by
      rw [toS_length]
      cases s with
      | nil => rfl
      | cons c r =>
        show ((((c :: r).length : Nat) : Int) != 0) = true
        rw [bne_iff_ne]
        simp only [List.length_cons]
        omega
    rw [e]
    exact fin p
  | tup hq hs => exact ⟨_, .inr (.inl ⟨_, hq, rfl⟩), by rw [← isEmpty_rel hs]; exact fin p⟩
  | kl hq hs => exact ⟨_, .inl ⟨_, hq.sq, rfl⟩, by rw [← isEmpty_rel hs]; exact fin p⟩
  | @ref n a hn =>
    have p : Ans X.K ca (fun _ _ => Eq) W μ H (match itemsOf (.ref n) h with
      | some xs => .ok (!xs.isEmpty) h
      | none => .bad) Q := p
    split at p
    · rename_i xs hx
      obtain ⟨vs, rs, hq⟩ := itemsOf_ref R hn hx
      exact ⟨_, .inl ⟨vs, hq, rfl⟩, by rw [← isEmpty_rel rs]; exact fin p⟩
    · exact p.elim

/-! ### built-in functions -/
def biV : Bi → Value
  | .len => .builtin "len"
  | .int => .type "int"
  | .tuple => .type "tuple"
  | .list => .type "list"
  | .abs => .builtin "abs"
  | .max2 => .builtin "max"
  | .min2 => .builtin "min"
theorem rel1 {d : D} {vs : List V} (r : RelDs X.K μ H [d] vs) : ∃ v, vs = [v] ∧ RelD X.K μ H d v := by
  cases r with
  | cons r rs => cases rs; exact ⟨_, rfl, r⟩
theorem rel2 {d e : D} {vs : List V} (r : RelDs X.K μ H [d, e] vs) : ∃ v w, vs = [v, w] ∧ RelD X.K μ H d v ∧ RelD X.K μ H e w := by
  cases r with
  | cons r rs => obtain ⟨w, rfl, r2⟩ := rel1 rs; exact ⟨_, w, rfl, r, r2⟩
theorem os_len {d : D} {v : V} (R : RelH X.K ca μ H h) (r : RelD X.K μ H d v) (p : Ans X.K ca (RelD X.K) W μ H (pLen d h) Q) : bCall X (.builtin "len") [v] H Q := by
  have seq : RelD X.K μ H d v → Ans X.K ca (RelD X.K) W μ H (match itemsOf d h with
      | some xs => .ok (.int xs.length) h
      | none => .bad) Q → bCall X (.builtin "len") [v] H Q := fun r p => by
    split at p
    · rename_i xs hx
      obtain ⟨q, vs, rfl, rs, hq⟩ := itemsOf_rel R r hx
      exact bCall_of call_len_seq ⟨q, vs, rfl, hq, by rw [← rs.length]; exact Ans.now p (.int _) R⟩
    · exact p.elim
  cases r with
  | str s =>
    obtain ⟨hl, p⟩ := chk_ok p
    exact bCall_of call_len_str ⟨_, rfl, by rw [toS_length]; exact hl, by rw [toS_length]; exact Ans.now p (.int _) R⟩
  | non => exact seq .non p
  | bl k => exact seq (.bl k) p
  | int k => exact seq (.int k) p
  | tup hq hs => exact seq (.tup hq hs) p
  | kl hq hs => exact seq (.kl hq hs) p
  | ref hn => exact seq (.ref hn) p
theorem os_bi (hc : X.calm = true) {b : Bi} {ds : List D} {vs : List V} (R : RelH X.K ca μ H h) (r : RelDs X.K μ H ds vs) (p : Ans X.K ca (RelD X.K) W μ H (pBi b ds h) Q) : bCall X (biV b) vs H Q := by
  unfold pBi at p
  split at p
  · obtain ⟨v, rfl, r1⟩ := rel1 r
    exact os_len R r1 p
  · obtain ⟨v, rfl, r1⟩ := rel1 r
    cases r1
    exact bCall_of call_int1 (.inl ⟨_, rfl, Ans.now p (.int _) R⟩)
  · obtain ⟨v, rfl, r1⟩ := rel1 r
    cases r1
    exact bCall_of call_int1 (.inr ⟨_, rfl, Ans.now p (.int _) R⟩)
  · obtain ⟨v, rfl, r1⟩ := rel1 r
    split at p
    · rename_i xs hx
      obtain ⟨q, vs, rfl, rs, hq⟩ := itemsOf_rel R r1 hx
      rcases hq with hq | hq
      · exact bCall_of call_tuple_of ⟨q, vs, rfl, .inl ⟨hq, fun l hl => Ans.tup p R rs l hl⟩⟩
      · exact bCall_of call_tuple_of ⟨q, vs, rfl, .inr ⟨hq, Ans.now p (.tup hq rs) R⟩⟩
    · exact p.elim
  · obtain ⟨v, rfl, r1⟩ := rel1 r
    split at p
    · rename_i xs hx
      obtain ⟨q, vs, rfl, rs, hq⟩ := itemsOf_rel R r1 hx
      exact bCall_of call_list_of ⟨q, vs, rfl, hq, fun l hl => Ans.lst p R rs l hl⟩
    · exact p.elim
  · obtain ⟨v, rfl, r1⟩ := rel1 r
    cases r1
    exact bCall_of call_abs ⟨_, rfl, Ans.now p (.int _) R⟩
  · obtain ⟨v, w, rfl, r1, r2⟩ := rel2 r
    cases r1; cases r2
    exact bCall_of (call_max2 hc) ⟨_, _, rfl, Ans.now p (.int _) R⟩
  · obtain ⟨v, w, rfl, r1, r2⟩ := rel2 r
    cases r1; cases r2
    exact bCall_of (call_min2 hc) ⟨_, _, rfl, Ans.now p (.int _) R⟩
  · exact p.elim

/-! ### isinstance with a built-in class -/
def tyS : Ty → String
  | .bool => "bool" | .int => "int" | .str => "str" | .tuple => "tuple" | .list => "list"
theorem tyx_tup {a : Addr} {vs : List V} (hq : SqT X.K H a vs) : TyX X.K H (.ref a) (.type "tuple") := by
  rcases hq with (hq | ⟨o, hq⟩) | ⟨o, its, n, hk, hc, _⟩
  · exact .base (.tup hq)
  · exact .fTuple hq
  · exact .kTuple hk hc
theorem tyx_kl {a : Addr} {vs : List V} (hq : SqK X.K H a vs) : TyX X.K H (.ref a) (.type "list") := by
  rcases hq with ⟨o, hq⟩ | ⟨o, its, n, hk, hc, _⟩
  · exact .base (.frz hq)
  · exact .kList hk hc
theorem os_isi {t : Ty} {d : D} {v : V} (R : RelH X.K ca μ H h) (r : RelD X.K μ H d v) (p : Ans X.K ca (RelD X.K) W μ H (pIsi t d h) Q) : bCall X (.builtin "isinstance") [v, .ty (tyS t)] H Q := by
  have fin : ∀ {T : String} {b : Bool}, TyX X.K H v (.type T) → kitB T (tyS t) = some b → Ans X.K ca (RelD X.K) W μ H (.ok (.bl b) h) Q → bCall X (.builtin "isinstance") [v, .ty (tyS t)] H Q :=
    fun ty k p => bCall_of call_isi ⟨_, _, _, _, _, rfl, .ty _, ty, kit_ty k, Ans.now p (.bl _) R⟩
  cases r with
  | non => exact fin (.base .non) (by cases t <;> decide +kernel) p
  | bl k => exact fin (.base (.bl _)) (by cases t <;> decide +kernel) p
  | int k => exact fin (.base (.int _)) (by cases t <;> decide +kernel) p
  | str k => exact fin (.base (.str _)) (by cases t <;> decide +kernel) p
  | tup hq hs => exact fin (tyx_tup hq) (by cases t <;> decide +kernel) p
  | kl hq hs => exact fin (tyx_kl hq) (by cases t <;> decide +kernel) p
  | @ref n a hn =>
    unfold pIsi isTy at p
    simp only at p
    cases q : h[n]? with
    | none => rw [q] at p; exact p.elim
    | some o =>
      rw [q] at p
      obtain ⟨b, hb, ro⟩ := R.addr q
      rw [hn] at hb; cases hb
      cases o with
      | lst xs => obtain ⟨vs, e, _⟩ := ro; exact fin (.base (.lst e)) (by cases t <;> decide +kernel) p
      | ins c fs => exact p.elim

/-! ### built-in methods -/
def bMt (X : Cx) (id : String) : V → List V → Hp → VK → Prop := fun x xs H Q => ∀ (pins : List (Addr × Obj)) (s : Shared) (σ : L2.St) (v : Value) (us : List Value), Inv X pins σ H s → RelV x v → Vals xs us → wpAny (model X.prog X.w) X.A (call (.builtin id) (v :: us)) (EP X pins σ Q) X.xe s
theorem bMt_ok {X : Cx} {id : String} : MtR X id (bMt X id) := fun pins s σ _ _ _ v us _ I rx rs h => h pins s σ v us I rx rs
theorem bMt_of {X : Cx} {id : String} {r : V → List V → Hp → VK → Prop} (o : MtR X id r) {x : V} {xs : List V} {H : Hp} {Q : VK} (h : r x xs H Q) : bMt X id x xs H Q := fun pins s σ v us I rx rs => o pins s σ H x xs v us Q I rx rs h
def bmId : Bm → String
  | .join => "str.join"
  | .upper => "str.upper"
  | .append => "list.append"
def bmName : Bm → Str
  | .join => "join"
  | .upper => "upper"
  | .append => "append"
theorem tyV_of {t : Ty} {d : D} {v : V} (R : RelH X.K ca μ H h) (r : RelD X.K μ H d v) (ht : t = .str ∨ t = .list) (e : isTy t d h = some true) : tyV X.K (tyS t) v H := by
  cases r with
  | str s => rcases ht with rfl | rfl <;> first | rfl | (cases e)
  | @ref n a hn =>
    unfold isTy at e
    simp only at e
    cases q : h[n]? with
    | none => rw [q] at e; cases e
    | some o =>
      rw [q] at e
      obtain ⟨b, hb, ro⟩ := R.addr q
      rw [hn] at hb; cases hb
      rcases ht with rfl | rfl
      · cases o <;> cases e
      · cases o with
        | lst xs => obtain ⟨vs, e, _⟩ := ro; exact .inl ⟨rfl, _, .inl (.inl e)⟩
        | ins c fs => cases e
  | non => rcases ht with rfl | rfl <;> cases e
  | bl _ => rcases ht with rfl | rfl <;> cases e
  | int _ => rcases ht with rfl | rfl <;> cases e
  | tup _ _ => rcases ht with rfl | rfl <;> cases e
  | kl hq hs =>
    rcases ht with rfl | rfl
    · cases e
    · exact .inl ⟨rfl, _, hq.sq⟩
theorem bmTy_or (b : Bm) : bmTy b = .str ∨ bmTy b = .list := by cases b <;> first | exact .inl rfl | exact .inr rfl
theorem strs_rel : ∀ {ds : List D} {vs : List V} {ys : List (List Char)}, RelDs X.K μ H ds vs → strsOf ds = some ys → vs = (ys.map toS).map V.str
  | [], _, _, .nil, e => by cases e; rfl
  | d :: ds, _, ys, .cons r rs, e => by
    cases r with
    | str s =>
      unfold strsOf at e
      cases q : strsOf ds with
      | none => rw [q] at e; cases e
      | some zs =>
        rw [q] at e
        cases e
        rw [strs_rel rs q]
        rfl
    | _ => cases e
theorem glued_foldl (sep : List Char) : ∀ (r : List (List Char)) (acc : List Char),
    (List.foldl (fun (acc : Array Nat) (p : Str) => acc ++ (toS sep).cps ++ p.cps) (toS acc).cps (r.map toS)).toList = (List.foldl (fun (acc : List Char) t => acc ++ sep ++ t) acc r).map Char.toNat
  | [], acc => toS_list acc
  | t :: r, acc => by
    rw [List.map_cons, List.foldl_cons, List.foldl_cons]
    have e : (toS acc).cps ++ (toS sep).cps ++ (toS t).cps = (toS (acc ++ sep ++ t)).cps := by
      apply Array.toList_inj.mp
      rw [toS_list, Array.toList_append, Array.toList_append, toS_list, toS_list, toS_list]
      simp
    rw [e, glued_foldl sep r]
theorem joinS_foldl (sep : List Char) : ∀ (r : List (List Char)) (acc : List Char), List.foldl (fun (acc : List Char) t => acc ++ sep ++ t) acc r = joinS sep (acc :: r)
  | [], acc => rfl
  | t :: r, acc => by
    rw [List.foldl_cons, joinS_foldl sep r]
    cases r with
    | nil => rfl
    | cons u r => simp [joinS]
theorem txt_join (sep : List Char) (ys : List (List Char)) : Txt.join (toS sep) (ys.map toS) = toS (joinS sep ys) := by
  have ext : ∀ x y : Str, x.cps.toList = y.cps.toList → x = y := fun x y e => by
    cases x; cases y; simp only at e; rw [Array.toList_inj.mp e]
  apply ext
  rw [toS_list]
  cases ys with
  | nil => rfl
  | cons t r =>
    show (List.foldl (fun (acc : Array Nat) (p : Str) => acc ++ (toS sep).cps ++ p.cps) (toS t).cps (r.map toS)).toList = _
    rw [glued_foldl, joinS_foldl]
theorem joinLen_eq (sep : List Char) (ys : List (List Char)) : ((ys.map toS).map (·.length)).sum + (ys.map toS).length * (toS sep).length = joinLen sep ys := by
  unfold joinLen
  induction ys with
  | nil => simp
  | cons y ys ih =>
    simp only [List.map_cons, List.sum_cons, List.length_cons, toS_length] at ih ⊢
    rw [Nat.succ_mul]
    omega
theorem upper_ascii : ∀ n, n < 128 → Unicode.upperOf n = [if 97 ≤ n ∧ n ≤ 122 then n - 32 else n] := by decide +kernel
theorem ofNat_toNat (n : Nat) (h : n < 55296) : (Char.ofNat n).toNat = n := by
  unfold Char.ofNat
  rw [dif_pos (Or.inl h)]
  show (Char.ofNatAux n _).val.toNat = n
  simp [Char.ofNatAux]
theorem mapFinIdx_const {α β : Type} (f : α → β) (l : List α) : (l.mapFinIdx fun _ a _ => f a) = l.map f := by
  apply List.ext_getElem?
  intro i
  simp
theorem upC_toNat (c : Char) (h : c.toNat < 128) : (upC c).toNat = if 97 ≤ c.toNat ∧ c.toNat ≤ 122 then c.toNat - 32 else c.toNat := by
  unfold upC
  split
  · rename_i hc
    exact ofNat_toNat _ (by omega)
  · rfl
theorem flatten_one (f : Nat → List Nat) (g : Nat → Nat) : ∀ l : List Nat, (∀ c ∈ l, f c = [g c]) → (l.map f).flatten = l.map g
  | [], _ => rfl
  | c :: l, h => by
    rw [List.map_cons, List.flatten_cons, h c (List.mem_cons_self ..), flatten_one f g l fun d hd => h d (List.mem_cons_of_mem _ hd)]
    rfl
theorem txt_upper (s : List Char) (h : s.all (fun c => c.toNat < 128) = true) : Txt.upper (toS s) = toS (s.map upC) := by
  have ext : ∀ x y : Str, x.cps.toList = y.cps.toList → x = y := fun x y e => by
    cases x; cases y; simp only at e; rw [Array.toList_inj.mp e]
  apply ext
  rw [toS_list]
  have h' : ∀ c ∈ s, c.toNat < 128 := fun c hc => by simpa using List.all_eq_true.mp h c hc
  show ((toS s).cps.mapIdx fun i c => (Unicode.upperOf c).toArray).flatten.toList = _
  have e1 : ((toS s).cps.mapIdx fun i c => (Unicode.upperOf c).toArray).flatten.toList = (((toS s).cps.toList.map fun c => Unicode.upperOf c)).flatten := by
    simp only [Array.mapIdx_eq_mapFinIdx, Array.toList_flatten]
    simp only [Array.toList_mapFinIdx, mapFinIdx_const, List.map_map]
    simp [Function.comp_def, mapFinIdx_const]
  rw [e1, toS_list, flatten_one _ (fun n => if 97 ≤ n ∧ n ≤ 122 then n - 32 else n)]
  · rw [List.map_map, List.map_map]
    exact List.map_congr_left fun c hc => (upC_toNat c (h' c hc)).symm
  · intro n hn
    obtain ⟨c, hc, rfl⟩ := List.mem_map.mp hn
    exact upper_ascii _ (h' c hc)
theorem os_bm {b : Bm} {d : D} {v : V} {ds : List D} {vs : List V} (R : RelH X.K ca μ H h) (r : RelD X.K μ H d v) (rs : RelDs X.K μ H ds vs) (p : Ans X.K ca (RelD X.K) W μ H (pBm b d ds h) Q) : bMt X (bmId b) v vs H Q := by
  unfold pBm at p
  split at p
  · obtain ⟨w, rfl, rw'⟩ := rel1 rs
    cases r
    split at p
    · rename_i xs hx
      split at p
      · rename_i ys hy
        obtain ⟨hl, p⟩ := chk_ok p
        obtain ⟨q, ws, rfl, rws, hq⟩ := itemsOf_rel R rw' hx
        have e := strs_rel rws hy
        subst e
        refine bMt_of mt_join ⟨_, q, ys.map toS, rfl, rfl, hq, ?_, ?_⟩
        · rw [joinLen_eq]
          exact Nat.le_trans hl (by decide)
        · rw [txt_join]
          exact Ans.now p (.str _) R
      · exact p.elim
    · exact p.elim
  · cases rs
    cases r
    obtain ⟨hl, p⟩ := chk_ok p
    refine bMt_of mt_upper ⟨_, rfl, rfl, by rw [toS_length]; exact hl.1, ?_⟩
    rw [txt_upper _ hl.2]
    exact Ans.now p (.str _) R
  · obtain ⟨w, rfl, rw'⟩ := rel1 rs
    cases r with
    | ref hn =>
      rename_i n e a
      split at p
      · rename_i xs hx
        obtain ⟨hl, p⟩ := chk_ok p
        obtain ⟨ws, rws, hH⟩ := lst_rel R hn hx
        refine bMt_of (mt_append : MtR X "list.append" rAppend) ⟨_, _, _, rfl, rfl, hH, by rw [← rws.length]; exact hl, ?_⟩
        have mu : Mut (H a) := by rw [hH]; exact trivial
        refine p .non μ _ (Ext.write hn mu) .non (R.write hn mu ⟨_, upd_same, ?_⟩)
        exact RelDs.append (rws.mono (Ext.write hn mu)) (.cons (rw'.mono (Ext.write hn mu)) .nil)
      · exact p.elim
  · exact p.elim
end
end Pm

set_option maxRecDepth 100000
set_option maxHeartbeats 1000000
noncomputable section
namespace Pm
open PySem PySem.Spec PyProof.Rows L2

/-! ## 9. Readings at their best -/
section
variable (X : Cx)
def bE (e : Expr) : TE := fun σ H Q => ∀ (pins : List (Addr × Obj)) (s : Shared), Inv X pins σ H s → wpAny (model X.prog X.w) X.A (eval e X.env) (EP X pins σ Q) X.xe s
def bT (e : Expr) : TT := fun σ H Q => ∀ (pins : List (Addr × Obj)) (s : Shared), Inv X pins σ H s → wpAny (model X.prog X.w) X.A (isTrue e X.env (eval e X.env)) (TP X pins σ Q) X.xe s
def bW (e : Expr) : TT := fun σ H Q => ∀ (whole : Sem Value) (pins : List (Addr × Obj)) (s : Shared), Inv X pins σ H s → wpAny (model X.prog X.w) X.A (isTrue e X.env whole) (TP X pins σ Q) X.xe s
def bA (es : List Expr) : TA := fun σ H Q => ∀ (pos : Pos) (pins : List (Addr × Obj)) (s : Shared), Inv X pins σ H s → wpAny (model X.prog X.w) X.A (spliced (backTo pos (starEach es X.env))) (AP X pins σ Q) X.xe s
def bO (e : Option Expr) : TO := fun σ H Q => ∀ (pins : List (Addr × Obj)) (s : Shared), Inv X pins σ H s → wpAny (model X.prog X.w) X.A (evalPart e X.env) (fun u s' => ∃ o H', Inv X pins σ H' s' ∧ IsPart u o ∧ Q o H') X.xe s
def bI (tg iter : Expr) : TI := fun σ H R => ∀ (pins : List (Addr × Obj)) (s : Shared), Inv X pins σ H s → wpAny (model X.prog X.w) X.A (eval iter X.env) (fun v s1 => wpAny (model X.prog X.w) X.A (pyIter v) (PIE X pins σ tg R) X.xe s1) X.xe s
def bS (st : Stmt) : TS := fun D σ H => ∀ (pins : List (Addr × Obj)) (s : Shared), Inv X pins σ H s → wpAny (model X.prog X.w) X.A (exec st X.env) (SP X pins D) X.xe s
def bSs (st : List Stmt) : TS := fun D σ H => ∀ (pins : List (Addr × Obj)) (s : Shared), Inv X pins σ H s → wpAny (model X.prog X.w) X.A (execs st X.env) (SP X pins D) X.xe s
def bG (tg : Expr) : TG := fun v σ H Q => ∀ (pins : List (Addr × Obj)) (s : Shared) (u : Value), Inv X pins σ H s → RelV v u → wpAny (model X.prog X.w) X.A (assign tg X.env u) (fun _ s' => ∃ σ' H', Inv X pins σ' H' s' ∧ Q σ' H') X.xe s
end
section
variable {X : Cx}
theorem bE_ok {e : Expr} : PE X e (bE X e) := ⟨fun pins s _ _ _ I h => h pins s I⟩
theorem bT_ok {e : Expr} : PT X e (bT X e) := ⟨fun pins s _ _ _ I h => h pins s I⟩
theorem bW_ok {e : Expr} : PW X e (bW X e) := ⟨fun wh pins s _ _ _ I h => h wh pins s I⟩
theorem bA_ok {es : List Expr} : PA X es (bA X es) := ⟨fun pos pins s _ _ _ I h => h pos pins s I⟩
theorem bO_ok {e : Option Expr} : PO X e (bO X e) := ⟨fun pins s _ _ _ I h => h pins s I⟩
theorem bI_ok {tg iter : Expr} : PI X tg iter (bI X tg iter) := ⟨fun pins s _ _ _ I h => h pins s I⟩
theorem bS_ok {st : Stmt} : PS X st (bS X st) := ⟨fun pins s _ _ _ I h => h pins s I⟩
theorem bSs_ok {st : List Stmt} : PSs X st (bSs X st) := ⟨fun pins s _ _ _ I h => h pins s I⟩
theorem bG_ok {tg : Expr} : PG X tg (bG X tg) := ⟨fun pins s _ _ _ u _ I r h => h pins s u I r⟩
theorem bE_of {e : Expr} {t : TE} {σ : L2.St} {H : Hp} {Q : VK} (p : PE X e t) (h : t σ H Q) : bE X e σ H Q := fun pins s I => p.run pins s σ H Q I h
theorem bT_of {e : Expr} {t : TT} {σ : L2.St} {H : Hp} {Q : Bool → Hp → Prop} (p : PT X e t) (h : t σ H Q) : bT X e σ H Q := fun pins s I => p.run pins s σ H Q I h
theorem bW_of {e : Expr} {t : TT} {σ : L2.St} {H : Hp} {Q : Bool → Hp → Prop} (p : PW X e t) (h : t σ H Q) : bW X e σ H Q := fun wh pins s I => p.run wh pins s σ H Q I h
theorem bA_of {es : List Expr} {t : TA} {σ : L2.St} {H : Hp} {Q : List V → Hp → Prop} (p : PA X es t) (h : t σ H Q) : bA X es σ H Q := fun pos pins s I => p.run pos pins s σ H Q I h
theorem bO_of {e : Option Expr} {t : TO} {σ : L2.St} {H : Hp} {Q : Option Int → Hp → Prop} (p : PO X e t) (h : t σ H Q) : bO X e σ H Q := fun pins s I => p.run pins s σ H Q I h
theorem bI_of {tg iter : Expr} {t : TI} {σ : L2.St} {H : Hp} {R : It → Hp → Prop} (p : PI X tg iter t) (h : t σ H R) : bI X tg iter σ H R := fun pins s I => p.run pins s σ H R I h
theorem bS_of {st : Stmt} {t : TS} {σ : L2.St} {H : Hp} {D : Ends} (p : PS X st t) (h : t D σ H) : bS X st D σ H := fun pins s I => p.run pins s σ H D I h
theorem bSs_of {st : List Stmt} {t : TS} {σ : L2.St} {H : Hp} {D : Ends} (p : PSs X st t) (h : t D σ H) : bSs X st D σ H := fun pins s I => p.run pins s σ H D I h
theorem bG_of {tg : Expr} {t : TG} {v : V} {σ : L2.St} {H : Hp} {Q : L2.St → Hp → Prop} (p : L2.PG X tg t) (h : t v σ H Q) : bG X tg v σ H Q := fun pins s u I r => p.run pins s σ H v u Q I r h
end

/-! ## 10. Side conditions of syntax -/
def notStar : Expr → Bool
  | .Starred _ _ => false
  | _ => true
theorem starEach_one {e : Expr} {es : List Expr} {env : PySem.Env} (h : notStar e = true) : starEach (e :: es) env = (false, eval e env) :: starEach es env := by
  cases e <;> first | rfl | cases h
theorem back_plain {pos : Pos} {env : PySem.Env} : ∀ {es : List Expr}, es.all notStar = true → (backTo pos (starEach es env)).any (·.1) = false
  | [], _ => rfl
  | e :: es, h => by
    rw [List.all_cons, Bool.and_eq_true] at h
    rw [starEach_one h.1]
    show (false || (backTo pos (starEach es env)).any (·.1)) = false
    rw [back_plain h.2]
    rfl
theorem back_all {pos : Pos} {env : PySem.Env} : ∀ {es : List Expr}, es.all notStar = true → (backTo pos (starEach es env)).all (fun x => !x.1) = true
  | [], _ => rfl
  | e :: es, h => by
    rw [List.all_cons, Bool.and_eq_true] at h
    rw [starEach_one h.1]
    show (!false && (backTo pos (starEach es env)).all (fun x => !x.1)) = true
    rw [back_all h.2]
    rfl
def notSet : Expr → Bool
  | .Set _ _ _ => false
  | _ => true
theorem marks_of {op : CmpOp} {b : Expr} (h : notSet b = true) : behindInMarks op b = false := by
  cases b <;> first | rfl | cases h
def notSlice : Expr → Bool
  | .Slice _ _ _ _ => false
  | _ => true
theorem plain_of {b : Expr} (h : notSlice b = true) : PlainIx b := by
  intro o i
  cases b <;> first | rfl | cases h
/-- what is tested by its value's truth -/
def plainTest : Expr → Bool
  | .UnaryOp .Not _ _ => false
  | .BoolOp _ _ _ => false
  | .IfExp _ _ _ _ => false
  | .Compare _ _ _ _ => false
  | _ => true
theorem test_of {e : Expr} {env : PySem.Env} (h : plainTest e = true) (whole : Sem Value) : isTrue e env whole = (do let v ← whole; standAt e.pos; holding [v] (truthy v)) := by
  cases e with
  | UnaryOp op x p => cases op <;> first | rfl | cases h
  | BoolOp _ _ _ => cases h
  | IfExp _ _ _ _ => cases h
  | Compare _ _ _ _ => cases h
  | _ => rfl
def notComp : Expr → Bool
  | .ListComp _ _ _ _ => false
  | .SetComp _ _ _ _ => false
  | .DictComp _ _ _ _ _ => false
  | _ => true
theorem noswap {e : Expr} {t : Option Expr} {l : Nat} {env : PySem.Env} (h : notComp e = true) : swapsWith e t l env = pure false := by
  cases e <;> first | rfl | cases h
/-- the object of an attribute -/
def notSuper : Expr → Bool
  | .Call (.Name _ _) [] [] _ => false
  | _ => true
theorem base_of {o : Expr} {n : Str} {env : PySem.Env} {whole : Sem Value} (h : notSuper o = true) : attributeBase o n env whole = whole := by
  unfold attributeBase
  split
  · cases h
  · rfl

/-! ## 11. What a word of the machine must do for a piece of syntax -/
def RelR (K : PySem.W.Frag) (μ : List Addr) (H : Hp) (ρ : Env') (σ : L2.St) : Prop := ρ.length = σ.length ∧ ∀ (i : Nat) (d : D), ρ[i]? = some (some d) → ∃ v, σ[i]? = some (some v) ∧ RelD K μ H d v
theorem RelR.mono {K : PySem.W.Frag} {μ μ' : List Addr} {H H' : Hp} {ρ : Env'} {σ : L2.St} (r : RelR K μ H ρ σ) (e : Ext μ H μ' H') : RelR K μ' H' ρ σ :=
  ⟨r.1, fun i d h => let ⟨v, h1, h2⟩ := r.2 i d h; ⟨v, h1, h2.mono e⟩⟩
section
variable (X : Cx) (ca : Nat → Addr) (W : WX) (cf : CallT)
def SimE (e : Expr) (t : SE) : Prop := ∀ ⦃ρ : Env'⦄ ⦃h : AH⦄ ⦃σ : L2.St⦄ ⦃μ : List Addr⦄ ⦃H : Hp⦄ ⦃Q : VK⦄, RelR X.K μ H ρ σ → RelH X.K ca μ H h → Ans X.K ca (RelD X.K) (WE W σ) μ H (t cf ρ h) Q → bE X e σ H Q
def SimT (e : Expr) (t : ST) : Prop := ∀ ⦃ρ : Env'⦄ ⦃h : AH⦄ ⦃σ : L2.St⦄ ⦃μ : List Addr⦄ ⦃H : Hp⦄ ⦃Q : Bool → Hp → Prop⦄, RelR X.K μ H ρ σ → RelH X.K ca μ H h → Ans X.K ca (fun _ _ => Eq) (WE W σ) μ H (t cf ρ h) Q → bT X e σ H Q
def SimW (e : Expr) (t : ST) : Prop := ∀ ⦃ρ : Env'⦄ ⦃h : AH⦄ ⦃σ : L2.St⦄ ⦃μ : List Addr⦄ ⦃H : Hp⦄ ⦃Q : Bool → Hp → Prop⦄, RelR X.K μ H ρ σ → RelH X.K ca μ H h → Ans X.K ca (fun _ _ => Eq) (WE W σ) μ H (t cf ρ h) Q → bW X e σ H Q
def SimA (es : List Expr) (t : SA) : Prop := ∀ ⦃ρ : Env'⦄ ⦃h : AH⦄ ⦃σ : L2.St⦄ ⦃μ : List Addr⦄ ⦃H : Hp⦄ ⦃Q : List V → Hp → Prop⦄, RelR X.K μ H ρ σ → RelH X.K ca μ H h → Ans X.K ca (RelDs X.K) (WE W σ) μ H (t cf ρ h) Q → bA X es σ H Q
def SimO (e : Option Expr) (t : SO) : Prop := ∀ ⦃ρ : Env'⦄ ⦃h : AH⦄ ⦃σ : L2.St⦄ ⦃μ : List Addr⦄ ⦃H : Hp⦄ ⦃Q : Option Int → Hp → Prop⦄, RelR X.K μ H ρ σ → RelH X.K ca μ H h → Ans X.K ca (fun _ _ => Eq) (WE W σ) μ H (t cf ρ h) Q → bO X e σ H Q
end
section
variable {X : Cx} {ca : Nat → Addr} {W : WX} {cf : CallT} {a b e o : Expr} {es : List Expr} {sa sb se so : SE} {ses : SA} {pos : Pos}
theorem ans_at {α β : Type} {K : PySem.W.Frag} {R : List Addr → Hp → α → β → Prop} {W : XK} {μ : List Addr} {H : Hp} {h : AH} {x : α} {y : β} {Q : β → Hp → Prop} (p : Ans K ca R W μ H (.ok x h) Q) (r : R μ H x y) (rh : RelH K ca μ H h) : Q y H := p y μ H (Ext.refl μ H) r rh
theorem sim_op2 {op : Operator} {p : D → D → M D} (ho : OpSim X ca (binaryOp op) p) (ha : SimE X ca W cf a sa) (hb : SimE X ca W cf b sb) : SimE X ca W cf (.BinOp a op b pos) (sOp2 p sa sb) := by
  intro ρ h σ μ H Q rr rh an
  refine bE_of (pe_op bOp_ok bE_ok bE_ok) ?_
  refine ha rr rh (Ans.bind an fun d h1 x μ1 H1 e1 r1 rh1 an1 => ?_)
  refine hb (rr.mono e1) rh1 (Ans.bind an1 fun d2 h2 y μ2 H2 e2 r2 rh2 an2 => ?_)
  exact ho rh2 (r1.mono e2) r2 an2
theorem sim_cmp {op : CmpOp} {p : D → D → M D} (ho : OpSim X ca (compareOp op) p) (hs : notSet b = true) (ha : SimE X ca W cf a sa) (hb : SimE X ca W cf b sb) : SimE X ca W cf (.Compare a [op] [b] pos) (sOp2 p sa sb) := by
  intro ρ h σ μ H Q rr rh an
  refine bE_of (pe_cmpR bOp_ok bE_ok bE_ok (marks_of hs)) ?_
  refine ha rr rh (Ans.bind an fun d h1 x μ1 H1 e1 r1 rh1 an1 => ?_)
  refine hb (rr.mono e1) rh1 (Ans.bind an1 fun d2 h2 y μ2 H2 e2 r2 rh2 an2 => ?_)
  exact ho rh2 (r1.mono e2) r2 an2
/-- the answer of a comparison is a truth -/
theorem bool_of {d : D} {v : V} {h : AH} {W : XK} {μ : List Addr} {H : Hp} {Q : Bool → Hp → Prop} (r : RelD X.K μ H d v) (rh : RelH X.K ca μ H h) (an : Ans X.K ca (fun _ _ => Eq) W μ H (pBool d h) Q) : ∃ k, v = .bl k ∧ Q k H := by
  cases r with
  | bl k => exact ⟨k, rfl, ans_at an rfl rh⟩
  | _ => exact an.elim
theorem sim_cmpT {op : CmpOp} {p : D → D → M D} (ho : OpSim X ca (compareOp op) p) (hs : notSet b = true) (ha : SimE X ca W cf a sa) (hb : SimE X ca W cf b sb) : SimT X ca W cf (.Compare a [op] [b] pos) (tBoo (sOp2 p sa sb)) := by
  intro ρ h σ μ H Q rr rh an
  refine bT_of (pt_cmpR bOp_ok bE_ok bE_ok (marks_of hs)) ?_
  have an : Ans X.K ca (fun _ _ => Eq) (WE W σ) μ H ((sOp2 p sa sb cf ρ h).bind fun x h1 => pBool x h1) Q := an
  have go : Ans X.K ca (RelD X.K) (WE W σ) μ H (sOp2 p sa sb cf ρ h) (fun x H' => ∃ k, x = .bl k ∧ Q k H') := Ans.bind an fun d h1 v μ1 H1 e1 r1 rh1 an1 => bool_of r1 rh1 an1
  refine ha rr rh (Ans.bind go fun d h1 x μ1 H1 e1 r1 rh1 an1 => ?_)
  refine hb (rr.mono e1) rh1 (Ans.bind an1 fun d2 h2 y μ2 H2 e2 r2 rh2 an2 => ?_)
  exact ho rh2 (r1.mono e2) r2 an2
theorem sim_chain {c : Expr} {sc : SE} {op op' : CmpOp} {p p' : D → D → M D} (ho : OpSim X ca (compareOp op) p) (ho' : OpSim X ca (compareOp op') p') (hs : notSet b = true) (hs' : notSet c = true) (ha : SimE X ca W cf a sa) (hb : SimE X ca W cf b sb) (hc : SimE X ca W cf c sc) :
    SimE X ca W cf (.Compare a [op, op'] [b, c] pos) (sCh p p' sa sb sc) := by
  intro ρ h σ μ H Q rr rh an
  refine bE_of (pe_chain bOp_ok bOp_ok bE_ok bE_ok bE_ok (show lastMarks [op, op'] [b, c] = false from marks_of hs')) ?_
  refine ha rr rh (Ans.bind an fun d h1 x μ1 H1 e1 r1 rh1 an1 => ?_)
  refine hb (rr.mono e1) rh1 (Ans.bind an1 fun d2 h2 y μ2 H2 e2 r2 rh2 an2 => ?_)
  refine ho rh2 (r1.mono e2) r2 (Ans.bind an2 fun d3 h3 z μ3 H3 e3 r3 rh3 an3 => ?_)
  cases r3 with
  | bl k =>
    refine ⟨k, rfl, ?_⟩
    cases k with
    | false => exact ans_at an3 (.bl _) rh3
    | true =>
      have an3 : Ans X.K ca (RelD X.K) (WE W σ) μ3 H3 ((sc cf ρ h3).bind fun w h5 => p' d2 w h5) Q := an3
      refine hc (rr.mono ((e1.trans e2).trans e3)) rh3 (Ans.bind an3 fun d4 h4 u μ4 H4 e4 r4 rh4 an4 => ?_)
      exact ho' rh4 ((r2.mono e3).mono e4) r4 an4
  | _ => exact an3.elim
theorem sim_neg (ha : SimE X ca W cf a sa) : SimE X ca W cf (.UnaryOp .USub a pos) (sOp1 pNeg sa) := by
  intro ρ h σ μ H Q rr rh an
  refine bE_of (pe_un bUn_ok bE_ok) ?_
  refine ha rr rh (Ans.bind an fun d h1 x μ1 H1 e1 r1 rh1 an1 => ?_)
  exact us_neg rh1 r1 an1
theorem sim_ix (hs : notSlice b = true) (ha : SimE X ca W cf a sa) (hb : SimE X ca W cf b sb) : SimE X ca W cf (.Subscript a b pos) (sOp2 pIx sa sb) := by
  intro ρ h σ μ H Q rr rh an
  refine bE_of (pe_ix bIx_ok bE_ok bE_ok (plain_of hs)) ?_
  refine ha rr rh (Ans.bind an fun d h1 x μ1 H1 e1 r1 rh1 an1 => ?_)
  refine hb (rr.mono e1) rh1 (Ans.bind an1 fun d2 h2 y μ2 H2 e2 r2 rh2 an2 => ?_)
  exact os_ix rh2 (r1.mono e2) r2 an2
theorem simo_none : SimO X ca W cf none oNone := by
  intro ρ h σ μ H Q rr rh an
  exact bO_of po_none (ans_at an rfl rh)
theorem simo_some (ha : SimE X ca W cf a sa) : SimO X ca W cf (some a) (oSome sa) := by
  intro ρ h σ μ H Q rr rh an
  refine bO_of (po_some bE_ok) ?_
  refine ha rr rh (Ans.bind an fun d h1 x μ1 H1 e1 r1 rh1 an1 => ?_)
  cases r1 with
  | int i => exact ⟨i, rfl, ans_at an1 rfl rh1⟩
  | _ => exact an1.elim
theorem sim_sl {lo hi : Option Expr} {slo shi : SO} {p2 : Pos} (ha : SimE X ca W cf a sa) (hl : SimO X ca W cf lo slo) (hu : SimO X ca W cf hi shi) : SimE X ca W cf (.Subscript a (.Slice lo hi none p2) pos) (sSl sa slo shi) := by
  intro ρ h σ μ H Q rr rh an
  refine bE_of (pe_slice bSl_ok bE_ok bO_ok bO_ok) ?_
  refine ha rr rh (Ans.bind an fun d h1 x μ1 H1 e1 r1 rh1 an1 => ?_)
  refine hl (rr.mono e1) rh1 (Ans.bind an1 fun l h2 l' μ2 H2 e2 r2 rh2 an2 => ?_)
  refine hu (rr.mono (e1.trans e2)) rh2 (Ans.bind an2 fun u h3 u' μ3 H3 e3 r3 rh3 an3 => ?_)
  cases r2; cases r3
  exact os_sl rh3 ((r1.mono e2).mono e3) an3
theorem sim_rev {k : Nat} {p1 p2 p3 : Pos} (ha : SimE X ca W cf a sa) : SimE X ca W cf (.Subscript a (.Slice none none (some (.UnaryOp .USub (.Constant (.int 1) k p1) p2)) p3) pos) (sOp1 pRev sa) := by
  intro ρ h σ μ H Q rr rh an
  refine bE_of (pe_revL bE_ok) ?_
  refine ha rr rh (Ans.bind an fun d h1 x μ1 H1 e1 r1 rh1 an1 => ?_)
  cases r1 with
  | @ref n p hn =>
    have an1 : Ans X.K ca (RelD X.K) (WE W σ) μ1 H1 (match itemsOf (.ref n) h1 with
      | some xs => alloc (.lst xs.reverse) h1
      | none => .bad) Q := an1
    split at an1
    · rename_i xs hx
      obtain ⟨vs, rs, hq⟩ := itemsOf_ref rh1 hn hx
      exact ⟨p, vs, rfl, hq, fun q hq => Ans.lst an1 rh1 rs.reverse q hq⟩
    · exact an1.elim
  | kl hq hs => exact ⟨_, _, rfl, hq.sq, fun q hq => Ans.lst an1 rh1 hs.reverse q hq⟩
  | _ => exact an1.elim
/-! ### constants, names -/
theorem sim_var {i : Nat} {x : Str} (hN : X.N[i]? = some x) (hv : Vis X.env.scope x) (hd : (x == ("__debug__" : Str)) = false) (hcd : (x == ("__classdict__" : Str)) = false) : SimE X ca W cf (.Name x pos) (sVar i) := by
  intro ρ h σ μ H Q rr rh an
  refine bE_of (pe_var hN hv hd hcd) ?_
  unfold sVar at an
  split at an
  · rename_i d hi
    obtain ⟨v, h1, r⟩ := rr.2 i d hi
    exact ⟨v, h1, ans_at an r rh⟩
  · exact an.elim
theorem sim_cst {d : D} {v : V} (p : PE X e (tC v)) (r : ∀ μ H, RelD X.K μ H d v) : SimE X ca W cf e (sCst d) := by
  intro ρ h σ μ H Q rr rh an
  exact bE_of p (ans_at an (r μ H) rh)
/-! ### argument lists, displays -/
theorem sima_nil : SimA X ca W cf [] sNil := by
  intro ρ h σ μ H Q rr rh an
  exact bA_of pa_nil (ans_at an .nil rh)
theorem sima_cons (hn : notStar e = true) (he : SimE X ca W cf e se) (hs : SimA X ca W cf es ses) : SimA X ca W cf (e :: es) (sCons se ses) := by
  intro ρ h σ μ H Q rr rh an
  refine bA_of (pa_cons bE_ok bA_ok (starEach_one hn)) ?_
  refine he rr rh (Ans.bind an fun d h1 x μ1 H1 e1 r1 rh1 an1 => ?_)
  refine hs (rr.mono e1) rh1 (Ans.bind an1 fun ds h2 xs μ2 H2 e2 r2 rh2 an2 => ?_)
  exact ans_at an2 (.cons (r1.mono e2) r2) rh2
theorem sim_tup {k : Nat} (hs : SimA X ca W cf es ses) : SimE X ca W cf (.Tuple es k pos) (sN pTup ses) := by
  intro ρ h σ μ H Q rr rh an
  refine bE_of (pe_tup bA_ok) ?_
  refine hs rr rh (Ans.bind an fun ds h1 xs μ1 H1 e1 r1 rh1 an1 => ?_)
  obtain ⟨hl, an1⟩ := chk_ok an1
  exact ⟨by rw [← r1.length]; exact hl, fun p hp => Ans.tup an1 rh1 r1 p hp⟩
theorem sim_lst (hs : SimA X ca W cf es ses) : SimE X ca W cf (.List es pos) (sN pLst ses) := by
  intro ρ h σ μ H Q rr rh an
  refine bE_of (pe_lst bA_ok) ?_
  refine hs rr rh (Ans.bind an fun ds h1 xs μ1 H1 e1 r1 rh1 an1 => ?_)
  obtain ⟨hl, an1⟩ := chk_ok an1
  exact ⟨by rw [← r1.length]; exact hl, fun p hp => Ans.lst an1 rh1 r1 p hp⟩
/-! ### truths -/
theorem simt_tru (ht : plainTest e = true) (he : SimE X ca W cf e se) : SimT X ca W cf e (tTru se) := by
  intro ρ h σ μ H Q rr rh an
  refine bT_of (pt_truth bE_ok (test_of ht)) ?_
  refine he rr rh (Ans.bind an fun d h1 x μ1 H1 e1 r1 rh1 an1 => ?_)
  exact os_tru rh1 r1 an1
theorem simt_not {t : ST} (ha : SimT X ca W cf a t) : SimT X ca W cf (.UnaryOp .Not a pos) (tNo t) := by
  intro ρ h σ μ H Q rr rh an
  refine bT_of (pt_not bT_ok) ?_
  refine ha rr rh (Ans.bind an fun d h1 x μ1 H1 e1 r1 rh1 an1 => ?_)
  cases r1
  exact ans_at an1 rfl rh1
theorem simw_and1 {t : ST} (ha : SimT X ca W cf a t) : SimW X ca W cf (.BoolOp .And [a] pos) t := by
  intro ρ h σ μ H Q rr rh an
  exact bW_of (pw_and1 bT_ok) (ha rr rh an)
theorem simw_or1 {t : ST} (ha : SimT X ca W cf a t) : SimW X ca W cf (.BoolOp .Or [a] pos) t := by
  intro ρ h σ μ H Q rr rh an
  exact bW_of (pw_or1 bT_ok) (ha rr rh an)
theorem simw_and {t u : ST} {r : List Expr} (ha : SimT X ca W cf a t) (hb : SimW X ca W cf (.BoolOp .And (b :: r) pos) u) : SimW X ca W cf (.BoolOp .And (a :: b :: r) pos) (tAn t u) := by
  intro ρ h σ μ H Q rr rh an
  refine bW_of (pw_and bT_ok bW_ok) ?_
  refine ha rr rh (Ans.bind an fun d h1 x μ1 H1 e1 r1 rh1 an1 => ?_)
  cases r1
  cases d with
  | true => exact iteT (hb (rr.mono e1) rh1 an1)
  | false => exact iteF (ans_at an1 rfl rh1)
theorem simw_or {t u : ST} {r : List Expr} (ha : SimT X ca W cf a t) (hb : SimW X ca W cf (.BoolOp .Or (b :: r) pos) u) : SimW X ca W cf (.BoolOp .Or (a :: b :: r) pos) (tO t u) := by
  intro ρ h σ μ H Q rr rh an
  refine bW_of (pw_or bT_ok bW_ok) ?_
  refine ha rr rh (Ans.bind an fun d h1 x μ1 H1 e1 r1 rh1 an1 => ?_)
  cases r1
  cases d with
  | true => exact iteT (ans_at an1 rfl rh1)
  | false => exact iteF (hb (rr.mono e1) rh1 an1)
theorem simt_w {t : ST} (hw : SimW X ca W cf e t) : SimT X ca W cf e t := by
  intro ρ h σ μ H Q rr rh an
  exact bT_of bW_ok.pt (hw rr rh an)
theorem sim_one {op : PySem.BoolOp} (ha : SimE X ca W cf a sa) : SimE X ca W cf (.BoolOp op [a] pos) sa := by
  intro ρ h σ μ H Q rr rh an
  exact bE_of (pe_one bE_ok) (ha rr rh an)
theorem sim_and {r : List Expr} (ha : SimE X ca W cf a sa) (hb : SimE X ca W cf (.BoolOp .And (b :: r) pos) sb) : SimE X ca W cf (.BoolOp .And (a :: b :: r) pos) (sAnd sa sb) := by
  intro ρ h σ μ H Q rr rh an
  refine bE_of (pe_and bE_ok bE_ok) ?_
  refine ha rr rh (Ans.bind an fun d h1 x μ1 H1 e1 r1 rh1 an1 => ?_)
  cases r1 with
  | bl k =>
    refine ⟨k, rfl, ?_⟩
    cases k with
    | true => exact iteT (hb (rr.mono e1) rh1 an1)
    | false => exact iteF (ans_at an1 (.bl _) rh1)
  | _ => exact an1.elim
theorem sim_or {r : List Expr} (ha : SimE X ca W cf a sa) (hb : SimE X ca W cf (.BoolOp .Or (b :: r) pos) sb) : SimE X ca W cf (.BoolOp .Or (a :: b :: r) pos) (sOr sa sb) := by
  intro ρ h σ μ H Q rr rh an
  refine bE_of (pe_or bE_ok bE_ok) ?_
  refine ha rr rh (Ans.bind an fun d h1 x μ1 H1 e1 r1 rh1 an1 => ?_)
  cases r1 with
  | bl k =>
    refine ⟨k, rfl, ?_⟩
    cases k with
    | true => exact iteT (ans_at an1 (.bl _) rh1)
    | false => exact iteF (hb (rr.mono e1) rh1 an1)
  | _ => exact an1.elim
theorem sim_not (ha : SimE X ca W cf a sa) : SimE X ca W cf (.UnaryOp .Not a pos) (sNot sa) := by
  intro ρ h σ μ H Q rr rh an
  refine bE_of (pe_not bE_ok) ?_
  refine ha rr rh (Ans.bind an fun d h1 x μ1 H1 e1 r1 rh1 an1 => ?_)
  cases r1 with
  | bl k => exact ⟨k, rfl, ans_at an1 (.bl _) rh1⟩
  | _ => exact an1.elim
theorem sim_ite {c : Expr} {t : ST} (hc : SimT X ca W cf c t) (ha : SimE X ca W cf a sa) (hb : SimE X ca W cf b sb) : SimE X ca W cf (.IfExp c a b pos) (sIte t sa sb) := by
  intro ρ h σ μ H Q rr rh an
  refine bE_of (pe_ifExp bT_ok bE_ok bE_ok) ?_
  refine hc rr rh (Ans.bind an fun d h1 x μ1 H1 e1 r1 rh1 an1 => ?_)
  cases r1
  cases d with
  | true => exact iteT (ha (rr.mono e1) rh1 an1)
  | false => exact iteF (hb (rr.mono e1) rh1 an1)
/-! ### calls of what is built in -/
theorem sim_bi {f : Bi} {x : Str} {p : Pos} (hc : X.calm = true) (hg : Gl X x) (hm : X.mg x = none) (hv : bootBuiltins x = some (biV f)) (hn : x ≠ "__name__") (hdb : (x == ("__debug__" : Str)) = false) (hst : (e :: es).all notStar = true) (hs : SimA X ca W cf (e :: es) ses) :
    SimE X ca W cf (.Call (.Name x p) (e :: es) [] pos) (sN (pBi f) ses) := by
  intro ρ h σ μ H Q rr rh an
  have h1 := hst
  rw [List.all_cons, Bool.and_eq_true] at h1
  have go : bA X (e :: es) σ H fun vs H1 => bCall X (biV f) vs H1 Q := hs rr rh (Ans.bind an fun ds h1 xs μ1 H1 e1 r1 rh1 an1 => os_bi hc rh1 r1 an1)
  cases f with
  | len => exact bE_of (pe_callB (id := "len") bCall_ok hg hm hv bA_ok hn hdb (starEach_one h1.1) (back_plain h1.2)) go
  | int => exact bE_of (pe_callTy (T := "int") bCall_ok hg hm hv bA_ok hn hdb (starEach_one h1.1) (back_plain h1.2)) go
  | tuple => exact bE_of (pe_callTy (T := "tuple") bCall_ok hg hm hv bA_ok hn hdb (starEach_one h1.1) (back_plain h1.2)) go
  | list => exact bE_of (pe_callTy (T := "list") bCall_ok hg hm hv bA_ok hn hdb (starEach_one h1.1) (back_plain h1.2)) go
  | abs => exact bE_of (pe_callB (id := "abs") bCall_ok hg hm hv bA_ok hn hdb (starEach_one h1.1) (back_plain h1.2)) go
  | max2 => exact bE_of (pe_callB (id := "max") bCall_ok hg hm hv bA_ok hn hdb (starEach_one h1.1) (back_plain h1.2)) go
  | min2 => exact bE_of (pe_callB (id := "min") bCall_ok hg hm hv bA_ok hn hdb (starEach_one h1.1) (back_plain h1.2)) go
theorem sim_isi {t : Ty} {x y : Str} {p p' : Pos} (hx : x = "isinstance") (hg : Gl X x) (hm : X.mg x = none) (hv : bootBuiltins x = some (.builtin "isinstance")) (hg' : Gl X y) (hm' : X.mg y = none) (hv' : bootBuiltins y = some (.type (tyS t))) (hn' : y ≠ "__name__") (hdb' : (y == ("__debug__" : Str)) = false)
    (hst : notStar a = true) (ha : SimE X ca W cf a sa) : SimE X ca W cf (.Call (.Name x p) [a, .Name y p'] [] pos) (sOp1 (pIsi t) sa) := by
  intro ρ h σ μ H Q rr rh an
  subst hx
  have hpy : PE X (.Name y p') (tC (.ty (tyS t))) := pe_bltn hg' hm' hv' rfl hn' hdb'
  refine bE_of (pe_callB (id := "isinstance") bCall_ok hg hm hv (pa_cons bE_ok (pa_cons hpy pa_nil) (starEach_one hst)) (by decide) (by decide) (starEach_one hst) rfl) ?_
  refine ha rr rh (Ans.bind an fun d h1 x μ1 H1 e1 r1 rh1 an1 => ?_)
  exact os_isi rh1 r1 an1
/-! ### methods of what is built in -/
theorem bm_attrs (f : Bm) : PlainAttrs (tyS (bmTy f)) := by cases f <;> first | exact PySem.F.plainAttrs_str | exact PySem.F.plainAttrs_list
theorem bm_slot (f : Bm) : Slot (tyS (bmTy f)) (bmName f) (bmId f) := by cases f <;> first | exact PySem.F.slot_str_join | exact PySem.F.slot_str_upper | exact PySem.F.slot_list_append
theorem bm_type (f : Bm) : typeOf (.builtin (bmId f)) = pure (.type "method_descriptor") := by cases f <;> first | exact PySem.F.type_str_join | exact PySem.F.type_str_upper | exact PySem.F.type_list_append
theorem sim_bm {f : Bm} {apos cpos : Pos} (hb : notSuper o = true) (hl : (apos.endLine == cpos.line) = true) (hst : (e :: es).all notStar = true) (hlen : (e :: es).length < 30) (ho : SimE X ca W cf o so) (hs : SimA X ca W cf (e :: es) ses) :
    SimE X ca W cf (.Call (.Attribute o (bmName f) apos) (e :: es) [] cpos) (sBm f so ses) := by
  intro ρ h σ μ H Q rr rh an
  have h1 := hst
  rw [List.all_cons, Bool.and_eq_true] at h1
  refine bE_of (pe_bm (bm_attrs f) (bm_slot f) (bm_type f) bMt_ok bE_ok bA_ok (base_of hb) ?_ hl (starEach_one h1.1) (back_plain h1.2)) ?_
  · rw [back_all hst]
    have e1 : decide ((e :: es).length + ([] : List Keyword).length + (if ([] : List Keyword).isEmpty then 0 else 1) < 30) = true := decide_eq_true (by simpa using hlen)
    rw [e1]
    rfl
  · refine ho rr rh (Ans.bind an fun d h1 x μ1 H1 e1 r1 rh1 an1 => ?_)
    split at an1
    · rename_i hty
      refine ⟨tyV_of rh1 r1 (bmTy_or f) hty, ?_⟩
      refine hs (rr.mono e1) rh1 (Ans.bind an1 fun ds h2 xs μ2 H2 e2 r2 rh2 an2 => ?_)
      exact os_bm rh2 (r1.mono e2) r2 an2
    · exact an1.elim
theorem sim_bm0 {f : Bm} {apos cpos : Pos} (hb : notSuper o = true) (hl : (apos.endLine == cpos.line) = true) (ho : SimE X ca W cf o so) :
    SimE X ca W cf (.Call (.Attribute o (bmName f) apos) [] [] cpos) (sBm f so sNil) := by
  intro ρ h σ μ H Q rr rh an
  refine bE_of (pe_bm0 (bm_attrs f) (bm_slot f) (bm_type f) bMt_ok bE_ok (base_of hb) hl) ?_
  refine ho rr rh (Ans.bind an fun d h1 x μ1 H1 e1 r1 rh1 an1 => ?_)
  split at an1
  · rename_i hty
    exact ⟨tyV_of rh1 r1 (bmTy_or f) hty, os_bm rh1 r1 .nil an1⟩
  · exact an1.elim
end
end Pm

set_option maxRecDepth 100000
set_option maxHeartbeats 1000000
noncomputable section
namespace Pm
open PySem PySem.Spec PyProof.Rows L2

/-! ## 12. Calls of the text's own defs -/
def spA (K : PySem.W.Frag) (ca : Nat → Addr) (g : List D → M D) : Sp := fun vs H Q E => ∃ (μ : List Addr) (ds : List D) (h : AH), RelDs K μ H ds vs ∧ RelH K ca μ H h ∧ Ans K ca (RelD K) E μ H (g ds h) Q
section
variable {X : Cx} {ca : Nat → Addr} {W : WX} {cf : CallT} {e : Expr} {es : List Expr} {ses sks : SA} {pos p : Pos} {x : Str} {k i n : Nat} {f : Addr} {fd : FuncData} {ps ks : List Str} {kws : List Keyword}
theorem sim_call (F : FnOk X.prog X.w X.K X.mg X.base (L2.CX X.prog X.w) k f fd ps (spA X.K ca (cf i))) (hr : Room k X.A) (hg : Gl X x) (hm : X.mg x = some (.ref f)) (hk : PySem.W.keepIn X.K (.ref f) = true) (hb : Binds X.K fd ps []) (tk : Takes X W)
    (hst : (e :: es).all notStar = true) (hdb : (x == ("__debug__" : Str)) = false) (hs : SimA X ca W cf (e :: es) ses) : SimE X ca W cf (.Call (.Name x p) (e :: es) [] pos) (sCall i ses) := by
  intro ρ h σ μ H Q rr rh an
  have h1 := hst
  rw [List.all_cons, Bool.and_eq_true] at h1
  refine bE_of (pe_callSD (E := WE W) (dvs := []) (ds := []) F hr hg hm hk hb .nil (passAt tk) bA_ok hdb (starEach_one h1.1) (back_plain h1.2)) ?_
  refine hs rr rh (Ans.bind an fun ds h1 xs μ1 H1 e1 r1 rh1 an1 => ?_)
  rw [List.append_nil]
  exact ⟨μ1, ds, h1, r1, rh1, an1⟩
theorem sim_call0 (F : FnOk X.prog X.w X.K X.mg X.base (L2.CX X.prog X.w) k f fd ps (spA X.K ca (cf i))) (hr : Room k X.A) (hg : Gl X x) (hm : X.mg x = some (.ref f)) (hk : PySem.W.keepIn X.K (.ref f) = true) (hb : Binds X.K fd ps []) (tk : Takes X W)
    (hdb : (x == ("__debug__" : Str)) = false) : SimE X ca W cf (.Call (.Name x p) [] [] pos) (sCall i sNil) := by
  intro ρ h σ μ H Q rr rh an pins s I
  refine wpAny_Call_Name_kw (ld_glob I hg hm ?_ hdb)
  exact PySem.W.callWith_K0 I.kIn hk (run_fnSD (us := []) (vs := []) (E := WE W) F hr hb .nil (passAt tk σ) I .nil ⟨μ, [], h, .nil, rh, an⟩)
/-! ### keywords -/
def pick {α : Type} (perm : List Nat) (xs : List α) : List α := perm.filterMap fun j => xs[j]?
theorem pick_vals {vs : List V} {us : List Value} (r : Vals vs us) : ∀ perm : List Nat, Vals (pick perm vs) (pick perm us)
  | [] => .nil
  | j :: perm => by
    unfold pick
    rw [List.filterMap_cons, List.filterMap_cons]
    cases q : vs[j]? with
    | none => rw [r.none_of q]; exact pick_vals r perm
    | some v =>
      obtain ⟨u, e, rv⟩ := r.get q
      rw [e]
      exact .cons rv (pick_vals r perm)
theorem pick_rel {K : PySem.W.Frag} {μ : List Addr} {H : Hp} {ds : List D} {vs : List V} (r : RelDs K μ H ds vs) : ∀ perm : List Nat, RelDs K μ H (pick perm ds) (pick perm vs)
  | [] => .nil
  | j :: perm => by
    unfold pick
    rw [List.filterMap_cons, List.filterMap_cons]
    cases q : ds[j]? with
    | none =>
      have : vs[j]? = none := by rw [List.getElem?_eq_none_iff, ← r.length]; exact List.getElem?_eq_none_iff.mp q
      rw [this]; exact pick_rel r perm
    | some d =>
      obtain ⟨v, e, rv⟩ := r.get q
      rw [e]
      exact .cons rv (pick_rel r perm)
/-- how a call of n values and the keywords ks binds -/
def KwOk (K : PySem.W.Frag) (fd : FuncData) (ps : List Str) (n : Nat) (ks : List Str) (perm : List Nat) : Prop :=
  ∀ (s : Shared) (us ws : List Value), K.In s.heap → us.length = n → ws.length = ks.length → BindsTo s fd ⟨us, ks.zip ws⟩ (ps.zip (pick perm (us ++ ws)))
theorem run_fnSK {CX : CXT} {sp : Sp} {E : L2.St → XK} {perm : List Nat} {pins : List (Addr × Obj)} {σ : L2.St} {H : Hp} {s : Shared} {Q : VK} {us ws : List Value} {vs zs : List V} (F : FnOk X.prog X.w X.K X.mg X.base CX k f fd ps sp) (hr : Room k X.A) (hb : KwOk X.K fd ps n ks perm) (hx : PassesAt CX X σ (E σ))
    (I : Inv X pins σ H s) (r : Vals vs us) (rz : Vals zs ws) (hn : us.length = n) (hz : ws.length = ks.length) (h : sp (pick perm (vs ++ zs)) H Q (E σ)) : wpAny (model X.prog X.w) X.A (call (.ref f) us (ks.zip ws)) (EP X pins σ Q) X.xe s := by
  have r2 := pick_vals (r.append rz) perm
  refine wpAny_call (codeAny_mono (F.run X.A X.stack s H ⟨us, ks.zip ws⟩ _ _ Q (E σ) hr I.env0 (hb s us ws I.kIn hn hz) r2 h) fun r s' hq => ?_)
  cases r with
  | error e => exact hx pins H s e s' I hq
  | ok fl =>
    cases fl with
    | ret u => exact I.after hq
    | next => exact False.elim hq
    | brk => exact False.elim hq
    | cont => exact False.elim hq
def kwName : Keyword → Option Str
  | ⟨n, _, _⟩ => n
def kwVal : Keyword → Expr
  | ⟨_, v, _⟩ => v
theorem kw_each {env : PySem.Env} : ∀ {kws : List Keyword}, kws.map kwName = ks.map some → (backToKw pos (keywordEach kws env)).all (·.1.isSome) = true ∧ (backToKw pos (keywordEach kws env)).filterMap (·.1) = ks ∧ (backToKw pos (keywordEach kws env)).any (·.1.isNone) = false := by
  induction ks with
  | nil =>
    intro kws h
    cases kws with
    | nil => exact ⟨rfl, rfl, rfl⟩
    | cons a r => cases h
  | cons q ks ih =>
    intro kws h
    cases kws with
    | nil => cases h
    | cons a r =>
      obtain ⟨nm, v, kp⟩ := a
      simp only [List.map_cons, List.cons.injEq] at h
      obtain ⟨h1, h2⟩ := h
      have h1 : nm = some q := h1
      subst h1
      obtain ⟨i1, i2, i3⟩ := ih h2
      refine ⟨?_, ?_, ?_⟩
      · show (true && (backToKw pos (keywordEach r env)).all (·.1.isSome)) = true
        rw [i1]; rfl
      · show q :: (backToKw pos (keywordEach r env)).filterMap (·.1) = q :: ks
        rw [i2]
      · show (false || (backToKw pos (keywordEach r env)).any (·.1.isNone)) = false
        rw [i3]; rfl
def bK (X : Cx) (kws : List Keyword) : TA := fun σ H Q => ∀ (pos : Pos) (pins : List (Addr × Obj)) (s : Shared), Inv X pins σ H s → wpAny (model X.prog X.w) X.A (evalAll ((backToKw pos (keywordEach kws X.env)).map (·.2))) (AP X pins σ Q) X.xe s
theorem bK_ok : PK X kws (bK X kws) := ⟨fun pos pins s _ _ _ I h => h pos pins s I⟩
theorem bK_of {t : TA} {σ : L2.St} {H : Hp} {Q : List V → Hp → Prop} (pk : PK X kws t) (h : t σ H Q) : bK X kws σ H Q := fun pos pins s I => pk.run pos pins s σ H Q I h
def SimK (X : Cx) (ca : Nat → Addr) (W : WX) (cf : CallT) (kws : List Keyword) (t : SA) : Prop := ∀ ⦃ρ : Env'⦄ ⦃h : AH⦄ ⦃σ : L2.St⦄ ⦃μ : List Addr⦄ ⦃H : Hp⦄ ⦃Q : List V → Hp → Prop⦄, RelR X.K μ H ρ σ → RelH X.K ca μ H h → Ans X.K ca (RelDs X.K) (WE W σ) μ H (t cf ρ h) Q → bK X kws σ H Q
theorem simk_nil : SimK X ca W cf [] sNil := by
  intro ρ h σ μ H Q rr rh an
  exact bK_of pk_nil (ans_at an .nil rh)
theorem simk_cons {nm : Option Str} {kp : Pos} {se : SE} (he : SimE X ca W cf e se) (hs : SimK X ca W cf kws ses) : SimK X ca W cf (⟨nm, e, kp⟩ :: kws) (sCons se ses) := by
  intro ρ h σ μ H Q rr rh an
  refine bK_of (pk_cons bE_ok bK_ok) ?_
  refine he rr rh (Ans.bind an fun d h1 x μ1 H1 e1 r1 rh1 an1 => ?_)
  refine hs (rr.mono e1) rh1 (Ans.bind an1 fun ds h2 xs μ2 H2 e2 r2 rh2 an2 => ?_)
  exact ans_at an2 (.cons (r1.mono e2) r2) rh2
/-- how many values an argument list gives -/
def LenA (cf : CallT) (t : SA) (n : Nat) : Prop := ∀ (ρ : Env') (h : AH) (ds : List D) (h' : AH), t cf ρ h = .ok ds h' → ds.length = n
theorem lenA_nil : LenA cf sNil 0 := fun ρ h ds h' e => by cases e; rfl
theorem lenA_cons {se : SE} (hs : LenA cf ses n) : LenA cf (sCons se ses) (n + 1) := fun ρ h ds h' e => by
  unfold sCons at e
  cases q : se cf ρ h with
  | ok x h1 =>
    rw [q] at e
    simp only [Rs.bind_ok] at e
    cases q2 : ses cf ρ h1 with
    | ok xs h2 =>
      rw [q2] at e
      simp only [Rs.bind_ok] at e
      cases e
      rw [List.length_cons, hs _ _ _ _ q2]
    | exc c fs h2 => rw [q2] at e; cases e
    | bad => rw [q2] at e; cases e
  | exc c fs h1 => rw [q] at e; cases e
  | bad => rw [q] at e; cases e
def sCallK (i : Nat) (perm : List Nat) (es ks : SA) : SE := fun c ρ h => (es c ρ h).bind fun xs h1 => (ks c ρ h1).bind fun zs h2 => c i (pick perm (xs ++ zs)) h2
theorem sim_callK {perm : List Nat} (F : FnOk X.prog X.w X.K X.mg X.base (L2.CX X.prog X.w) k f fd ps (spA X.K ca (cf i))) (hr : Room k X.A) (hg : Gl X x) (hm : X.mg x = some (.ref f)) (hk : PySem.W.keepIn X.K (.ref f) = true) (hb : KwOk X.K fd ps es.length ks perm) (tk : Takes X W)
    (hst : es.all notStar = true) (hdb : (x == ("__debug__" : Str)) = false) (hkn : kws.map kwName = ks.map some) (h0 : es = [] → ses = sNil) (hs : SimA X ca W cf es ses) (hl : LenA cf ses es.length) (hks : SimK X ca W cf kws sks) (hlk : LenA cf sks ks.length) :
    SimE X ca W cf (.Call (.Name x p) es kws pos) (sCallK i perm ses sks) := by
  intro ρ h σ μ H Q rr rh an pins s I
  obtain ⟨k1, k2, k3⟩ := kw_each (pos := pos) (env := X.env) hkn
  refine wpAny_Call_Name_kw (ld_glob I hg hm ?_ hdb)
  have an : Ans X.K ca (RelD X.K) (WE W σ) μ H ((ses cf ρ h).bind fun xs h1 => (sks cf ρ h1).bind fun zs h2 => cf i (pick perm (xs ++ zs)) h2) Q := an
  -- behind the positional arguments
  have fin : ∀ {us : List Value} {s1 : Shared} {vs : List V} {H1 : Hp} {ds : List D} {h1 : AH} {μ1 : List Addr}, Inv X pins σ H1 s1 → Vals vs us → ds.length = es.length → Ext μ H μ1 H1 → RelDs X.K μ1 H1 ds vs → RelH X.K ca μ1 H1 h1 →
      Ans X.K ca (RelD X.K) (WE W σ) μ1 H1 ((sks cf ρ h1).bind fun zs h2 => cf i (pick perm (ds ++ zs)) h2) Q → wpAny (model X.prog X.w) X.A (evalAll ((backToKw pos (keywordEach kws X.env)).map (·.2)))
        (fun ws s₂ => X.K.In s₂.heap ∧ wpAny (model X.prog X.w) X.A (call (.ref f) us (((backToKw pos (keywordEach kws X.env)).filterMap (·.1)).zip ws)) (EP X pins σ Q) X.xe s₂) X.xe s1 := fun {us s1 vs H1 ds h1 μ1} I1 r hd e1 r1 rh1 an1 => by
    have go := hks (Q := fun zs H2 => zs.length = ks.length ∧ spA X.K ca (cf i) (pick perm (vs ++ zs)) H2 Q (WE W σ)) (rr.mono e1) rh1 (Ans.bindE an1 fun zs h2' zv μ2 H2 q2 e2 r2 rh2 an2 => ⟨?_, μ2, pick perm (ds ++ zs), h2', pick_rel ((r1.mono e2).append r2) perm, rh2, an2⟩)
    · refine thn (go pos pins s1 I1) fun ws s2 ⟨zv, H2, I2, rz, hzl, q⟩ => ⟨I2.kIn, ?_⟩
      rw [k2]
      refine run_fnSK (E := WE W) F hr hb (passAt tk σ) I2 r rz ?_ ?_ q
      · rw [← r.length, ← r1.length, hd]
      · rw [← rz.length, hzl]
    · rw [← r2.length]
      exact hlk ρ _ zs _ q2
  have h1 := hst
  cases es with
  | nil =>
    subst_vars
    obtain rfl : ses = sNil := h0 rfl
    refine PySem.W.callWith_KW0 (first := []) (h₀ := X.base) I.ok.mod.kin hk k1 ?_ (by rw [k3]; rfl)
    exact fin (vs := []) (ds := []) I .nil rfl (Ext.refl μ H) .nil rh an
  | cons e es =>
    rw [List.all_cons, Bool.and_eq_true] at h1
    refine PySem.W.callWith_KW (first := []) (h₀ := X.base) I.ok.mod.kin hk k1 ?_ (by rw [back_plain hst, k3]; rfl) (starEach_one h1.1)
    have go := hs (Q := fun vs H1 => ∃ ds h1 μ1, ds.length = (e :: es).length ∧ Ext μ H μ1 H1 ∧ RelDs X.K μ1 H1 ds vs ∧ RelH X.K ca μ1 H1 h1 ∧ Ans X.K ca (RelD X.K) (WE W σ) μ1 H1 ((sks cf ρ h1).bind fun zs h2 => cf i (pick perm (ds ++ zs)) h2) Q) rr rh
      (Ans.bindE an fun ds h1 vs μ1 H1 q1 e1 r1 rh1 an1 => ⟨ds, h1, μ1, hl ρ _ ds _ q1, e1, r1, rh1, an1⟩)
    refine thn (go pos pins s I) fun us s1 ⟨vs, H1, I1, r, ds, h1, μ1, hd, e1, r1, rh1, an1⟩ => fin I1 r hd e1 r1 rh1 an1
end
end Pm

set_option maxRecDepth 100000
set_option maxHeartbeats 1000000
noncomputable section
namespace Pm
open PySem PySem.Spec PyProof.Rows L2

/-! ## 13. What is walked -/
def SrcOk (K : PySem.W.Frag) (ca : Nat → Addr) (μ : List Addr) (H : Hp) (src : Src) (J : It) : Prop := ∃ (G : Hp → Prop) (Y : Nat → Hp → V → Hp → Prop), Walk J src.xs.length G Y ∧
  (∀ μ1 H1 h1, Ext μ H μ1 H1 → RelH K ca μ1 H1 h1 → stands src.of src.xs h1 = true → G H1) ∧
  ∀ i μ1 H1 h1 x H2, Ext μ H μ1 H1 → RelH K ca μ1 H1 h1 → stands src.of src.xs h1 = true → i < src.xs.length → Y i H1 x H2 → ∃ d, src.xs[i]? = some d ∧ RelD K μ1 H2 d x ∧ Ext μ1 H1 μ1 H2 ∧ RelH K ca μ1 H2 h1
theorem SrcOk.mono {K : PySem.W.Frag} {ca : Nat → Addr} {μ μ1 : List Addr} {H H1 : Hp} {src : Src} {J : It} (s : SrcOk K ca μ H src J) (e : Ext μ H μ1 H1) : SrcOk K ca μ1 H1 src J := by
  obtain ⟨G, Y, w, g, y⟩ := s
  exact ⟨G, Y, w, fun μ2 H2 h2 e2 => g μ2 H2 h2 (e.trans e2), fun i μ2 H2 h2 x H3 e2 => y i μ2 H2 h2 x H3 (e.trans e2)⟩
section
variable {X : Cx} {ca : Nat → Addr} {W : WX} {cf : CallT} {μ : List Addr} {H : Hp} {a b e : Expr} {es : List Expr} {sa sb : SE} {ses : SA} {pos p : Pos} {tg it : Expr}
def SimI (X : Cx) (ca : Nat → Addr) (W : WX) (cf : CallT) (tg it : Expr) (t : SI) : Prop := ∀ ⦃ρ : Env'⦄ ⦃h : AH⦄ ⦃σ : L2.St⦄ ⦃μ : List Addr⦄ ⦃H : Hp⦄ ⦃R : It → Hp → Prop⦄, RelR X.K μ H ρ σ → RelH X.K ca μ H h → Ans X.K ca (SrcOk X.K ca) (WE W σ) μ H (t cf ρ h) R → bI X tg it σ H R
theorem walkL {K : PySem.W.Frag} {a : Addr} {n : Nat} : Walk (Itl K a) n (fun H => ∃ vs, SqL K H a vs ∧ vs.length = n) (fun i H x H' => H' = H ∧ ∀ vs, SqL K H a vs → vs[i]? = some x) :=
  ⟨fun i _ hi ⟨vs, q, hl⟩ => ⟨vs, vs[i]'(by omega), q, by simp [hl, hi]⟩, fun _ ⟨vs, q, hl⟩ => ⟨vs, q, by omega⟩, fun _ _ _ _ _ _ y => y⟩
theorem src_list {n : Nat} {a : Addr} {xs : List D} (hn : μ[n]? = some a) : SrcOk X.K ca μ H ⟨some n, xs⟩ (Itl X.K a) := by
  have rd : ∀ {μ1 H1 h1}, Ext μ H μ1 H1 → RelH X.K ca μ1 H1 h1 → stands (some n) xs h1 = true → ∃ vs, RelDs X.K μ1 H1 xs vs ∧ SqL X.K H1 a vs := fun {μ1 H1 h1} e rh st => by
    unfold stands at st
    exact itemsOf_ref rh (e.pre n a hn) (of_decide_eq_true st)
  refine ⟨_, _, walkL, fun μ1 H1 h1 e rh st => ?_, fun i μ1 H1 h1 x H2 e rh st hi y => ?_⟩
  · obtain ⟨vs, rs, hq⟩ := rd e rh st
    exact ⟨vs, hq, rs.length.symm⟩
  · obtain ⟨rfl, y⟩ := y
    obtain ⟨vs, rs, hq⟩ := rd e rh st
    obtain ⟨d, h1, h2⟩ := rs.getV (y vs hq)
    exact ⟨d, h1, h2, Ext.refl _ _, rh⟩
theorem src_tup {a : Addr} {xs : List D} {vs : List V} (hq : SqT X.K H a vs) (rs : RelDs X.K μ H xs vs) : SrcOk X.K ca μ H ⟨none, xs⟩ (Itt X.K a) := by
  refine ⟨_, _, rs.length ▸ walk_tup (K := X.K) (a := a) (xs := vs), fun μ1 H1 h1 e rh st => e.sqT hq, fun i μ1 H1 h1 x H2 e rh st hi y => ?_⟩
  obtain ⟨rfl, y⟩ := y
  obtain ⟨d, h1, h2⟩ := (rs.mono e).getV y
  exact ⟨d, h1, h2, Ext.refl _ _, rh⟩
theorem src_kl {a : Addr} {xs : List D} {vs : List V} (hq : SqK X.K H a vs) (rs : RelDs X.K μ H xs vs) : SrcOk X.K ca μ H ⟨none, xs⟩ (Itl X.K a) := by
  refine ⟨_, _, rs.length ▸ walk_list (K := X.K) (a := a) (xs := vs), fun μ1 H1 h1 e rh st => (e.sqK hq).sq, fun i μ1 H1 h1 x H2 e rh st hi y => ?_⟩
  obtain ⟨rfl, y⟩ := y
  obtain ⟨d, h1, h2⟩ := (rs.mono e).getV y
  exact ⟨d, h1, h2, Ext.refl _ _, rh⟩
theorem src_str {s : List Char} : SrcOk X.K ca μ H ⟨none, s.map fun c => .str [c]⟩ (Its (toS s)) := by
  have hl : (toS s).cps.size = (s.map fun c => D.str [c]).length := by simp [toS]
  refine ⟨_, _, hl ▸ walk_str (z := toS s), fun _ _ _ _ _ _ => trivial, fun i μ1 H1 h1 x H2 e rh st hi y => ?_⟩
  obtain ⟨rfl, c, hc, rfl⟩ := y
  have hc' : (s.map Char.toNat)[i]? = some c := by rw [← toS_list]; simpa using hc
  rw [List.getElem?_map] at hc'
  cases q : s[i]? with
  | none => rw [q] at hc'; cases hc'
  | some ch =>
    rw [q] at hc'
    cases hc'
    exact ⟨.str [ch], by rw [List.getElem?_map, q]; rfl, .str [ch], Ext.refl _ _, rh⟩
theorem src_rng {i j : Int} : SrcOk X.K ca μ H ⟨none, rngL i j⟩ (Itr i (j - i).toNat) := by
  have hl : (j - i).toNat = (rngL i j).length := by simp [rngL]
  refine ⟨_, _, (show Walk (Itr i (j - i).toNat) (rngL i j).length (fun _ => True) (YFn fun k => .int (i + k)) by rw [← hl]; exact walk_range), fun _ _ _ _ _ _ => trivial, fun k μ1 H1 h1 x H2 e rh st hi y => ?_⟩
  obtain ⟨rfl, rfl⟩ := y
  have hk : k < (j - i).toNat := by rw [hl]; exact hi
  refine ⟨.int (i + (k : Nat)), ?_, .int _, Ext.refl _ _, rh⟩
  unfold rngL
  rw [List.getElem?_map, List.getElem?_range hk]
  rfl
theorem simi_val (ha : SimE X ca W cf a sa) : SimI X ca W cf tg a (iVal sa) := by
  intro ρ h σ μ H R rr rh an
  have an : Ans X.K ca (SrcOk X.K ca) (WE W σ) μ H ((sa cf ρ h).bind fun x h1 => srcOf x h1) R := an
  cases q : sa cf ρ h with
  | bad => rw [q] at an; exact an.elim
  | exc c fs h1 =>
    refine bI_of (pi_list bE_ok) (ha rr rh ?_)
    rw [q] at an ⊢
    exact an
  | ok d h1 =>
    cases d with
    | str s =>
      refine bI_of (pi_str bE_ok) (ha rr rh (Ans.bindE an fun d h1' x μ1 H1 q1 e1 r1 rh1 an1 => ?_))
      rw [q] at q1
      cases q1
      cases r1
      exact ⟨_, rfl, ans_at an1 src_str rh1⟩
    | tup xs =>
      refine bI_of (pi_tup bE_ok) (ha rr rh (Ans.bindE an fun d h1' x μ1 H1 q1 e1 r1 rh1 an1 => ?_))
      rw [q] at q1
      cases q1
      cases r1 with
      | tup hq hs => exact ⟨_, rfl, ⟨_, hq⟩, ans_at an1 (src_tup hq hs) rh1⟩
    | ref n =>
      refine bI_of (pi_list bE_ok) (ha rr rh (Ans.bindE an fun d h1' x μ1 H1 q1 e1 r1 rh1 an1 => ?_))
      rw [q] at q1
      cases q1
      cases r1 with
      | ref hn =>
        have an1 : Ans X.K ca (SrcOk X.K ca) (WE W σ) μ1 H1 (match itemsOf (.ref n) h1 with
          | some xs => .ok ⟨some n, xs⟩ h1
          | none => .bad) R := an1
        split at an1
        · rename_i xs hx
          obtain ⟨vs, rs, hq⟩ := itemsOf_ref rh1 hn hx
          exact ⟨_, rfl, ⟨_, hq⟩, ans_at an1 (src_list hn) rh1⟩
        · exact an1.elim
    | kl xs =>
      refine bI_of (pi_list bE_ok) (ha rr rh (Ans.bindE an fun d h1' x μ1 H1 q1 e1 r1 rh1 an1 => ?_))
      rw [q] at q1
      cases q1
      cases r1 with
      | kl hq hs => exact ⟨_, rfl, ⟨_, hq.sq⟩, ans_at an1 (src_kl hq hs) rh1⟩
    | non => rw [q] at an; exact an.elim
    | bl b => rw [q] at an; exact an.elim
    | int b => rw [q] at an; exact an.elim
theorem simi_rng1 {x : Str} (hx : x = "range") (hg : Gl X x) (hm : X.mg x = none) (hn : notStar a = true) (hs : SimA X ca W cf [a] ses) (hl : LenA cf ses 1) : SimI X ca W cf tg (.Call (.Name x p) [a] [] pos) (iRng ses) := by
  intro ρ h σ μ H R rr rh an
  subst hx
  refine bI_of (pi_range1 hg hm bA_ok (starEach_one hn)) ?_
  refine hs rr rh (Ans.bindE an fun ds h1 xs μ1 H1 q1 e1 r1 rh1 an1 => ?_)
  have := hl _ _ _ _ q1
  cases ds with
  | nil => cases this
  | cons d ds =>
    cases ds with
    | cons _ _ => simp at this
    | nil =>
      obtain ⟨v, rfl, r⟩ := rel1 r1
      cases r with
      | int j =>
        obtain ⟨hj, an1⟩ := chk_ok an1
        have := src_rng (X := X) (ca := ca) (μ := μ1) (H := H1) (i := 0) (j := j)
        rw [Int.sub_zero] at this
        exact ⟨j, rfl, hj.1, hj.2, ans_at an1 this rh1⟩
      | _ => exact an1.elim
theorem simi_rng2 {x : Str} (hx : x = "range") (hg : Gl X x) (hm : X.mg x = none) (hn : notStar a = true) (hn' : notStar b = true) (hs : SimA X ca W cf [a, b] ses) (hl : LenA cf ses 2) : SimI X ca W cf tg (.Call (.Name x p) [a, b] [] pos) (iRng ses) := by
  intro ρ h σ μ H R rr rh an
  subst hx
  refine bI_of (pi_range2 hg hm bA_ok (by rw [starEach_one hn, starEach_one hn']; rfl) (starEach_one hn')) ?_
  refine hs rr rh (Ans.bindE an fun ds h1 xs μ1 H1 q1 e1 r1 rh1 an1 => ?_)
  have := hl _ _ _ _ q1
  match ds, this, r1, an1 with
  | [d, d2], _, r1, an1 =>
    obtain ⟨v, w, rfl, r, r'⟩ := rel2 r1
    cases r with
    | int i =>
      cases r' with
      | int j =>
        obtain ⟨hj, an1⟩ := chk_ok an1
        exact ⟨i, j, rfl, hj, ans_at an1 src_rng rh1⟩
      | _ => exact an1.elim
    | _ => exact an1.elim
end

/-! ## 14. Targets -/
/-- the slots that a target stores -/
def GOk (K : PySem.W.Frag) (g : TGT) (is : List Nat) (t : TG) : Prop := ∀ ⦃d : D⦄ ⦃v : V⦄ ⦃ρ ρ1 : Env'⦄ ⦃σ : L2.St⦄ ⦃μ : List Addr⦄ ⦃H : Hp⦄ ⦃Q : L2.St → Hp → Prop⦄, RelR K μ H ρ σ → RelD K μ H d v → g d ρ = some ρ1 →
  (∀ σ', RelR K μ H ρ1 σ' → (∀ vs : List Nat, (∀ i ∈ is, i ∈ vs) → wipe σ' vs = wipe σ vs) → Q σ' H) → t v σ H Q
theorem wipe_set {σ : L2.St} {i : Nat} {v : Option V} : ∀ {vs : List Nat}, i ∈ vs → wipe (σ.set i v) vs = wipe σ vs
  | [], h => by cases h
  | j :: vs, h => by
    unfold wipe
    by_cases hi : i ∈ vs
    · rw [wipe_set hi]
    · have : i = j := by
        rcases List.mem_cons.mp h with e | e
        · exact e
        · exact absurd e hi
      subst this
      have comm : ∀ {vs : List Nat}, i ∉ vs → wipe (σ.set i v) vs = (wipe σ vs).set i v := fun {vs} => by
        induction vs with
        | nil => intro _; rfl
        | cons k vs ih =>
          intro hk
          simp only [List.mem_cons, not_or] at hk
          unfold wipe
          rw [ih hk.2, List.set_comm _ _ hk.1]
      rw [comm hi, List.set_set]
theorem RelR.set {K : PySem.W.Frag} {μ : List Addr} {H : Hp} {ρ : Env'} {σ : L2.St} {d : D} {v : V} (r : RelR K μ H ρ σ) (i : Nat) (rd : RelD K μ H d v) : RelR K μ H (ρ.set i (some d)) (σ.set i (some v)) := by
  refine ⟨by rw [List.length_set, List.length_set]; exact r.1, fun j d' h => ?_⟩
  by_cases hj : i = j
  · subst hj
    have hl : i < ρ.length := by
      have := (List.getElem?_eq_some_iff.mp h).1
      simpa using this
    rw [List.getElem?_set_self hl] at h
    cases h
    exact ⟨v, by rw [List.getElem?_set_self (by rw [← r.1]; exact hl)], rd⟩
  · rw [List.getElem?_set_ne hj] at h
    obtain ⟨w, h1, h2⟩ := r.2 j d' h
    exact ⟨w, by rw [List.getElem?_set_ne hj]; exact h1, h2⟩
theorem gok_name {K : PySem.W.Frag} {i : Nat} : GOk K (gVar i) [i] (gName i) := by
  intro d v ρ ρ1 σ μ H Q rr rd hg k
  cases hg
  exact k _ (rr.set i rd) fun vs hv => wipe_set (hv i (by simp))
theorem RelR.wipe {K : PySem.W.Frag} {μ : List Addr} {H : Hp} {ρ : Env'} {σ : L2.St} (r : RelR K μ H ρ σ) : ∀ vs : List Nat, RelR K μ H (wipe' ρ vs) (L2.wipe σ vs)
  | [] => r
  | i :: vs => by
    have ih := RelR.wipe r vs
    unfold wipe' L2.wipe
    refine ⟨by rw [List.length_set, List.length_set]; exact ih.1, fun j d h => ?_⟩
    by_cases hj : i = j
    · subst hj
      by_cases hl : i < (wipe' ρ vs).length
      · rw [List.getElem?_set_self hl] at h; cases h
      · rw [List.getElem?_eq_none (by simpa using hl)] at h; cases h
    · rw [List.getElem?_set_ne hj] at h
      obtain ⟨w, h1, h2⟩ := ih.2 j d h
      exact ⟨w, by rw [List.getElem?_set_ne hj]; exact h1, h2⟩

theorem wipe_wipe (σ : L2.St) : ∀ vs : List Nat, L2.wipe (L2.wipe σ vs) vs = L2.wipe σ vs := by
  have key : ∀ (ws vs : List Nat), (∀ i ∈ vs, i ∈ ws) → L2.wipe (L2.wipe σ vs) ws = L2.wipe σ ws := by
    intro ws vs
    induction vs with
    | nil => intro _; rfl
    | cons i vs ih =>
      intro h
      show L2.wipe ((L2.wipe σ vs).set i none) ws = _
      rw [wipe_set (h i (List.mem_cons_self ..))]
      exact ih fun j hj => h j (List.mem_cons_of_mem _ hj)
  exact fun vs => key vs vs fun _ h => h
mutual
theorem relD_pre {K : PySem.W.Frag} {μ μ' : List Addr} {H : Hp} (e : ∀ (n : Nat) (a : Addr), μ[n]? = some a → μ'[n]? = some a) : ∀ {d : D} {v : V}, RelD K μ H d v → RelD K μ' H d v
  | _, _, .non => .non
  | _, _, .bl b => .bl b
  | _, _, .int i => .int i
  | _, _, .str s => .str s
  | _, _, .tup h hs => .tup h (relDs_pre e hs)
  | _, _, .kl h hs => .kl h (relDs_pre e hs)
  | _, _, .ref h => .ref (e _ _ h)
theorem relDs_pre {K : PySem.W.Frag} {μ μ' : List Addr} {H : Hp} (e : ∀ (n : Nat) (a : Addr), μ[n]? = some a → μ'[n]? = some a) : ∀ {ds : List D} {vs : List V}, RelDs K μ H ds vs → RelDs K μ' H ds vs
  | _, _, .nil => .nil
  | _, _, .cons h hs => .cons (relD_pre e h) (relDs_pre e hs)
end

/-! ## 15. Comprehensions -/
section
variable {X : Cx} {ca : Nat → Addr} {W : WX} {cf : CallT} {elt tg iter : Expr} {ifs : List Expr} {scope : Scope} {own : List (Str × Nat)} {pos : Pos} {si : SI} {g : TGT} {is : List Nat} {st : ST} {se : SE} {tgr : TG}
/-- over all blocks that may run -/
def uE (X : Cx) (scope : Scope) (e : Expr) : TE := fun σ H Q => ∀ (s : Shared) (H0 : Hp) (C : Addr) (cl : List (Str × Addr)) (fp : List Addr), bE (X.blk s H0 scope (compEnvC scope cl C X.env) fp) e σ H Q
def bTs (X : Cx) (ifs : List Expr) : TT := fun σ H Q => ∀ (pins : List (Addr × Obj)) (s : Shared), Inv X pins σ H s →
    wpAny (model X.prog X.w) X.A (forIn ifs true fun c r => if r = true then do let ok ← isTrue c X.env (eval c X.env); pure (ForInStep.yield ok) else pure (ForInStep.yield r)) (TP X pins σ Q) X.xe s
theorem bTs_ok {X : Cx} {ifs : List Expr} : PTs X ifs (bTs X ifs) := ⟨fun pins s _ _ _ I h => h pins s I⟩
theorem bTs_of {X : Cx} {ifs : List Expr} {t : TT} {σ : L2.St} {H : Hp} {Q : Bool → Hp → Prop} (p : PTs X ifs t) (h : t σ H Q) : bTs X ifs σ H Q := fun pins s I => p.run pins s σ H Q I h
def uT (X : Cx) (scope : Scope) (ifs : List Expr) : TT := fun σ H Q => ∀ (s : Shared) (H0 : Hp) (C : Addr) (cl : List (Str × Addr)) (fp : List Addr), bTs (X.blk s H0 scope (compEnvC scope cl C X.env) fp) ifs σ H Q
def SimTs (X : Cx) (ca : Nat → Addr) (W : WX) (cf : CallT) (ifs : List Expr) (t : ST) : Prop := ∀ ⦃ρ : Env'⦄ ⦃h : AH⦄ ⦃σ : L2.St⦄ ⦃μ : List Addr⦄ ⦃H : Hp⦄ ⦃Q : Bool → Hp → Prop⦄, RelR X.K μ H ρ σ → RelH X.K ca μ H h → Ans X.K ca (fun _ _ => Eq) (WE W σ) μ H (t cf ρ h) Q → bTs X ifs σ H Q
theorem simts_nil : SimTs X ca W cf [] tYesS := by
  intro ρ h σ μ H Q rr rh an
  exact bTs_of pts_nil (ans_at an rfl rh)
theorem simts_one {c : Expr} (hc : SimT X ca W cf c st) : SimTs X ca W cf [c] st := by
  intro ρ h σ μ H Q rr rh an
  exact bTs_of (pts_one bT_ok) (hc rr rh an)
abbrev W0 : WX := fun _ _ _ _ => False
/-- the new list's address is not the machine's, and its content may change -/
theorem sq_chg {K : PySem.W.Frag} {H : Hp} {Dl : Addr} {us ws : List V} (hD : H Dl = some (.lst us)) {a : Addr} {vs : List V} (h : SqT K H a vs) : SqT K (upd H Dl (.lst ws)) a vs := by
  have ne : ∀ o, H a = some o → (∀ zs, o ≠ .lst zs) → a ≠ Dl := fun o e q z => by subst z; rw [hD] at e; cases e; exact q _ rfl
  rcases h with (h | ⟨o, h⟩) | h
  · exact .inl (.inl (by rw [upd_ne (ne _ h fun _ z => by cases z)]; exact h))
  · exact .inl (.inr ⟨o, by rw [upd_ne (ne _ h fun _ z => by cases z)]; exact h⟩)
  · exact .inr h
theorem sk_chg {K : PySem.W.Frag} {H : Hp} {Dl : Addr} {us ws : List V} (hD : H Dl = some (.lst us)) {a : Addr} {vs : List V} (h : SqK K H a vs) : SqK K (upd H Dl (.lst ws)) a vs := by
  rcases h with ⟨o, h⟩ | h
  · exact .inl ⟨o, by rw [upd_ne (fun z => by subst z; rw [hD] at h; cases h)]; exact h⟩
  · exact .inr h
mutual
theorem RelD.chg {K : PySem.W.Frag} {μ : List Addr} {H : Hp} {Dl : Addr} {us ws : List V} (hD : H Dl = some (.lst us)) : ∀ {d : D} {v : V}, RelD K μ H d v → RelD K μ (upd H Dl (.lst ws)) d v
  | _, _, .non => .non
  | _, _, .bl b => .bl b
  | _, _, .int i => .int i
  | _, _, .str s => .str s
  | _, _, .tup h hs => .tup (sq_chg hD h) (RelDs.chg hD hs)
  | _, _, .kl h hs => .kl (sk_chg hD h) (RelDs.chg hD hs)
  | _, _, .ref h => .ref h
theorem RelDs.chg {K : PySem.W.Frag} {μ : List Addr} {H : Hp} {Dl : Addr} {us ws : List V} (hD : H Dl = some (.lst us)) : ∀ {ds : List D} {vs : List V}, RelDs K μ H ds vs → RelDs K μ (upd H Dl (.lst ws)) ds vs
  | _, _, .nil => .nil
  | _, _, .cons h hs => .cons (RelD.chg hD h) (RelDs.chg hD hs)
end
theorem RelH.chg {K : PySem.W.Frag} {μ : List Addr} {H : Hp} {h : AH} {Dl : Addr} {us ws : List V} (R : RelH K ca μ H h) (hD : H Dl = some (.lst us)) (hn : Dl ∉ μ) : RelH K ca μ (L2.upd H Dl (.lst ws)) h := by
  refine ⟨R.len, R.nd, fun n o a e1 e2 => ?_⟩
  have ne : a ≠ Dl := fun z => hn (z ▸ List.mem_of_getElem? e2)
  have r := R.at' n o a e1 e2
  cases o with
  | lst xs => obtain ⟨vs, q, s⟩ := r; exact ⟨vs, by rw [upd_ne ne]; exact q, s.chg hD⟩
  | ins c fs => obtain ⟨dx, gs, q, s⟩ := r; exact ⟨dx, gs, by rw [upd_ne ne]; exact q, s.1, s.2.chg hD⟩
theorem drop_get {α : Type} {xs : List α} {i : Nat} {x : α} (h : xs[i]? = some x) : xs.drop i = x :: xs.drop (i + 1) := by
  obtain ⟨hl, rfl⟩ := List.getElem?_eq_some_iff.mp h
  exact List.drop_eq_getElem_cons hl
theorem lcL_stands {st : AH → Bool} {g : TGT} {ρ : Env'} {t : Env' → M Bool} {e : Env' → M D} {xs : List D} {h : AH} {ys : List D} {h2 : AH} (q : lcL st g ρ t e xs h = .ok ys h2) : st h = true := by
  cases xs with
  | nil =>
    unfold lcL at q
    split at q
    · assumption
    · cases q
  | cons x xs =>
    unfold lcL at q
    split at q
    · assumption
    · cases q
theorem notSet_fold {it : Expr} {env : PySem.Env} (h : notSet it = true) (x : Value) : foldedSetIterable it env x = pure x := by
  cases it <;> first | rfl | cases h
theorem sim_lc (hc : X.calm = true) (hN : X.N.Nodup) (ok : BlkOk X.N X.env.scope scope own) (hset : notSet iter = true) (hi : SimI X ca W cf tg iter si)
    (hg : ∀ (s : Shared) (H : Hp) (C : Addr) (cl : List (Str × Addr)) (fp : List Addr), L2.PG (X.blk s H scope (compEnvC scope cl C X.env) fp) tg tgr) (hg2 : GOk X.K g is tgr) (his : ∀ i ∈ is, i ∈ own.map (·.2))
    (ht : ∀ (s : Shared) (H : Hp) (C : Addr) (cl : List (Str × Addr)) (fp : List Addr), SimTs (X.blk s H scope (compEnvC scope cl C X.env) fp) ca W0 cf ifs st)
    (he : ∀ (s : Shared) (H : Hp) (C : Addr) (cl : List (Str × Addr)) (fp : List Addr), SimE (X.blk s H scope (compEnvC scope cl C X.env) fp) ca W0 cf elt se) :
    PE X (.ListComp elt [⟨tg, iter, ifs, 0⟩] scope pos) (tLc (bI X tg iter) tgr (uT X scope ifs) (uE X scope elt) (own.map (·.2))) ∧
    ∀ {ρ : Env'} {h : AH} {σ : L2.St} {μ : List Addr} {H : Hp} {Q : VK}, RelR X.K μ H ρ σ → RelH X.K ca μ H h → Ans X.K ca (RelD X.K) (WE W σ) μ H (sLc (own.map (·.2)) g si st se cf ρ h) Q → tLc (bI X tg iter) tgr (uT X scope ifs) (uE X scope elt) (own.map (·.2)) σ H Q := by
  refine ⟨pe_lc hc hN bI_ok ok hg (fun s H C cl fp => ⟨fun pins s' σ' H' Q' I h => h s H C cl fp pins s' I⟩) (fun s H C cl fp => ⟨fun pins s' σ' H' Q' I h => h s H C cl fp pins s' I⟩) (notSet_fold hset), ?_⟩
  intro ρ h σ μ H Q rr rh an
  unfold tLc
  refine hi rr rh (Ans.bind an fun src h1 J μ1 H1 e1 s1 rh1 an1 => ?_)
  intro Dl hDl
  obtain ⟨G, Y, w, gG, gY⟩ := s1
  have nD : Dl ∉ μ1 := rh1.notin hDl
  -- what is left behind turn i
  let left : Nat → AH → Rs (List D) := fun i h' => lcL (stands src.of src.xs) g (wipe' ρ (own.map (·.2))) (st cf) (se cf) (src.xs.drop i) h'
  obtain ⟨ys, h2, hq⟩ : ∃ ys h2, left 0 h1 = .ok ys h2 := by
    cases q : left 0 h1 with
    | ok ys h2 => exact ⟨ys, h2, rfl⟩
    | exc c fs h2 =>
      have q : lcL (stands src.of src.xs) g (wipe' ρ (own.map (·.2))) (st cf) (se cf) src.xs h1 = .exc c fs h2 := q
      rw [q] at an1
      exact an1.elim
    | bad =>
      have q : lcL (stands src.of src.xs) g (wipe' ρ (own.map (·.2))) (st cf) (se cf) src.xs h1 = .bad := q
      rw [q] at an1
      exact an1.elim
  have hq' : lcL (stands src.of src.xs) g (wipe' ρ (own.map (·.2))) (st cf) (se cf) src.xs h1 = .ok ys h2 := hq
  rw [hq'] at an1
  obtain ⟨hlen, an1⟩ := chk_ok an1
  refine lc_it w (fun i H' => ∃ μ' h' acc vacc zs, Ext μ1 H1 μ' H' ∧ RelH X.K ca μ' H' h' ∧ Dl ∉ μ' ∧ H' Dl = some (.lst vacc) ∧ RelDs X.K μ' H' acc vacc ∧ left i h' = .ok zs h2 ∧ acc ++ zs = ys) ?_ ?_ ?_ ?_
  · exact ⟨μ1, h1, [], [], ys, Ext.upd hDl, rh1.upd hDl, nD, upd_same, .nil, hq, rfl⟩
  · rintro i H' _ ⟨μ', h', acc, vacc, zs, e', r', n', d', ra, l', _⟩
    exact gG μ' H' h' e' r' (lcL_stands l')
  · rintro i x H' H2 hi ⟨μ', h', acc, vacc, zs, e', r', n', d', ra, l', hacc⟩ y
    obtain ⟨d, hd, rd, e2, rh2⟩ := gY i μ' H' h' x H2 e' r' (lcL_stands l') hi y
    have dd2 : H2 Dl = some (.lst vacc) := e2.keep _ _ d' (.inl n')
    have l' : lcL (stands src.of src.xs) g (wipe' ρ (own.map (·.2))) (st cf) (se cf) (src.xs.drop i) h' = .ok zs h2 := l'
    have hst := lcL_stands l'
    rw [drop_get hd] at l'
    unfold lcL at l'
    rw [if_pos hst] at l'
    have rw0 : RelR X.K μ' H2 (wipe' ρ (own.map (·.2))) (L2.wipe σ (own.map (·.2))) := (((rr.mono e1).mono e').mono e2).wipe _
    cases qg : g d (wipe' ρ (own.map (·.2))) with
    | none => rw [qg] at l'; cases l'
    | some ρ1 =>
      rw [qg] at l'
      refine hg2 rw0 rd qg fun σ' rr' hw => ⟨?_, ?_⟩
      · have := hw (own.map (·.2)) his
        rw [this]
        exact wipe_wipe _ _
      · intro s0 H0 C cl fp
        refine ht s0 H0 C cl fp rr' rh2 ?_
        simp only at l'
        cases qt : st cf ρ1 h' with
        | bad => rw [qt] at l'; cases l'
        | exc c fs h3 => rw [qt] at l'; cases l'
        | ok k h3 =>
          rw [qt] at l'
          intro b μ3 H3 e3 hb rh3
          subst hb
          have n3 : Dl ∉ μ3 := fun hm => by
            rcases e3.new Dl hm with z | z
            · exact n' z
            · rw [dd2] at z; cases z
          have d3 : H3 Dl = some (.lst vacc) := e3.keep _ _ dd2 (.inl n')
          cases k with
          | false =>
            refine iteF ?_
            exact ⟨μ3, h3, acc, vacc, zs, (e'.trans e2).trans e3, rh3, n3, d3, (ra.mono e2).mono e3, l', hacc⟩
          | true =>
            refine iteT ?_
            intro s1 H1' C1 cl1 fp1
            refine he s1 H1' C1 cl1 fp1 (rr'.mono e3) rh3 ?_
            simp only at l'
            cases qe : se cf ρ1 h3 with
            | bad => rw [qe] at l'; cases l'
            | exc c fs h4 => rw [qe] at l'; cases l'
            | ok yd h4 =>
              rw [qe] at l'
              intro yv μ4 H4 e4 ry rh4
              simp only at l'
              cases ql : lcL (stands src.of src.xs) g (wipe' ρ (own.map (·.2))) (st cf) (se cf) (src.xs.drop (i + 1)) h4 with
              | bad => rw [ql] at l'; cases l'
              | exc c fs h5 => rw [ql] at l'; cases l'
              | ok zs' h5 =>
                rw [ql] at l'
                cases l'
                have n4 : Dl ∉ μ4 := fun hm => by
                  rcases e4.new Dl hm with z | z
                  · exact n3 z
                  · rw [d3] at z; cases z
                have d4 : H4 Dl = some (.lst vacc) := e4.keep _ _ d3 (.inl n3)
                have racc := ((ra.mono e2).mono e3).mono e4
                refine ⟨vacc, d4, ?_, μ4, h4, acc ++ [yd], vacc ++ [yv], zs', ?_, rh4.chg d4 n4, n4, upd_same, (RelDs.append racc (.cons ry .nil)).chg d4, ql, by rw [List.append_assoc]; exact hacc⟩
                · rw [← racc.length]
                  have : (acc ++ yd :: zs').length ≤ sizeLine := by rw [hacc]; exact hlen
                  rw [List.length_append, List.length_cons] at this
                  omega
                · have ee := ((e'.trans e2).trans e3).trans e4
                  refine ⟨ee.pre, fun a o q c => ?_, ee.new⟩
                  have : a ≠ Dl := fun z => by subst z; rw [hDl] at q; cases q
                  rw [upd_ne this]
                  exact ee.keep a o q c
  · rintro H' ⟨μ', h', acc, vacc, zs, e', r', n', d', ra, l', hacc⟩
    have l' : lcL (stands src.of src.xs) g (wipe' ρ (own.map (·.2))) (st cf) (se cf) (src.xs.drop src.xs.length) h' = .ok zs h2 := l'
    rw [List.drop_length] at l'
    unfold lcL at l'
    split at l'
    · cases l'
      rw [List.append_nil] at hacc
      subst hacc
      have e3 : Ext μ1 H1 (μ' ++ [Dl]) H' := by
        refine ⟨fun n a q => ?_, e'.keep, fun a hm => ?_⟩
        · have := e'.pre n a q
          rw [List.getElem?_append_left (List.getElem?_eq_some_iff.mp this).1]
          exact this
        · rcases List.mem_append.mp hm with q | q
          · exact e'.new a q
          · rw [List.mem_singleton] at q; subst q; exact .inr hDl
      refine an1 (.ref Dl) (μ' ++ [Dl]) H' e3 (RelD.new r') ?_
      have mo : Ext μ' H' (μ' ++ [Dl]) H' → False ∨ True := fun _ => .inr trivial
      have stay : ∀ {xs : List D} {vs : List V}, RelDs X.K μ' H' xs vs → RelDs X.K (μ' ++ [Dl]) H' xs vs := fun r => relDs_pre (fun n a q => by
        rw [List.getElem?_append_left (List.getElem?_eq_some_iff.mp q).1]
        exact q) r
      refine ⟨by rw [List.length_append, List.length_append, r'.len]; rfl, ?_, fun n o a q1 q2 => ?_⟩
      · rw [List.nodup_append]
        refine ⟨r'.nd, by simp, fun a ha b hb z => ?_⟩
        rw [List.mem_singleton] at hb
        subst hb; subst z
        exact n' ha
      · by_cases hn : n < h2.length
        · rw [List.getElem?_append_left hn] at q1
          rw [List.getElem?_append_left (by rw [r'.len]; exact hn)] at q2
          have r := r'.at' n o a q1 q2
          cases o with
          | lst xs => obtain ⟨vs, z, s⟩ := r; exact ⟨vs, z, stay s⟩
          | ins c fs => obtain ⟨dx, gs, z, s⟩ := r; exact ⟨dx, gs, z, s.1, stay s.2⟩
        · have hm : n < (h2 ++ [AO.lst acc]).length := (List.getElem?_eq_some_iff.mp q1).1
          rw [List.length_append, List.length_singleton] at hm
          have hz : n = h2.length := by omega
          subst hz
          rw [List.getElem?_append_right (Nat.le_refl _)] at q1
          rw [List.getElem?_append_right (by rw [r'.len]; exact Nat.le_refl _), r'.len] at q2
          simp at q1 q2
          subst q1; subst q2
          exact ⟨vacc, d', stay ra⟩
    · cases l'
end
end Pm

set_option maxRecDepth 100000
set_option maxHeartbeats 1000000
noncomputable section
namespace Pm
open PySem PySem.Spec PyProof.Rows L2

/-! ## 16. Statements -/
def AnsS (K : PySem.W.Frag) (ca : Nat → Addr) (W : WX) (μ : List Addr) (H : Hp) (r : RS) (D : Ends) : Prop := match r with
  | .next ρ h' => ∀ σ' μ' H', Ext μ H μ' H' → RelR K μ' H' ρ σ' → RelH K ca μ' H' h' → D.nx σ' H'
  | .ret d h' => ∀ v μ' H', Ext μ H μ' H' → RelD K μ' H' d v → RelH K ca μ' H' h' → D.rt v H'
  | .brk ρ h' => ∀ σ' μ' H', Ext μ H μ' H' → RelR K μ' H' ρ σ' → RelH K ca μ' H' h' → D.bk σ' H'
  | .cnt ρ h' => ∀ σ' μ' H', Ext μ H μ' H' → RelR K μ' H' ρ σ' → RelH K ca μ' H' h' → D.ct σ' H'
  | .exc c fs ρ h' => ∀ d σ' μ' H', Ext μ H μ' H' → XR K μ' H' fs d → RelR K μ' H' ρ σ' → RelH K ca μ' H' h' → W (.ref (ca c)) d σ' H'
  | .bad => False
theorem AnsS.mono {K : PySem.W.Frag} {ca : Nat → Addr} {W : WX} {μ μ1 : List Addr} {H H1 : Hp} {r : RS} {D : Ends} (e : Ext μ H μ1 H1) (p : AnsS K ca W μ H r D) : AnsS K ca W μ1 H1 r D := by
  cases r with
  | next ρ h' => exact fun σ' μ' H' e' => p σ' μ' H' (e.trans e')
  | ret d h' => exact fun v μ' H' e' => p v μ' H' (e.trans e')
  | brk ρ h' => exact fun σ' μ' H' e' => p σ' μ' H' (e.trans e')
  | cnt ρ h' => exact fun σ' μ' H' e' => p σ' μ' H' (e.trans e')
  | exc c fs ρ h' => exact fun d σ' μ' H' e' => p d σ' μ' H' (e.trans e')
  | bad => exact p
/-- an expression within a statement -/
theorem AnsS.ex {α β : Type} {K : PySem.W.Frag} {ca : Nat → Addr} {R : List Addr → Hp → α → β → Prop} {W : WX} {μ : List Addr} {H : Hp} {r : Rs α} {ρ : Env'} {σ : L2.St} {f : α → AH → RS} {D : Ends} {Q : β → Hp → Prop}
    (p : AnsS K ca W μ H (r.st ρ f) D) (rr : RelR K μ H ρ σ) (k : ∀ a h1 b μ1 H1, r = .ok a h1 → Ext μ H μ1 H1 → R μ1 H1 a b → RelH K ca μ1 H1 h1 → AnsS K ca W μ1 H1 (f a h1) D → Q b H1) : Ans K ca R (WE W σ) μ H r Q := by
  cases r with
  | ok a h1 => exact fun b μ1 H1 e r' rh => k a h1 b μ1 H1 rfl e r' rh (AnsS.mono e p)
  | exc c fs h1 => exact fun d μ1 H1 e x rh => p d σ μ1 H1 e x (rr.mono e) rh
  | bad => exact p
def SimS (X : Cx) (ca : Nat → Addr) (W : WX) (cf : CallT) (st : Stmt) (t : SS) : Prop := ∀ ⦃ρ : Env'⦄ ⦃h : AH⦄ ⦃σ : L2.St⦄ ⦃μ : List Addr⦄ ⦃H : Hp⦄ ⦃D : Ends⦄, RelR X.K μ H ρ σ → RelH X.K ca μ H h → AnsS X.K ca W μ H (t cf ρ h) D → bS X st D σ H
def SimSs (X : Cx) (ca : Nat → Addr) (W : WX) (cf : CallT) (st : List Stmt) (t : SS) : Prop := ∀ ⦃ρ : Env'⦄ ⦃h : AH⦄ ⦃σ : L2.St⦄ ⦃μ : List Addr⦄ ⦃H : Hp⦄ ⦃D : Ends⦄, RelR X.K μ H ρ σ → RelH X.K ca μ H h → AnsS X.K ca W μ H (t cf ρ h) D → bSs X st D σ H
section
variable {X : Cx} {ca : Nat → Addr} {W : WX} {cf : CallT} {e a b o tg it : Expr} {st : Stmt} {sts body els : List Stmt} {se sa sb so : SE} {t u : SS} {tt : ST} {pos p : Pos}
theorem sims_nil : SimSs X ca W cf [] kNil := by
  intro ρ h σ μ H D rr rh an
  exact bSs_of pss_nil (an σ μ H (Ext.refl _ _) rr rh)
theorem sims_cons (h1 : SimS X ca W cf st t) (h2 : SimSs X ca W cf sts u) : SimSs X ca W cf (st :: sts) (kSeq t u) := by
  intro ρ h σ μ H D rr rh an
  refine bSs_of (pss_cons bS_ok bSs_ok) ?_
  refine h1 rr rh ?_
  have an : AnsS X.K ca W μ H ((t cf ρ h).seq fun ρ1 h1 => u cf ρ1 h1) D := an
  cases q : t cf ρ h with
  | next ρ1 h1 =>
    rw [q] at an
    exact fun σ' μ' H' e r' rh' => h2 r' rh' (AnsS.mono e an)
  | ret d h1 => rw [q] at an; exact an
  | brk ρ1 h1 => rw [q] at an; exact an
  | cnt ρ1 h1 => rw [q] at an; exact an
  | exc c fs ρ1 h1 => rw [q] at an; exact an
  | bad => rw [q] at an; exact an.elim
theorem sim_pass : SimS X ca W cf (.Pass pos) kNil := by
  intro ρ h σ μ H D rr rh an
  exact bS_of ps_pass (an σ μ H (Ext.refl _ _) rr rh)
theorem sim_brk : SimS X ca W cf (.Break pos) kBrk := by
  intro ρ h σ μ H D rr rh an
  exact bS_of ps_break (an σ μ H (Ext.refl _ _) rr rh)
theorem sim_cnt : SimS X ca W cf (.Continue pos) kCnt := by
  intro ρ h σ μ H D rr rh an
  exact bS_of ps_continue (an σ μ H (Ext.refl _ _) rr rh)
theorem sim_expr (hn : notComp e = true) (he : SimE X ca W cf e se) : SimS X ca W cf (.Expr e pos) (kExpr se) := by
  intro ρ h σ μ H D rr rh an
  refine bS_of (ps_expr bE_ok (noswap hn)) ?_
  exact he rr rh (AnsS.ex an rr fun d h1 x μ1 H1 _ e1 r1 rh1 an1 => an1 σ μ1 H1 (Ext.refl _ _) (rr.mono e1) rh1)
theorem sim_ret (he : SimE X ca W cf e se) : SimS X ca W cf (.Return (some e) pos) (kRet se) := by
  intro ρ h σ μ H D rr rh an
  refine bS_of (ps_ret bE_ok) ?_
  exact he rr rh (AnsS.ex an rr fun d h1 x μ1 H1 _ e1 r1 rh1 an1 => an1 x μ1 H1 (Ext.refl _ _) r1 rh1)
theorem sim_retN : SimS X ca W cf (.Return none pos) kRetN := by
  intro ρ h σ μ H D rr rh an
  exact bS_of ps_retN (an .non μ H (Ext.refl _ _) .non rh)
theorem sim_if {c : Expr} (hc : SimT X ca W cf c tt) (h1 : SimSs X ca W cf body t) (h2 : SimSs X ca W cf els u) : SimS X ca W cf (.If c body els pos) (kIf tt t u) := by
  intro ρ h σ μ H D rr rh an
  refine bS_of (ps_if bT_ok bSs_ok bSs_ok) ?_
  refine hc rr rh (AnsS.ex an rr fun k h1' x μ1 H1 _ e1 r1 rh1 an1 => ?_)
  cases r1
  cases k with
  | true => exact iteT (h1 (rr.mono e1) rh1 an1)
  | false => exact iteF (h2 (rr.mono e1) rh1 an1)
/-- x = e -/
theorem sim_set {i : Nat} {x : Str} {p' : Pos} (hN : X.N.Nodup) (hi : X.N[i]? = some x) (hx : Loc X.env.scope x) (hf : X.fn x = true ∨ X.env.scope.names.lookup x = some .local) (hn : notComp e = true) (he : SimE X ca W cf e se) :
    SimS X ca W cf (.Assign [.Name x p'] e pos) (kSet (gVar i) se) := by
  intro ρ h σ μ H D rr rh an
  refine bS_of (ps_set hN hi hx bE_ok (noswap hn) hf) ?_
  exact he rr rh (AnsS.ex an rr fun d h1 x μ1 H1 _ e1 r1 rh1 an1 => an1 _ μ1 H1 (Ext.refl _ _) ((rr.mono e1).set i r1) rh1)
/-- x = [..] -/
theorem sim_setLc {i : Nat} {x : Str} {p' lpos : Pos} {elt tg iter : Expr} {ifs : List Expr} {scope : Scope} {own : List (Str × Nat)} {si : SI} {g : TGT} {is : List Nat} {stt : ST} {tgr : TG}
    (hi : X.N[i]? = some x) (hx : X.env.scope.names.lookup x = some .local) (hk : X.env.scope.kind = .function) (hln : (p'.line == lpos.line) = true) (hno : (scope.names.any fun (n, k) => n == x && (k == .local || k == .cell)) = false)
    (hc : X.calm = true) (hN : X.N.Nodup) (ok : BlkOk X.N X.env.scope scope own) (hset : notSet iter = true) (hit : SimI X ca W cf tg iter si)
    (hg : ∀ (s : Shared) (H : Hp) (C : Addr) (cl : List (Str × Addr)) (fp : List Addr), L2.PG (X.blk s H scope (compEnvC scope cl C X.env) fp) tg tgr) (hg2 : GOk X.K g is tgr) (his : ∀ i ∈ is, i ∈ own.map (·.2))
    (ht : ∀ (s : Shared) (H : Hp) (C : Addr) (cl : List (Str × Addr)) (fp : List Addr), SimTs (X.blk s H scope (compEnvC scope cl C X.env) fp) ca W0 cf ifs stt)
    (he : ∀ (s : Shared) (H : Hp) (C : Addr) (cl : List (Str × Addr)) (fp : List Addr), SimE (X.blk s H scope (compEnvC scope cl C X.env) fp) ca W0 cf elt se) :
    SimS X ca W cf (.Assign [.Name x p'] (.ListComp elt [⟨tg, iter, ifs, 0⟩] scope lpos) pos) (kSet (gVar i) (sLc (own.map (·.2)) g si stt se)) := by
  intro ρ h σ μ H D rr rh an
  have lc := sim_lc (pos := lpos) hc hN ok hset hit hg hg2 his ht he
  refine bS_of (ps_setLc (tt := uT X scope ifs) (te := uE X scope elt) hc hN hi hx (sw_true hk hx hln hno) bI_ok ok hg (fun s H C cl fp => ⟨fun pins s' σ' H' Q' I h => h s H C cl fp pins s' I⟩) (fun s H C cl fp => ⟨fun pins s' σ' H' Q' I h => h s H C cl fp pins s' I⟩) (notSet_fold hset)) ?_
  exact lc.2 rr rh (AnsS.ex an rr fun d h1 x μ1 H1 _ e1 r1 rh1 an1 => an1 _ μ1 H1 (Ext.refl _ _) ((rr.mono e1).set i r1) rh1)
/-- o[i] = v -/
theorem sim_setIx {v : Expr} {sv si : SE} {i : Expr} {tp : Pos} (hsl : notSlice i = true) (hn : notComp v = true) (hv : SimE X ca W cf v sv) (ho : SimE X ca W cf o so) (hi : SimE X ca W cf i si) :
    SimS X ca W cf (.Assign [.Subscript o i tp] v pos) (kSetIx so si sv) := by
  intro ρ h σ μ H D rr rh an
  have pg : L2.PG X (.Subscript o i tp) (gSub (bE X o) (bE X i) rSetL) := pg_sub bE_ok bE_ok set_list (fun v => by cases i <;> first | rfl | cases hsl)
  refine bS_of (ps_asg bE_ok pg (by show swapsWith v (some (.Subscript o i tp)) pos.line X.env = pure false; exact noswap hn) (by cases v <;> rfl) rfl) ?_
  refine hv rr rh (AnsS.ex an rr fun z h1 zv μ1 H1 _ e1 r1 rh1 an1 => ?_)
  refine ho (rr.mono e1) rh1 (AnsS.ex an1 (rr.mono e1) fun x h2 xv μ2 H2 _ e2 r2 rh2 an2 => ?_)
  refine hi (rr.mono (e1.trans e2)) rh2 (AnsS.ex an2 (rr.mono (e1.trans e2)) fun y h3 yv μ3 H3 _ e3 r3 rh3 an3 => ?_)
  cases r2 with
  | @ref n am hm =>
    cases r3 with
    | int k =>
      have an3 : AnsS X.K ca W μ3 H3 (match h3[n]? with
        | some (.lst xs) => match ixN xs.length k with
          | some j => .next ρ (h3.set n (.lst (xs.set j z)))
          | none => .bad
        | _ => .bad) D := an3
      split at an3
      · rename_i xs hx
        split at an3
        · rename_i j hj
          have hm3 := e3.pre n am hm
          obtain ⟨ws, rws, hH⟩ := lst_rel rh3 hm3 hx
          have mu : Mut (H3 am) := by rw [hH]; exact trivial
          refine ⟨am, ws, k, j, rfl, rfl, hH, by rw [← rws.length]; exact hj, ?_⟩
          have ew : Ext μ3 H3 μ3 (L2.upd H3 am (.lst (ws.set j zv))) := Ext.write hm3 mu
          refine an3 σ μ3 _ ew ((rr.mono ((e1.trans e2).trans e3)).mono ew) (rh3.write hm3 mu ⟨_, upd_same, ?_⟩)
          exact RelDs.set j (rws.mono ew) (((r1.mono e2).mono e3).mono ew)
        · exact an3.elim
      · exact an3.elim
    | _ => exact an3.elim
  | _ => exact an3.elim
/-- for -/
theorem forL_stands {st : AH → Bool} {g : TGT} {body : Env' → AH → RS} {xs : List D} {ρ : Env'} {h : AH} (q : forL st g body xs ρ h ≠ .bad) : st h = true := by
  cases xs with
  | nil =>
    unfold forL at q
    split at q
    · assumption
    · exact absurd rfl q
  | cons x xs =>
    unfold forL at q
    split at q
    · assumption
    · exact absurd rfl q
theorem AnsS.ne {K : PySem.W.Frag} {W : WX} {μ : List Addr} {H : Hp} {r : RS} {D : Ends} (p : AnsS K ca W μ H r D) : r ≠ .bad := fun z => by subst z; exact p
theorem sim_for {g : TGT} {is : List Nat} {si : SI} {tgr : TG} (hp : PassesOwn (model X.prog X.w) X.A X.env X.xe) (hc : X.calm = true) (hset : notSet it = true) (hi : SimI X ca W cf tg it si) (hg : L2.PG X tg tgr) (hg2 : GOk X.K g is tgr) (hb : SimSs X ca W cf body t) :
    SimS X ca W cf (.For tg it body [] pos) (kFor g si t) := by
  intro ρ h σ μ H D rr rh an
  refine bS_of (ps_for hp hc bI_ok hg bSs_ok (notSet_fold hset)) ?_
  refine hi rr rh (AnsS.ex an rr fun src h1 J μ1 H1 _ e1 s1 rh1 an1 => ?_)
  obtain ⟨G, Y, w, gG, gY⟩ := s1
  refine for_it w (fun i σ' H' => ∃ ρ' μ' h', Ext μ1 H1 μ' H' ∧ RelR X.K μ' H' ρ' σ' ∧ RelH X.K ca μ' H' h' ∧ AnsS X.K ca W μ' H' (forL (stands src.of src.xs) g (t cf) (src.xs.drop i) ρ' h') D) ?_ ?_ ?_ ?_
  · exact ⟨ρ, μ1, h1, Ext.refl _ _, rr.mono e1, rh1, an1⟩
  · rintro i σ' H' _ ⟨ρ', μ', h', e', rr', r', an'⟩
    exact gG μ' H' h' e' r' (forL_stands (AnsS.ne an'))
  · rintro i x σ' H' H2 hi ⟨ρ', μ', h', e', rr', r', an'⟩ y
    have hst := forL_stands (AnsS.ne an')
    obtain ⟨d, hd, rd, e2, rh2⟩ := gY i μ' H' h' x H2 e' r' hst hi y
    rw [drop_get hd] at an'
    unfold forL at an'
    rw [if_pos hst] at an'
    cases qg : g d ρ' with
    | none => rw [qg] at an'; exact an'.elim
    | some ρ1 =>
      rw [qg] at an'
      refine hg2 (rr'.mono e2) rd qg fun σ2 rr2 _ => ?_
      refine hb rr2 rh2 ?_
      have an2 := AnsS.mono e2 an'
      simp only at an2
      cases qb : t cf ρ1 h' with
      | next ρ2 h2 => rw [qb] at an2; exact fun σ3 μ3 H3 e3 rr3 rh3 => ⟨ρ2, μ3, h2, (e'.trans e2).trans e3, rr3, rh3, AnsS.mono e3 an2⟩
      | cnt ρ2 h2 => rw [qb] at an2; exact fun σ3 μ3 H3 e3 rr3 rh3 => ⟨ρ2, μ3, h2, (e'.trans e2).trans e3, rr3, rh3, AnsS.mono e3 an2⟩
      | brk ρ2 h2 => rw [qb] at an2; exact an2
      | ret v h2 => rw [qb] at an2; exact an2
      | exc c fs ρ2 h2 => rw [qb] at an2; exact an2
      | bad => rw [qb] at an2; exact an2
  · rintro σ' H' ⟨ρ', μ', h', e', rr', r', an'⟩
    rw [List.drop_length] at an'
    unfold forL at an'
    split at an'
    · exact an' σ' μ' H' (Ext.refl _ _) rr' r'
    · exact an'.elim
/-- while -/
theorem sim_while {c : Expr} (hp : PassesOwn (model X.prog X.w) X.A X.env X.xe) (hc : SimT X ca W cf c tt) (hb : SimSs X ca W cf body t) : SimS X ca W cf (.While c body [] pos) (kWhile tt t) := by
  intro ρ h σ μ H D rr rh an
  refine bS_of (ps_while hp bT_ok bSs_ok) ?_
  refine ⟨fun m σ' H' => ∃ ρ' μ' h', Ext μ H μ' H' ∧ RelR X.K μ' H' ρ' σ' ∧ RelH X.K ca μ' H' h' ∧ AnsS X.K ca W μ' H' (whileL (tt cf) (t cf) m ρ' h') D, ⟨whileFuel, ρ, μ, h, Ext.refl _ _, rr, rh, an⟩, ?_⟩
  rintro m σ' H' ⟨ρ', μ', h', e', rr', r', an'⟩
  cases m with
  | zero => exact an'.elim
  | succ m =>
    unfold whileL at an'
    refine hc rr' r' (AnsS.ex an' rr' fun k h1 x μ1 H1 _ e1 r1 rh1 an1 => ?_)
    cases r1
    cases k with
    | false => exact iteF (an1 σ' μ1 H1 (Ext.refl _ _) (rr'.mono e1) rh1)
    | true =>
      refine iteT ⟨fun σ2 H2 => ∃ ρ2 μ2 h2, Ext μ H μ2 H2 ∧ RelR X.K μ2 H2 ρ2 σ2 ∧ RelH X.K ca μ2 H2 h2 ∧ AnsS X.K ca W μ2 H2 (whileL (tt cf) (t cf) m ρ2 h2) D, fun σ2 H2 hh => ⟨m, Nat.lt_succ_self m, hh⟩, ?_⟩
      rw [if_pos rfl] at an1
      refine hb (rr'.mono e1) rh1 ?_
      cases qb : t cf ρ' h1 with
      | next ρ2 h2 => rw [qb] at an1; exact fun σ3 μ3 H3 e3 rr3 rh3 => ⟨ρ2, μ3, h2, (e'.trans e1).trans e3, rr3, rh3, AnsS.mono e3 an1⟩
      | cnt ρ2 h2 => rw [qb] at an1; exact fun σ3 μ3 H3 e3 rr3 rh3 => ⟨ρ2, μ3, h2, (e'.trans e1).trans e3, rr3, rh3, AnsS.mono e3 an1⟩
      | brk ρ2 h2 => rw [qb] at an1; exact an1
      | ret v h2 => rw [qb] at an1; exact an1
      | exc c fs ρ2 h2 => rw [qb] at an1; exact an1
      | bad => rw [qb] at an1; exact an1
end
end Pm

set_option maxRecDepth 100000
set_option maxHeartbeats 1000000
noncomputable section
namespace Pm
open PySem PySem.Spec PyProof.Rows L2

/-! ## 17. The translator -/
structure Sx where
  N : List Str
  sc : Scope
  calm : Bool
  fnc : Str → Bool
structure Gx where
  fns : List (Str × Nat)
  kws : List (Nat × Nat × List Str × List Nat)
  cst : List (Str × D)
  free : List Str

def strOf (s : Str) : Option (List Char) := if s.cps.toList.all (fun n => decide (n < 128)) = true then some (s.cps.toList.map Char.ofNat) else none
def vis (sx : Sx) (x : Str) : Bool := match sx.sc.names.lookup x with
  | some .local => true
  | some .cell => true
  | some .free => true
  | _ => false
def glo (sx : Sx) (x : Str) : Bool := decide (sx.sc.names.lookup x = some .globalImplicit)
def opOf : Operator → Option (D → D → M D)
  | .Add => some pAdd
  | .Sub => some pSub
  | .Mult => some pMul
  | .Mod => some pMod
  | .FloorDiv => some pFdiv
  | .Pow => some pPow
  | _ => none
def cmpOf : CmpOp → Option (D → D → M D)
  | .Eq => some pEq
  | .NotEq => some pNe
  | .Lt => some pLt
  | .LtE => some pLe
  | .Gt => some pGt
  | .GtE => some pGe
  | .Is => some pIs
  | .IsNot => some pIsNot
  | .In => some pIn
  | .NotIn => some pNotIn
def biName : Bi → Str
  | .len => "len"
  | .int => "int"
  | .tuple => "tuple"
  | .list => "list"
  | .abs => "abs"
  | .max2 => "max"
  | .min2 => "min"
def biArgs : Bi → Nat
  | .max2 => 2
  | .min2 => 2
  | _ => 1
def biAll : List Bi := [.len, .int, .tuple, .list, .abs, .max2, .min2]
def tyName : Ty → Str
  | .bool => "bool" | .int => "int" | .str => "str" | .tuple => "tuple" | .list => "list"
def tyAll : List Ty := [.bool, .int, .str, .tuple, .list]
def bmAll : List Bm := [.join, .upper, .append]

def argL (f : Expr → Option SE) : List Expr → Option SA
  | [] => some sNil
  | e :: es => if notStar e = true then match f e, argL f es with
      | some x, some xs => some (sCons x xs)
      | _, _ => none
    else none
def kwL (f : Expr → Option SE) : List Keyword → Option SA
  | [] => some sNil
  | ⟨_, e, _⟩ :: es => match f e, kwL f es with
      | some x, some xs => some (sCons x xs)
      | _, _ => none
def andL (f : Expr → Option SE) : List Expr → Option SE
  | [] => none
  | [a] => f a
  | a :: b :: r => match f a, andL f (b :: r) with
    | some x, some y => some (sAnd x y)
    | _, _ => none
def orL (f : Expr → Option SE) : List Expr → Option SE
  | [] => none
  | [a] => f a
  | a :: b :: r => match f a, orL f (b :: r) with
    | some x, some y => some (sOr x y)
    | _, _ => none
def andT (f : Expr → Option ST) : List Expr → Option ST
  | [] => none
  | [a] => f a
  | a :: b :: r => match f a, andT f (b :: r) with
    | some x, some y => some (tAn x y)
    | _, _ => none
def orT (f : Expr → Option ST) : List Expr → Option ST
  | [] => none
  | [a] => f a
  | a :: b :: r => match f a, orT f (b :: r) with
    | some x, some y => some (tO x y)
    | _, _ => none
def kwNames : List Keyword → Option (List Str)
  | [] => some []
  | ⟨some x, _, _⟩ :: r => match kwNames r with
    | some xs => some (x :: xs)
    | none => none
  | _ => none
def denOpt (f : Expr → Option SE) : Option Expr → Option SO
  | none => some oNone
  | some e => match f e with
    | some x => some (oSome x)
    | none => none
/-- f(..) by its name -/
def denCall (G : Gx) (sx : Sx) (f : Expr → Option SE) (x : Str) (args : List Expr) (kws : List Keyword) : Option SE :=
  if (x == ("__debug__" : Str)) = false ∧ glo sx x = true ∧ sx.calm = true then
    match G.fns.lookup x with
    | some i => match kws with
      | [] => match argL f args with
        | some xs => some (sCall i xs)
        | none => none
      | k :: ks => match kwNames (k :: ks), argL f args, kwL f (k :: ks) with
        | some ns, some xs, some zs => match G.kws.find? (fun q => decide (q.1 = i ∧ q.2.1 = args.length ∧ q.2.2.1 = ns)) with
          | some q => some (sCallK i q.2.2.2 xs zs)
          | none => none
        | _, _, _ => none
    | none => if decide (x ∈ G.free) = true then match kws with
      | [] =>
        if x = ("isinstance" : Str) then match args with
          | [a, .Name y _] => if glo sx y = true ∧ decide (y ∈ G.free) = true ∧ notStar a = true then match tyAll.find? (fun t => decide (tyName t = y)), f a with
              | some t, some sa => some (sOp1 (pIsi t) sa)
              | _, _ => none
            else none
          | _ => none
        else match biAll.find? (fun b => decide (biName b = x ∧ biArgs b = args.length)), argL f args with
          | some b, some xs => some (sN (pBi b) xs)
          | _, _ => none
      | _ => none
      else none
  else none
def ownOf (N : List Str) (scope : Scope) : List (Str × Nat) := scope.names.filterMap fun y => match y.2 with
  | .local => (N.idxOf? y.1).map fun i => (y.1, i)
  | .cell => (N.idxOf? y.1).map fun i => (y.1, i)
  | _ => none
def blkSx (sx : Sx) (scope : Scope) : Sx := ⟨sx.N, relS scope sx.sc, sx.calm, fun x => scope.names.lookup x == some .cell⟩
/-- a target: its word, its slots -/
def denG (sx : Sx) : Expr → Option (TGT × List Nat)
  | .Name x _ => match sx.N.idxOf? x with
    | some i => if decide (sx.sc.names.lookup x = some .local) = true ∨ (decide (sx.sc.names.lookup x = some .cell) = true ∧ sx.fnc x = true) then some (gVar i, [i]) else none
    | none => none
  | _ => none
def denI (G : Gx) (sx : Sx) (f : Expr → Option SE) (e : Expr) : Option SI := match e with
  | .Call (.Name x p) args [] pos => if x = ("range" : Str) then
      if glo sx x = true ∧ decide (x ∈ G.free) = true ∧ (args.length = 1 ∨ args.length = 2) then match argL f args with
        | some xs => some (iRng xs)
        | none => none
      else none
    else match f (.Call (.Name x p) args [] pos) with
      | some x => some (iVal x)
      | none => none
  | e => match f e with
    | some x => some (iVal x)
    | none => none
mutual
def denE (G : Gx) : Nat → Sx → Expr → Option SE
  | 0, _, _ => none
  | n + 1, sx, e => match e with
    | .Constant .none _ _ => some (sCst .non)
    | .Constant (.bool b) _ _ => some (sCst (.bl b))
    | .Constant (.int i) _ _ => some (sCst (.int i))
    | .Constant (.str s) _ _ => match strOf s with
      | some l => some (sCst (.str l))
      | none => none
    | .Name x _ => if (x == ("__debug__" : Str)) = false ∧ (x == ("__classdict__" : Str)) = false then
        if vis sx x = true then match sx.N.idxOf? x with
          | some i => some (sVar i)
          | none => none
        else if glo sx x = true then match G.cst.lookup x with
          | some d => some (sCst d)
          | none => none
        else none
      else none
    | .Tuple es _ _ => match argL (denE G n sx) es with
      | some xs => some (sN pTup xs)
      | none => none
    | .List es _ => match argL (denE G n sx) es with
      | some xs => some (sN pLst xs)
      | none => none
    | .BinOp a op b _ => match opOf op, denE G n sx a, denE G n sx b with
      | some p, some x, some y => some (sOp2 p x y)
      | _, _, _ => none
    | .UnaryOp .USub a _ => match denE G n sx a with
      | some x => some (sOp1 pNeg x)
      | none => none
    | .UnaryOp .Not a _ => match denE G n sx a with
      | some x => some (sNot x)
      | none => none
    | .Compare a [op] [b] _ => if notSet b = true then match cmpOf op, denE G n sx a, denE G n sx b with
        | some p, some x, some y => some (sOp2 p x y)
        | _, _, _ => none
      else none
    | .Compare a [op, op'] [b, c] _ => if notSet b = true ∧ notSet c = true then match cmpOf op, cmpOf op', denE G n sx a, denE G n sx b, denE G n sx c with
        | some p, some p', some x, some y, some z => some (sCh p p' x y z)
        | _, _, _, _, _ => none
      else none
    | .BoolOp .And es _ => andL (denE G n sx) es
    | .BoolOp .Or es _ => orL (denE G n sx) es
    | .IfExp c a b _ => match denT G n sx c, denE G n sx a, denE G n sx b with
      | some t, some x, some y => some (sIte t x y)
      | _, _, _ => none
    | .Subscript a (.Slice lo hi none _) _ => match denE G n sx a, denOpt (denE G n sx) lo, denOpt (denE G n sx) hi with
      | some x, some l, some u => some (sSl x l u)
      | _, _, _ => none
    | .Subscript a (.Slice none none (some (.UnaryOp .USub (.Constant (.int i) _ _) _)) _) _ => if i = 1 then match denE G n sx a with
        | some x => some (sOp1 pRev x)
        | none => none
      else none
    | .Subscript a b _ => if notSlice b = true then match denE G n sx a, denE G n sx b with
        | some x, some y => some (sOp2 pIx x y)
        | _, _ => none
      else none
    | .Call (.Name x _) args kws _ => denCall G sx (denE G n sx) x args kws
    | .Call (.Attribute o m apos) args [] cpos => if notSuper o = true ∧ (apos.endLine == cpos.line) = true ∧ args.length < 30 then match bmAll.find? (fun b => decide (bmName b = m)), denE G n sx o, argL (denE G n sx) args with
        | some b, some x, some xs => some (sBm b x xs)
        | _, _, _ => none
      else none
    | .ListComp elt [⟨tg, it, ifs, a⟩] scope _ => if a = 0 ∧ sx.calm = true ∧ blkC sx.N sx.sc scope (ownOf sx.N scope) = true ∧ notSet it = true then
        match denG (blkSx sx scope) tg, denI G sx (denE G n sx) it, denTs G n (blkSx sx scope) ifs, denE G n (blkSx sx scope) elt with
        | some (g, is), some si, some t, some x => if is.all (fun i => decide (i ∈ (ownOf sx.N scope).map (·.2))) = true then some (sLc ((ownOf sx.N scope).map (·.2)) g si t x) else none
        | _, _, _, _ => none
      else none
    | _ => none
def denT (G : Gx) : Nat → Sx → Expr → Option ST
  | 0, _, _ => none
  | n + 1, sx, e => match e with
    | .UnaryOp .Not a _ => match denT G n sx a with
      | some x => some (tNo x)
      | none => none
    | .BoolOp .And es _ => andT (denT G n sx) es
    | .BoolOp .Or es _ => orT (denT G n sx) es
    | .Compare a [op] [b] _ => if notSet b = true then match cmpOf op, denE G n sx a, denE G n sx b with
        | some p, some x, some y => some (tBoo (sOp2 p x y))
        | _, _, _ => none
      else none
    | e => if plainTest e = true then match denE G n sx e with
        | some x => some (tTru x)
        | none => none
      else none
def denTs (G : Gx) : Nat → Sx → List Expr → Option ST
  | 0, _, _ => none
  | n + 1, sx, [] => some tYesS
  | n + 1, sx, [c] => denT G n sx c
  | _, _, _ => none
end
def seqL (f : Stmt → Option SS) : List Stmt → Option SS
  | [] => some kNil
  | s :: r => match f s, seqL f r with
    | some x, some y => some (kSeq x y)
    | _, _ => none
/-- x = [..] of one line: its words -/
def denLc (G : Gx) (n : Nat) (sx : Sx) (x : Str) (pl : Nat) (e : Expr) : Option SE := match e with
  | .ListComp elt [⟨tg, it, ifs, a⟩] scope lpos => if a = 0 ∧ sx.calm = true ∧ blkC sx.N sx.sc scope (ownOf sx.N scope) = true ∧ notSet it = true ∧ (pl == lpos.line) = true ∧ (scope.names.any fun (n, k) => n == x && (k == .local || k == .cell)) = false then
        match denG (blkSx sx scope) tg, denI G sx (denE G n sx) it, denTs G n (blkSx sx scope) ifs, denE G n (blkSx sx scope) elt with
        | some (g, is), some si, some t, some x => if is.all (fun i => decide (i ∈ (ownOf sx.N scope).map (·.2))) = true then some (sLc ((ownOf sx.N scope).map (·.2)) g si t x) else none
        | _, _, _, _ => none
      else none
  | _ => none
def denS (G : Gx) : Nat → Sx → Stmt → Option SS
  | 0, _, _ => none
  | n + 1, sx, st => match st with
    | .Pass _ => some kNil
    | .Break _ => some kBrk
    | .Continue _ => some kCnt
    | .Expr e _ => if notComp e = true then match denE G n sx e with
        | some x => some (kExpr x)
        | none => none
      else none
    | .Return (some e) _ => match denE G n sx e with
      | some x => some (kRet x)
      | none => none
    | .Return none _ => some kRetN
    | .If c a b _ => match denT G n sx c, seqL (denS G n sx) a, seqL (denS G n sx) b with
      | some t, some x, some y => some (kIf t x y)
      | _, _, _ => none
    | .Assign [.Name x p'] e _ => match denG sx (.Name x p') with
      | some (g, is) => if notComp e = true then match denE G n sx e with
            | some y => some (kSet g y)
            | none => none
          else if decide (sx.sc.names.lookup x = some .local) = true ∧ decide (sx.sc.kind = .function) = true then match denLc G n sx x p'.line e with
            | some y => some (kSet g y)
            | none => none
          else none
      | none => none
    | .Assign [.Subscript o i _] v _ => if notSlice i = true ∧ notComp v = true then match denE G n sx o, denE G n sx i, denE G n sx v with
        | some x, some y, some z => some (kSetIx x y z)
        | _, _, _ => none
      else none
    | .For tg it body [] _ => if sx.calm = true ∧ notSet it = true then match denG sx tg, denI G sx (denE G n sx) it, seqL (denS G n sx) body with
        | some (g, _), some si, some b => some (kFor g si b)
        | _, _, _ => none
      else none
    | .While c body [] _ => match denT G n sx c, seqL (denS G n sx) body with
      | some t, some b => some (kWhile t b)
      | _, _ => none
    | _ => none
end Pm

set_option maxRecDepth 100000
set_option maxHeartbeats 2000000
noncomputable section
namespace Pm
open PySem PySem.Spec PyProof.Rows L2

/-! ## 18. The translator tells the truth -/
structure Glob (G : Gx) (fa : Nat → Addr) (fd : Nat → FuncData) (pn : Nat → List Str) (K : PySem.W.Frag) (mg : Str → Option Value) : Prop where
  gf : ∀ x i, G.fns.lookup x = some i → mg x = some (.ref (fa i)) ∧ PySem.W.keepIn K (.ref (fa i)) = true ∧ Binds K (fd i) (pn i) []
  gk : ∀ q, q ∈ G.kws → KwOk K (fd q.1) (pn q.1) q.2.1 q.2.2.1 q.2.2.2
  gc : ∀ x d, G.cst.lookup x = some d → ∃ v u, mg x = some u ∧ RelV v u ∧ ∀ μ H, RelD K μ H d v
  gn : ∀ x, x ∈ G.free → mg x = none
structure XOk (G : Gx) (ca : Nat → Addr) (fa : Nat → Addr) (fd : Nat → FuncData) (pn : Nat → List Str) (cf : CallT) (k : Nat) (sx : Sx) (X : Cx) (W : WX) : Prop where
  N : X.N = sx.N
  sc : X.env.scope = sx.sc
  nd : sx.N.Nodup
  fn : X.fn = sx.fnc
  calm : sx.calm = true → X.calm = true
  room : sx.calm = true → Room k X.A
  units : X.A.units + 65 < cLine
  tk : Takes X W
  po : PassesOwn (model X.prog X.w) X.A X.env X.xe
  defs : ∀ i, FnOk X.prog X.w X.K X.mg X.base (L2.CX X.prog X.w) k (fa i) (fd i) (pn i) (spA X.K ca (cf i))
  glob : Glob G fa fd pn X.K X.mg
section
variable {G : Gx} {ca : Nat → Addr} {fa : Nat → Addr} {fd : Nat → FuncData} {pn : Nat → List Str} {cf : CallT} {k : Nat} {sx : Sx} {X : Cx} {W : WX}
theorem XOk.blk (x : XOk G ca fa fd pn cf k sx X W) (scope : Scope) (s : Shared) (H : Hp) (C : Addr) (cl : List (Str × Addr)) (fp : List Addr) : XOk G ca fa fd pn cf k (blkSx sx scope) (X.blk s H scope (compEnvC scope cl C X.env) fp) W0 :=
  ⟨x.N, by show relS scope X.env.scope = relS scope sx.sc; rw [x.sc], x.nd, rfl, x.calm, x.room, x.units, takes0, PassesOwn.never, x.defs, x.glob⟩
theorem strOf_ok {s : Str} {l : List Char} (h : strOf s = some l) : toS l = s := by
  unfold strOf at h
  split at h
  · rename_i ha
    cases h
    have h' : ∀ n ∈ s.cps.toList, n < 128 := fun n hn => by simpa using List.all_eq_true.mp ha n hn
    unfold toS
    rw [List.map_map]
    have e : List.map (Char.toNat ∘ Char.ofNat) s.cps.toList = s.cps.toList := by
      conv => rhs; rw [← List.map_id s.cps.toList]
      exact List.map_congr_left fun n hn => ofNat_toNat n (by have := h' n hn; omega)
    rw [e]
  · cases h
theorem vis_ok {x : Str} (h : vis sx x = true) : Vis sx.sc x := by
  unfold vis at h
  split at h
  · exact .inl (by assumption)
  · exact .inr (.inl (by assumption))
  · exact .inr (.inr (by assumption))
  · cases h
theorem glo_ok {x : Str} (xo : XOk G ca fa fd pn cf k sx X W) (h : glo sx x = true) : Gl X x := by
  show X.env.scope.names.lookup x = _
  rw [xo.sc]
  exact of_decide_eq_true h
theorem idx_ok {l : List Str} {x : Str} {i : Nat} (h : l.idxOf? x = some i) : l[i]? = some x := by
  unfold List.idxOf? at h
  rw [List.findIdx?_eq_some_iff_getElem] at h
  obtain ⟨hl, e, _⟩ := h
  rw [List.getElem?_eq_getElem hl]
  rw [beq_iff_eq.mp e]
theorem op_ok {op : Operator} {p : D → D → M D} (h : opOf op = some p) : OpSim X ca (binaryOp op) p := by
  cases op <;> cases h
  · exact os_add
  · exact os_sub
  · exact os_mul
  · exact os_mod
  · exact os_pow
  · exact os_fdiv
theorem cmp_ok {op : CmpOp} {p : D → D → M D} (hu : X.A.units + 65 < cLine) (h : cmpOf op = some p) : OpSim X ca (compareOp op) p := by
  cases op <;> cases h
  · exact os_eq (by omega)
  · exact os_ne (by omega)
  · exact os_lt
  · exact os_le
  · exact os_gt
  · exact os_ge
  · exact os_is
  · exact os_isNot
  · exact os_in hu
  · exact os_notIn hu
theorem argL_ok {f : Expr → Option SE} (hf : ∀ e t, f e = some t → SimE X ca W cf e t) : ∀ {es : List Expr} {t : SA}, argL f es = some t → SimA X ca W cf es t ∧ es.all notStar = true ∧ LenA cf t es.length ∧ (es = [] → t = sNil)
  | [], _, h => by cases h; exact ⟨sima_nil, rfl, lenA_nil, fun _ => rfl⟩
  | e :: es, t, h => by
    unfold argL at h
    split at h
    · rename_i hn
      split at h
      · rename_i x xs e1 e2
        cases h
        obtain ⟨h1, h2, h3, _⟩ := argL_ok hf e2
        exact ⟨sima_cons hn (hf e x e1) h1, by rw [List.all_cons, hn, h2]; rfl, lenA_cons h3, fun z => nomatch z⟩
      · cases h
    · cases h
theorem kwL_ok {f : Expr → Option SE} (hf : ∀ e t, f e = some t → SimE X ca W cf e t) : ∀ {kws : List Keyword} {t : SA}, kwL f kws = some t → SimK X ca W cf kws t ∧ LenA cf t kws.length
  | [], _, h => by cases h; exact ⟨simk_nil, lenA_nil⟩
  | ⟨nm, e, kp⟩ :: es, t, h => by
    unfold kwL at h
    split at h
    · rename_i x xs e1 e2
      cases h
      obtain ⟨h1, h2⟩ := kwL_ok hf e2
      exact ⟨simk_cons (hf e x e1) h1, lenA_cons h2⟩
    · cases h
theorem kwNames_ok : ∀ {kws : List Keyword} {ns : List Str}, kwNames kws = some ns → kws.map kwName = ns.map some ∧ ns.length = kws.length
  | [], _, h => by cases h; exact ⟨rfl, rfl⟩
  | ⟨none, _, _⟩ :: _, _, h => by cases h
  | ⟨some x, v, p⟩ :: r, ns, h => by
    unfold kwNames at h
    split at h
    · rename_i xs e1
      cases h
      obtain ⟨h1, h2⟩ := kwNames_ok e1
      exact ⟨by rw [List.map_cons, List.map_cons, h1]; rfl, by rw [List.length_cons, List.length_cons, h2]⟩
    · cases h
theorem andL_ok {f : Expr → Option SE} (hf : ∀ e t, f e = some t → SimE X ca W cf e t) {pos : Pos} : ∀ {es : List Expr} {t : SE}, andL f es = some t → SimE X ca W cf (.BoolOp .And es pos) t
  | [], _, h => by cases h
  | [a], t, h => sim_one (hf a t h)
  | a :: b :: r, t, h => by
    unfold andL at h
    split at h
    · rename_i x y e1 e2
      cases h
      exact sim_and (hf a x e1) (andL_ok hf e2)
    · cases h
theorem orL_ok {f : Expr → Option SE} (hf : ∀ e t, f e = some t → SimE X ca W cf e t) {pos : Pos} : ∀ {es : List Expr} {t : SE}, orL f es = some t → SimE X ca W cf (.BoolOp .Or es pos) t
  | [], _, h => by cases h
  | [a], t, h => sim_one (hf a t h)
  | a :: b :: r, t, h => by
    unfold orL at h
    split at h
    · rename_i x y e1 e2
      cases h
      exact sim_or (hf a x e1) (orL_ok hf e2)
    · cases h
theorem andT_ok {f : Expr → Option ST} (hf : ∀ e t, f e = some t → SimT X ca W cf e t) {pos : Pos} : ∀ {es : List Expr} {t : ST}, andT f es = some t → SimW X ca W cf (.BoolOp .And es pos) t
  | [], _, h => by cases h
  | [a], t, h => simw_and1 (hf a t h)
  | a :: b :: r, t, h => by
    unfold andT at h
    split at h
    · rename_i x y e1 e2
      cases h
      exact simw_and (hf a x e1) (andT_ok hf e2)
    · cases h
theorem orT_ok {f : Expr → Option ST} (hf : ∀ e t, f e = some t → SimT X ca W cf e t) {pos : Pos} : ∀ {es : List Expr} {t : ST}, orT f es = some t → SimW X ca W cf (.BoolOp .Or es pos) t
  | [], _, h => by cases h
  | [a], t, h => simw_or1 (hf a t h)
  | a :: b :: r, t, h => by
    unfold orT at h
    split at h
    · rename_i x y e1 e2
      cases h
      exact simw_or (hf a x e1) (orT_ok hf e2)
    · cases h
theorem denOpt_ok {f : Expr → Option SE} (hf : ∀ e t, f e = some t → SimE X ca W cf e t) {e : Option Expr} {t : SO} (h : denOpt f e = some t) : SimO X ca W cf e t := by
  cases e with
  | none => cases h; exact simo_none
  | some e =>
    have h : (match f e with
      | some x => some (oSome x)
      | none => none) = some t := h
    split at h
    · rename_i x e1
      cases h
      exact simo_some (hf e x e1)
    · cases h
theorem bi_boot : ∀ b : Bi, bootBuiltins (biName b) = some (biV b) ∧ biName b ≠ "__name__" ∧ (biName b == ("__debug__" : Str)) = false := by
  intro b
  cases b <;> exact ⟨by decide +kernel, by decide +kernel, by decide +kernel⟩
theorem ty_boot : ∀ t : Ty, bootBuiltins (tyName t) = some (.type (tyS t)) ∧ tyName t ≠ "__name__" ∧ (tyName t == ("__debug__" : Str)) = false := by
  intro t
  cases t <;> exact ⟨by decide +kernel, by decide +kernel, by decide +kernel⟩
theorem isi_boot : bootBuiltins "isinstance" = some (.builtin "isinstance") := by decide +kernel
theorem find_sat {α : Type} {p : α → Bool} {l : List α} {a : α} (h : l.find? p = some a) : p a = true ∧ a ∈ l := ⟨List.find?_some h, List.mem_of_find?_eq_some h⟩
theorem denCall_ok (xo : XOk G ca fa fd pn cf k sx X W) {f : Expr → Option SE} (hf : ∀ e t, f e = some t → SimE X ca W cf e t) {x : Str} {p pos : Pos} {args : List Expr} {kws : List Keyword} {t : SE} (h : denCall G sx f x args kws = some t) :
    SimE X ca W cf (.Call (.Name x p) args kws pos) t := by
  unfold denCall at h
  split at h
  · rename_i hc
    obtain ⟨hd, hg, hcalm⟩ := hc
    have gl := glo_ok xo hg
    split at h
    · rename_i i hi
      obtain ⟨g1, g2, g3⟩ := xo.glob.gf x i hi
      split at h
      · split at h
        · rename_i xs e1
          cases h
          obtain ⟨a1, a2, a3, a4⟩ := argL_ok hf e1
          cases args with
          | nil =>
            rw [a4 rfl]
            exact sim_call0 (xo.defs i) (xo.room hcalm) gl g1 g2 g3 xo.tk hd
          | cons e es => exact sim_call (xo.defs i) (xo.room hcalm) gl g1 g2 g3 xo.tk a2 hd a1
        · cases h
      · split at h
        · rename_i ns xs zs e1 e2 e3
          split at h
          · rename_i q hq
            cases h
            obtain ⟨b1, b2⟩ := find_sat hq
            have b1 := of_decide_eq_true b1
            obtain ⟨rfl, c2, rfl⟩ := b1
            have gk := xo.glob.gk q b2
            rw [c2] at gk
            obtain ⟨a1, a2, a3, a4⟩ := argL_ok hf e2
            obtain ⟨k1, k2⟩ := kwNames_ok e1
            obtain ⟨z1, z2⟩ := kwL_ok hf e3
            rw [← k2] at z2
            exact sim_callK (xo.defs q.1) (xo.room hcalm) gl g1 g2 gk xo.tk a2 hd k1 a4 a1 a3 z1 z2
          · cases h
        · cases h
    · split at h
      · rename_i hfree
        have hm := xo.glob.gn x (of_decide_eq_true hfree)
        split at h
        · split at h
          · rename_i hx
            subst hx
            split at h
            · rename_i a y p'
              split at h
              · rename_i hy
                obtain ⟨y1, y2, y3⟩ := hy
                split at h
                · rename_i t' sa e1 e2
                  cases h
                  have b1 := of_decide_eq_true (find_sat e1).1
                  subst b1
                  obtain ⟨t1, t2, t3⟩ := ty_boot t'
                  exact sim_isi rfl gl hm isi_boot (glo_ok xo y1) (xo.glob.gn _ (of_decide_eq_true y2)) t1 t2 t3 y3 (hf a sa e2)
                · cases h
              · cases h
            · cases h
          · split at h
            · rename_i b xs e1 e2
              cases h
              have b1 := of_decide_eq_true (find_sat e1).1
              obtain ⟨rfl, b2⟩ := b1
              obtain ⟨t1, t2, t3⟩ := bi_boot b
              obtain ⟨a1, a2, a3, a4⟩ := argL_ok hf e2
              cases args with
              | nil => cases b <;> cases b2
              | cons e es => exact sim_bi (xo.calm hcalm) gl hm t1 t2 t3 a2 a1
            · cases h
        · cases h
      · cases h
  · cases h
theorem denG_ok (xo : XOk G ca fa fd pn cf k sx X W) {e : Expr} {g : TGT} {is : List Nat} (h : denG sx e = some (g, is)) : ∃ i, g = gVar i ∧ is = [i] ∧ L2.PG X e (gName i) ∧ ∃ x p, e = .Name x p ∧ X.N[i]? = some x ∧ Loc X.env.scope x ∧ (X.fn x = true ∨ X.env.scope.names.lookup x = some .local) := by
  unfold denG at h
  split at h
  · rename_i x p
    split at h
    · rename_i i hi
      split at h
      · rename_i hl
        cases h
        have hN : X.N[i]? = some x := by rw [xo.N]; exact idx_ok hi
        have lo : Loc X.env.scope x ∧ (X.fn x = true ∨ X.env.scope.names.lookup x = some .local) := by
          rw [xo.sc, xo.fn]
          rcases hl with hl | hl
          · have := of_decide_eq_true hl
            exact ⟨.inl this, .inr this⟩
          · have := of_decide_eq_true hl.1
            exact ⟨.inr this, .inl hl.2⟩
        exact ⟨i, rfl, rfl, pg_name (by rw [xo.N]; exact xo.nd) hN lo.1 lo.2, x, p, rfl, hN, lo.1, lo.2⟩
      · cases h
    · cases h
  · cases h
theorem denI_ok (xo : XOk G ca fa fd pn cf k sx X W) {f : Expr → Option SE} (hf : ∀ e t, f e = some t → SimE X ca W cf e t) {tg e : Expr} {t : SI} (h : denI G sx f e = some t) : SimI X ca W cf tg e t := by
  unfold denI at h
  split at h
  · rename_i x p args pos
    split at h
    · rename_i hx
      split at h
      · rename_i hc
        obtain ⟨c1, c2, c3⟩ := hc
        split at h
        · rename_i xs e1
          cases h
          obtain ⟨a1, a2, a3, a4⟩ := argL_ok hf e1
          have hm := xo.glob.gn x (of_decide_eq_true c2)
          match args, c3, a1, a2, a3 with
          | [a], _, a1, a2, a3 =>
            simp only [List.all_cons, List.all_nil, Bool.and_true] at a2
            exact simi_rng1 hx (glo_ok xo c1) hm a2 a1 a3
          | [a, b], _, a1, a2, a3 =>
            simp only [List.all_cons, List.all_nil, Bool.and_true, Bool.and_eq_true] at a2
            exact simi_rng2 hx (glo_ok xo c1) hm a2.1 a2.2 a1 a3
          | [], c3, _, _, _ => simp at c3
          | _ :: _ :: _ :: _, c3, _, _, _ => simp at c3
        · cases h
      · cases h
    · split at h
      · rename_i x' e1
        cases h
        exact simi_val (hf _ _ e1)
      · cases h
  · split at h
    · rename_i x' e1
      cases h
      exact simi_val (hf _ _ e1)
    · cases h
theorem all_mem {is : List Nat} {l : List Nat} (h : is.all (fun i => decide (i ∈ l)) = true) : ∀ i ∈ is, i ∈ l := fun i hi => of_decide_eq_true (List.all_eq_true.mp h i hi)
def DenE (G : Gx) (ca : Nat → Addr) (fa : Nat → Addr) (fd : Nat → FuncData) (pn : Nat → List Str) (cf : CallT) (k n : Nat) : Prop := ∀ (sx : Sx) (X : Cx) (W : WX), XOk G ca fa fd pn cf k sx X W → ∀ e t, denE G n sx e = some t → SimE X ca W cf e t
def DenT (G : Gx) (ca : Nat → Addr) (fa : Nat → Addr) (fd : Nat → FuncData) (pn : Nat → List Str) (cf : CallT) (k n : Nat) : Prop := ∀ (sx : Sx) (X : Cx) (W : WX), XOk G ca fa fd pn cf k sx X W → ∀ e t, denT G n sx e = some t → SimT X ca W cf e t
def DenTs (G : Gx) (ca : Nat → Addr) (fa : Nat → Addr) (fd : Nat → FuncData) (pn : Nat → List Str) (cf : CallT) (k n : Nat) : Prop := ∀ (sx : Sx) (X : Cx) (W : WX), XOk G ca fa fd pn cf k sx X W → ∀ e t, denTs G n sx e = some t → SimTs X ca W cf e t
theorem denE_step {n : Nat} (ihE : DenE G ca fa fd pn cf k n) (ihT : DenT G ca fa fd pn cf k n) (ihTs : DenTs G ca fa fd pn cf k n) : DenE G ca fa fd pn cf k (n + 1) := by
  intro sx X W xo e t h
  have hf := ihE sx X W xo
  unfold denE at h
  split at h
  · cases h; exact sim_cst pe_non fun _ _ => .non
  · cases h; exact sim_cst pe_bl fun _ _ => .bl _
  · cases h; exact sim_cst pe_int fun _ _ => .int _
  · rename_i s _ _
    split at h
    · rename_i l e1
      cases h
      have := strOf_ok e1
      subst this
      exact sim_cst pe_str fun _ _ => .str _
    · cases h
  · rename_i x _
    split at h
    · rename_i hd
      split at h
      · rename_i hv
        split at h
        · rename_i i hi
          cases h
          exact sim_var (by rw [xo.N]; exact idx_ok hi) (by rw [xo.sc]; exact vis_ok hv) hd.1 hd.2
        · cases h
      · split at h
        · rename_i hg
          split at h
          · rename_i d hd'
            cases h
            obtain ⟨v, u, h1, h2, h3⟩ := xo.glob.gc x d hd'
            exact sim_cst (pe_glob (glo_ok xo hg) h1 h2 hd.1) h3
          · cases h
        · cases h
    · cases h
  · split at h
    · rename_i xs e1
      cases h
      exact sim_tup (argL_ok hf e1).1
    · cases h
  · split at h
    · rename_i xs e1
      cases h
      exact sim_lst (argL_ok hf e1).1
    · cases h
  · split at h
    · rename_i p x y e1 e2 e3
      cases h
      exact sim_op2 (op_ok e1) (hf _ _ e2) (hf _ _ e3)
    · cases h
  · split at h
    · rename_i x e1
      cases h
      exact sim_neg (hf _ _ e1)
    · cases h
  · split at h
    · rename_i x e1
      cases h
      exact sim_not (hf _ _ e1)
    · cases h
  · split at h
    · rename_i hs
      split at h
      · rename_i p x y e1 e2 e3
        cases h
        exact sim_cmp (cmp_ok xo.units e1) hs (hf _ _ e2) (hf _ _ e3)
      · cases h
    · cases h
  · split at h
    · rename_i hs
      split at h
      · rename_i p p' x y z e1 e2 e3 e4 e5
        cases h
        exact sim_chain (cmp_ok xo.units e1) (cmp_ok xo.units e2) hs.1 hs.2 (hf _ _ e3) (hf _ _ e4) (hf _ _ e5)
      · cases h
    · cases h
  · exact andL_ok hf h
  · exact orL_ok hf h
  · split at h
    · rename_i t' x y e1 e2 e3
      cases h
      exact sim_ite (ihT sx X W xo _ _ e1) (hf _ _ e2) (hf _ _ e3)
    · cases h
  · split at h
    · rename_i x l u e1 e2 e3
      cases h
      exact sim_sl (hf _ _ e1) (denOpt_ok hf e2) (denOpt_ok hf e3)
    · cases h
  · split at h
    · rename_i hi
      subst hi
      split at h
      · rename_i x e1
        cases h
        exact sim_rev (hf _ _ e1)
      · cases h
    · cases h
  · split at h
    · rename_i hs
      split at h
      · rename_i x y e1 e2
        cases h
        exact sim_ix hs (hf _ _ e1) (hf _ _ e2)
      · cases h
    · cases h
  · exact denCall_ok xo hf h
  · rename_i o m apos args cpos
    split at h
    · rename_i hc
      obtain ⟨c1, c2, c3⟩ := hc
      split at h
      · rename_i b x xs e1 e2 e3
        cases h
        have b1 := of_decide_eq_true (find_sat e1).1
        subst b1
        obtain ⟨a1, a2, a3, a4⟩ := argL_ok hf e3
        cases args with
        | nil => rw [a4 rfl]; exact sim_bm0 c1 c2 (hf _ _ e2)
        | cons e es => exact sim_bm c1 c2 a2 c3 (hf _ _ e2) a1
      · cases h
    · cases h
  · rename_i elt tg it ifs a scope pos
    split at h
    · rename_i hc
      obtain ⟨rfl, c2, c3, c4⟩ := hc
      split at h
      · rename_i g is si t' x e1 e2 e3 e4
        split at h
        · rename_i hall
          cases h
          intro ρ hh σ μ H Q rr rh an
          have ok := blkOk_by c3
          have hg : ∀ (s : Shared) (H : Hp) (C : Addr) (cl : List (Str × Addr)) (fp : List Addr), ∃ i, g = gVar i ∧ is = [i] ∧ L2.PG (X.blk s H scope (compEnvC scope cl C X.env) fp) tg (gName i) := fun s H C cl fp => by
            obtain ⟨i, h1, h2, h3, _⟩ := denG_ok (xo.blk scope s H C cl fp) e1
            exact ⟨i, h1, h2, h3⟩
          obtain ⟨i, rfl, rfl⟩ : ∃ i, g = gVar i ∧ is = [i] := by
            unfold denG at e1
            split at e1
            · split at e1
              · split at e1
                · cases e1; exact ⟨_, rfl, rfl⟩
                · cases e1
              · cases e1
            · cases e1
          have lc := sim_lc (pos := pos) (own := ownOf sx.N scope) (X := X) (ca := ca) (W := W) (cf := cf) (xo.calm c2) (by rw [xo.N]; exact xo.nd) (by rw [xo.N, xo.sc]; exact ok) c4 (denI_ok xo hf e2) (is := [i]) (g := gVar i) (tgr := gName i)
            (fun s H C cl fp => by
              obtain ⟨j, h1, h2, h3⟩ := hg s H C cl fp
              cases h2
              exact h3) gok_name (all_mem hall)
            (fun s H C cl fp => ihTs _ _ _ (xo.blk scope s H C cl fp) _ _ e3) (fun s H C cl fp => ihE _ _ _ (xo.blk scope s H C cl fp) _ _ e4)
          exact bE_of lc.1 (lc.2 rr rh an)
        · cases h
      · cases h
    · cases h
  · cases h
theorem denT_step {n : Nat} (ihE : DenE G ca fa fd pn cf k n) (ihT : DenT G ca fa fd pn cf k n) : DenT G ca fa fd pn cf k (n + 1) := by
  intro sx X W xo e t h
  have hf := ihE sx X W xo
  unfold denT at h
  split at h
  · split at h
    · rename_i x e1
      cases h
      exact simt_not (ihT sx X W xo _ _ e1)
    · cases h
  · exact simt_w (andT_ok (ihT sx X W xo) h)
  · exact simt_w (orT_ok (ihT sx X W xo) h)
  · split at h
    · rename_i hs
      split at h
      · rename_i p x y e1 e2 e3
        cases h
        exact sim_cmpT (cmp_ok xo.units e1) hs (hf _ _ e2) (hf _ _ e3)
      · cases h
    · cases h
  · split at h
    · rename_i hp
      split at h
      · rename_i x e1
        cases h
        exact simt_tru hp (hf _ _ e1)
      · cases h
    · cases h
theorem denTs_step {n : Nat} (ihT : DenT G ca fa fd pn cf k n) : DenTs G ca fa fd pn cf k (n + 1) := by
  intro sx X W xo e t h
  cases e with
  | nil => cases h; exact simts_nil
  | cons c r =>
    cases r with
    | nil => exact simts_one (ihT sx X W xo _ _ h)
    | cons _ _ => cases h
theorem den_all : ∀ n, DenE G ca fa fd pn cf k n ∧ DenT G ca fa fd pn cf k n ∧ DenTs G ca fa fd pn cf k n
  | 0 => ⟨fun _ _ _ _ _ _ h => (nomatch h), fun _ _ _ _ _ _ h => (nomatch h), fun _ _ _ _ _ _ h => (nomatch h)⟩
  | n + 1 => let ⟨a, b, c⟩ := den_all n; ⟨denE_step a b c, denT_step a b, denTs_step b⟩
theorem seqL_ok {f : Stmt → Option SS} (hf : ∀ s t, f s = some t → SimS X ca W cf s t) : ∀ {ss : List Stmt} {t : SS}, seqL f ss = some t → SimSs X ca W cf ss t
  | [], _, h => by cases h; exact sims_nil
  | s :: r, t, h => by
    unfold seqL at h
    split at h
    · rename_i x y e1 e2
      cases h
      exact sims_cons (hf s x e1) (seqL_ok hf e2)
    · cases h
theorem denS_all : ∀ n (sx : Sx) (X : Cx) (W : WX), XOk G ca fa fd pn cf k sx X W → ∀ s t, denS G n sx s = some t → SimS X ca W cf s t
  | 0, _, _, _, _, _, _, h => nomatch h
  | n + 1, sx, X, W, xo, s, t, h => by
    obtain ⟨ihE, ihT, ihTs⟩ := den_all (G := G) (ca := ca) (fa := fa) (fd := fd) (pn := pn) (cf := cf) (k := k) n
    have hf := ihE sx X W xo
    have hS := denS_all n sx X W xo
    unfold denS at h
    split at h
    · cases h; exact sim_pass
    · cases h; exact sim_brk
    · cases h; exact sim_cnt
    · split at h
      · rename_i hn
        split at h
        · rename_i x e1
          cases h
          exact sim_expr hn (hf _ _ e1)
        · cases h
      · cases h
    · split at h
      · rename_i x e1
        cases h
        exact sim_ret (hf _ _ e1)
      · cases h
    · cases h; exact sim_retN
    · split at h
      · rename_i t' x y e1 e2 e3
        cases h
        exact sim_if (ihT sx X W xo _ _ e1) (seqL_ok hS e2) (seqL_ok hS e3)
      · cases h
    · rename_i x p' e pos
      split at h
      · rename_i g is eg
        obtain ⟨i, rfl, rfl, _, x', q', ex, h1, h2, h3⟩ := denG_ok xo eg
        cases ex
        split at h
        · rename_i hn
          split at h
          · rename_i y e1
            cases h
            exact sim_set (by rw [xo.N]; exact xo.nd) h1 h2 h3 hn (hf _ _ e1)
          · cases h
        · split at h
          · rename_i hl
            split at h
            · rename_i y e1
              cases h
              unfold denLc at e1
              split at e1
              · rename_i elt tg it ifs a scope lpos _
                split at e1
                · rename_i hc
                  obtain ⟨rfl, c2, c3, c4, c5, c6⟩ := hc
                  split at e1
                  · rename_i g is si t' x2 f1 f2 f3 f4
                    split at e1
                    · rename_i hall
                      cases e1
                      have ok := blkOk_by c3
                      obtain ⟨j, rfl, rfl⟩ : ∃ j, g = gVar j ∧ is = [j] := by
                        unfold denG at f1
                        split at f1
                        · split at f1
                          · split at f1
                            · cases f1; exact ⟨_, rfl, rfl⟩
                            · cases f1
                          · cases f1
                        · cases f1
                      exact sim_setLc (own := ownOf sx.N scope) (is := [j]) (g := gVar j) (tgr := gName j) h1 (by rw [xo.sc]; exact of_decide_eq_true hl.1) (by rw [xo.sc]; exact of_decide_eq_true hl.2) c5 c6 (xo.calm c2) (by rw [xo.N]; exact xo.nd) (by rw [xo.N, xo.sc]; exact ok) c4 (denI_ok xo hf f2)
                        (fun s H C cl fp => by
                          obtain ⟨j', g1, g2, g3, _⟩ := denG_ok (xo.blk scope s H C cl fp) f1
                          cases g2
                          exact g3) gok_name (all_mem hall)
                        (fun s H C cl fp => ihTs _ _ _ (xo.blk scope s H C cl fp) _ _ f3) (fun s H C cl fp => ihE _ _ _ (xo.blk scope s H C cl fp) _ _ f4)
                    · cases e1
                  · cases e1
                · cases e1
              · cases e1
            · cases h
          · cases h
      · cases h
    · split at h
      · rename_i hc
        split at h
        · rename_i x y z e1 e2 e3
          cases h
          exact sim_setIx hc.1 hc.2 (hf _ _ e3) (hf _ _ e1) (hf _ _ e2)
        · cases h
      · cases h
    · split at h
      · rename_i hc
        split at h
        · rename_i g is si b e1 e2 e3
          cases h
          obtain ⟨i, rfl, rfl, h3, _⟩ := denG_ok xo e1
          exact sim_for xo.po (xo.calm hc.1) hc.2 (denI_ok xo hf e2) h3 gok_name (seqL_ok hS e3)
        · cases h
      · cases h
    · split at h
      · rename_i t' b e1 e2
        cases h
        exact sim_while xo.po (ihT sx X W xo _ _ e1) (seqL_ok hS e2)
      · cases h
    · cases h
end
end Pm

set_option maxRecDepth 100000
set_option maxHeartbeats 1000000
noncomputable section
namespace Pm
open PySem PySem.Spec PyProof.Rows L2

/-! ## 19. Every def of the text keeps the machine's promise -/
structure FE where
  name : Str
  qual : Str
  st : Stmt
  ps : List Str
  N : List Str
  body : SS
def fbOf (T : List FE) (i : Nat) : Option FB := match T[i]? with
  | some e => some ⟨e.ps.length, e.N.length, e.body⟩
  | none => none
def pnOf (T : List FE) (i : Nat) : List Str := match T[i]? with
  | some e => e.ps
  | none => []
def sx0 (e : FE) : Sx := ⟨e.N, defScope e.st, true, fun _ => true⟩
structure FOk (G : Gx) (K : PySem.W.Frag) (e : FE) (f : Addr) (fd : FuncData) : Prop where
  fn : Fun K e.name e.qual e.st f fd
  sc : FnScope e.N e.ps (defScope e.st)
  den : seqL (denS G 60 (sx0 e)) (defBody e.st) = some e.body
theorem rel_start {K : PySem.W.Frag} {μ : List Addr} {H : Hp} {ds : List D} {vs : List V} (r : RelDs K μ H ds vs) (N : List Str) : RelR K μ H (start' N.length ds) (L2.start N vs) := by
  unfold start' L2.start
  refine ⟨by simp only [List.length_append, List.length_map, List.length_replicate]; rw [r.length], fun i d h => ?_⟩
  by_cases hi : i < ds.length
  · rw [List.getElem?_append_left (by simpa using hi), List.getElem?_map] at h
    cases q : ds[i]? with
    | none => rw [q] at h; cases h
    | some d' =>
      rw [q] at h
      cases h
      obtain ⟨v, h1, h2⟩ := r.get q
      refine ⟨v, ?_, h2⟩
      rw [List.getElem?_append_left (by rw [List.length_map, ← r.length]; exact hi), List.getElem?_map, h1]
      rfl
  · rw [List.getElem?_append_right (by simpa using hi), List.getElem?_replicate] at h
    split at h <;> cases h
theorem sound {P : Program} {w : World} {K : PySem.W.Frag} {mg : Str → Option Value} {base : Heap} {T : List FE} {G : Gx} {ca fa : Nat → Addr} {fd : Nat → FuncData} (gl : Glob G fa fd (pnOf T) K mg) (ok : ∀ i e, T[i]? = some e → FOk G K e (fa i) (fd i)) :
    ∀ k i, FnOk P w K mg base (L2.CX P w) k (fa i) (fd i) (pnOf T i) (spA K ca (callF (fbOf T) k i))
  | 0, i => ⟨fun vs H Q E ⟨μ, ds, h, _, _, an⟩ => an.elim, fun A outer s H args us vs Q E _ _ _ _ ⟨μ, ds, h, _, _, an⟩ => an.elim⟩
  | k + 1, i => by
    cases q : T[i]? with
    | none =>
      have fb : fbOf T i = none := by unfold fbOf; rw [q]
      have no : ∀ {μ H E Q ds h}, Ans K ca (RelD K) E μ H (callF (fbOf T) (k + 1) i ds h) Q → False := fun {μ H E Q ds h} an => by
        unfold callF at an
        rw [fb] at an
        exact an
      exact ⟨fun vs H Q E ⟨μ, ds, h, _, _, an⟩ => (no an).elim, fun A outer s H args us vs Q E _ _ _ _ ⟨μ, ds, h, _, _, an⟩ => (no an).elim⟩
    | some e =>
      have fb : fbOf T i = some ⟨e.ps.length, e.N.length, e.body⟩ := by unfold fbOf; rw [q]
      have pn : pnOf T i = e.ps := by unfold pnOf; rw [q]
      have fo := ok i e q
      have go : ∀ {μ H E Q ds h}, Ans K ca (RelD K) E μ H (callF (fbOf T) (k + 1) i ds h) Q → ds.length = e.ps.length ∧ Ans K ca (RelD K) E μ H (e.body (callF (fbOf T) k) (start' e.N.length ds) h).out Q := fun {μ H E Q ds h} an => by
        unfold callF at an
        rw [fb] at an
        simp only at an
        split at an
        · rename_i hl; exact ⟨hl, an⟩
        · exact an.elim
      rw [pn]
      refine Fun.okX fo.fn fo.sc (fun vs H Q E ⟨μ, ds, h, rd, _, an⟩ => by rw [← rd.length]; exact (go an).1) fun cdv A outer s H vs Q E hr ⟨μ, ds, h, rd, rh, an⟩ => ?_
      obtain ⟨hl, an⟩ := go an
      refine ⟨_, bSs_ok, ?_⟩
      have xo : XOk G ca fa fd (pnOf T) (callF (fbOf T) k) k (sx0 e) (cxOf (L2.CX P w) P w K mg base e.N e.qual (defScope e.st) (fa i) cdv A outer s H E) (fun cls d _ H => E cls d H) :=
        ⟨rfl, rfl, fo.sc.nd, rfl, fun _ => rfl, fun _ => hr, by have := hr.un; show (A.deeper (envOfC e.qual (defScope e.st) s.heap.objs.size (fa i) cdv)).units + 65 < cLine; omega, takes_of rfl rfl rfl rfl, passes_of rfl, fun j => sound gl ok k j, gl⟩
      have sim := seqL_ok (denS_all 60 (sx0 e) _ _ xo) fo.den
      refine sim (D := { nx := fun _ H' => Q .non H', rt := Q }) (rel_start rd e.N) rh ?_
      cases qb : e.body (callF (fbOf T) k) (start' e.N.length ds) h with
      | next ρ1 h1 => rw [qb] at an; exact fun σ' μ' H' e' _ rh' => an .non μ' H' e' .non rh'
      | ret d h1 => rw [qb] at an; exact an
      | exc c fs ρ1 h1 => rw [qb] at an; exact fun d σ' μ' H' e' x _ rh' => an d μ' H' e' x rh'
      | brk ρ1 h1 => rw [qb] at an; exact an.elim
      | cnt ρ1 h1 => rw [qb] at an; exact an.elim
      | bad => rw [qb] at an; exact an.elim

/-! ## 20. A law's end -/
/-- what the law's run must be -/
def LawRuns (T : List FE) (k i : Nat) : Prop := ∀ ns : List Int, ns.length ≤ 63 → ∃ h, callF (fbOf T) k i [.kl (ns.map D.int)] [] = .ok (.bl true) h
theorem ints_rel {K : PySem.W.Frag} {μ : List Addr} {H : Hp} : ∀ ns : List Int, RelDs K μ H (ns.map D.int) (ns.map V.int)
  | [] => .nil
  | _ :: ns => .cons (.int _) (ints_rel ns)
theorem law_sp {T : List FE} {k i : Nat} (L : LawRuns T k i) {K : PySem.W.Frag} {ca : Nat → Addr} {H : Hp} {a : Addr} {ns : List Int} (hl : ns.length ≤ 63) (hO : Only H) (hS : SqL K H a (ns.map V.int)) : spA K ca (callF (fbOf T) k i) [.ref a] H (fun v _ => v = .bl true) (fun _ _ _ => False) := by
  obtain ⟨h, e⟩ := L ns hl
  have sk : SqK K H a (ns.map V.int) := by
    rcases hS with (hS | ⟨o, hS⟩) | hS
    · rcases hO a with z | ⟨o, xs, z⟩
      · rw [hS] at z; cases z
      · rw [hS] at z; cases z
    · exact .inl ⟨o, hS⟩
    · exact .inr hS
  refine ⟨[], [.kl (ns.map D.int)], [], .cons (.kl sk (ints_rel ns)) .nil, ⟨rfl, List.nodup_nil, fun n o a h => by simp at h⟩, ?_⟩
  rw [e]
  intro v μ' H' _ r _
  cases r
  rfl
theorem no_exc {P : Program} {w : World} (H : Hp) (s : Shared) (e : Value) (s' : Shared) : L2.CX P w [] H s (fun _ _ _ => False) e s' → False := fun ⟨_, _, _, _, _, _, _, _, _, _, _, _, z⟩ => z
end Pm

set_option maxRecDepth 100000
set_option maxHeartbeats 1000000
noncomputable section
namespace Pm
open PySem PySem.Spec PyProof.Rows L2

/-! ## 21. Facts of a text, by lists -/
def AllP {α : Type} (P : α → Prop) : List α → Prop
  | [] => True
  | a :: l => P a ∧ AllP P l
theorem AllP.mem {α : Type} {P : α → Prop} : ∀ {l : List α}, AllP P l → ∀ a ∈ l, P a
  | _ :: _, ⟨h, _⟩, _, .head _ => h
  | _ :: _, ⟨_, t⟩, a, .tail _ m => AllP.mem t a m
theorem AllP.lookup {β : Type} {P : Str × β → Prop} : ∀ {l : List (Str × β)}, AllP P l → ∀ x b, l.lookup x = some b → P (x, b)
  | [], _, x, b, h => by cases h
  | (y, c) :: l, ⟨h, t⟩, x, b, e => by
    rw [List.lookup_cons] at e
    split at e
    · rename_i q
      cases e
      rw [beq_iff_eq] at q
      subst q
      exact h
    · exact AllP.lookup t x b e
def All3 (G : Gx) (K : PySem.W.Frag) : List FE → List Addr → List FuncData → Prop
  | [], _, _ => True
  | e :: es, f :: fs, d :: ds => FOk G K e f d ∧ All3 G K es fs ds
  | _ :: _, _, _ => False
theorem All3.get {G : Gx} {K : PySem.W.Frag} {d0 : FuncData} : ∀ {es : List FE} {fs : List Addr} {ds : List FuncData}, All3 G K es fs ds → ∀ i e, es[i]? = some e → FOk G K e (fs.getD i 0) (ds.getD i d0)
  | [], _, _, _, i, e, h => by simp at h
  | e :: es, f :: fs, d :: ds, ⟨h, t⟩, 0, e', q => by
    have : e = e' := Option.some.inj q
    subst this
    exact h
  | e :: es, f :: fs, d :: ds, ⟨h, t⟩, i + 1, e', q => by
    have := All3.get (d0 := d0) t i e' (by simpa using q)
    simpa using this
  | _ :: _, [], _, h, _, _, _ => h.elim
  | _ :: _, _ :: _, [], h, _, _, _ => h.elim
/-- keywords: h by a match on the values -/
theorem kw_mk {K : PySem.W.Frag} {x qual : Str} {st : Stmt} {f : Addr} {fd : FuncData} {ps ks : List Str} {n : Nat} {perm : List Nat} (F : Fun K x qual st f fd)
    (h : ∀ (kV doc pm : Value) (an : Option Addr) (cdv ct : Value) (us ws : List Value), us.length = n → ws.length = ks.length → bindArgs (PySem.W.fnOf x qual (defArgs st) (defBody st) (defScope st) .none kV doc pm an cdv ct) ⟨us, ks.zip ws⟩ = pure (ps.zip (pick perm (us ++ ws)))) : KwOk K fd ps n ks perm := by
  obtain ⟨oc, od, kV, doc, pm, an, cdv, ct, osl, rfl, lk, hcd⟩ := F.ex
  exact fun s us ws _ h1 h2 => .of_eq (h kV doc pm an cdv ct us ws h1 h2)
/-! constants -/
def CstOk (K : PySem.W.Frag) (mg : Str → Option Value) (q : Str × D) : Prop := ∃ v u, mg q.1 = some u ∧ RelV v u ∧ ∀ μ H, RelD K μ H q.2 v
theorem cst_int {K : PySem.W.Frag} {mg : Str → Option Value} {x : Str} {i : Int} {t : Tok} (h : mg x = some (.int i t)) : CstOk K mg (x, .int i) := ⟨.int i, _, h, ⟨_, rfl⟩, fun _ _ => .int i⟩
theorem cst_str {K : PySem.W.Frag} {mg : Str → Option Value} {x s : Str} {l : List Char} {t : Tok} (h : mg x = some (.str s t)) (e : toS l = s) : CstOk K mg (x, .str l) := ⟨.str s, _, h, ⟨_, rfl⟩, fun _ _ => e ▸ .str l⟩
/-- a tuple of texts and numbers -/
inductive RelC : List D → List Value → Prop
  | nil : RelC [] []
  | str {l : List Char} {s : Str} {t : Tok} {ds : List D} {us : List Value} : toS l = s → RelC ds us → RelC (.str l :: ds) (.str s t :: us)
  | int {i : Int} {t : Tok} {ds : List D} {us : List Value} : RelC ds us → RelC (.int i :: ds) (.int i t :: us)
theorem RelC.vals {K : PySem.W.Frag} : ∀ {ds : List D} {us : List Value}, RelC ds us → ∃ vs, Vals vs us ∧ ∀ μ H, RelDs K μ H ds vs
  | _, _, .nil => ⟨[], .nil, fun _ _ => .nil⟩
  | _, _, .str (l := l) (t := t) e r => by
    obtain ⟨vs, h1, h2⟩ := RelC.vals r (K := K)
    subst e
    exact ⟨.str (toS l) :: vs, .cons ⟨t, rfl⟩ h1, fun μ H => .cons (.str l) (h2 μ H)⟩
  | _, _, .int (i := i) (t := t) r => by
    obtain ⟨vs, h1, h2⟩ := RelC.vals r (K := K)
    exact ⟨.int i :: vs, .cons ⟨t, rfl⟩ h1, fun μ H => .cons (.int i) (h2 μ H)⟩
theorem cst_tup {K : PySem.W.Frag} {mg : Str → Option Value} {x : Str} {a : Addr} {ds : List D} {us : List Value} {dd : Option Addr} {n : Nat} {sl : Array (Option Value)} (h : mg x = some (.ref a)) (l : K.lookup a = some ⟨.type "tuple", dd, .seq us.toArray n, sl⟩) (r : RelC ds us) (hz : ds.length ≤ 1000) : CstOk K mg (x, .tup ds) := by
  obtain ⟨vs, h1, h2⟩ := r.vals (K := K)
  refine ⟨.ref a, _, h, rfl, fun μ H => .tup (.inr ⟨_, us.toArray, n, l, rfl, rfl, ?_, by simpa using h1⟩) (h2 μ H)⟩
  have := (h2 μ H).length
  rw [List.size_toArray, ← h1.length, ← this]
  exact Nat.le_trans hz (by decide)
/-- all facts of a text give the law's promise -/
theorem all_ok {T : List FE} {G : Gx} {K : PySem.W.Frag} {mg : Str → Option Value} {fas : List Addr} {fds : List FuncData} {d0 : FuncData} {ca : Nat → Addr} (h3 : All3 G K T fas fds)
    (hf : AllP (fun q : Str × Nat => mg q.1 = some (.ref (fas.getD q.2 0)) ∧ PySem.W.keepIn K (.ref (fas.getD q.2 0)) = true ∧ Binds K (fds.getD q.2 d0) (pnOf T q.2) []) G.fns)
    (hk : AllP (fun q : Nat × Nat × List Str × List Nat => KwOk K (fds.getD q.1 d0) (pnOf T q.1) q.2.1 q.2.2.1 q.2.2.2) G.kws) (hc : AllP (CstOk K mg) G.cst) (hn : AllP (fun x => mg x = none) G.free)
    {P : Program} {w : World} {base : Heap} (k i : Nat) : FnOk P w K mg base (L2.CX P w) k (fas.getD i 0) (fds.getD i d0) (pnOf T i) (spA K ca (callF (fbOf T) k i)) :=
  sound (fa := fun i => fas.getD i 0) (fd := fun i => fds.getD i d0) ⟨fun x i h => hf.lookup x i h, fun q h => hk.mem q h, fun x d h => hc.lookup x d h, fun x h => hn.mem x h⟩ (fun i e h => All3.get h3 i e h) k i
end Pm

set_option maxRecDepth 100000
set_option maxHeartbeats 1000000
noncomputable section
namespace Pm
open PySem L2

/-! ## 22. Reasoning about runs -/
theorem forL_ind {st : AH → Bool} {g : TGT} {body : Env' → AH → RS} (P : List D → Env' → AH → Prop) (R : RS → Prop) (hst : ∀ xs ρ h, P xs ρ h → st h = true) (hnil : ∀ ρ h, P [] ρ h → R (.next ρ h))
    (hstep : ∀ x xs ρ h, P (x :: xs) ρ h → ∃ ρ1, g x ρ = some ρ1 ∧ ((∃ ρ2 h2, (body ρ1 h = .next ρ2 h2 ∨ body ρ1 h = .cnt ρ2 h2) ∧ P xs ρ2 h2) ∨ (∃ ρ2 h2, body ρ1 h = .brk ρ2 h2 ∧ R (.next ρ2 h2)) ∨
      (∃ d h2, body ρ1 h = .ret d h2 ∧ R (.ret d h2)) ∨ ∃ c fs ρ2 h2, body ρ1 h = .exc c fs ρ2 h2 ∧ R (.exc c fs ρ2 h2))) :
    ∀ xs ρ h, P xs ρ h → R (forL st g body xs ρ h)
  | [], ρ, h, p => by
    unfold forL
    rw [if_pos (hst _ _ _ p)]
    exact hnil ρ h p
  | x :: xs, ρ, h, p => by
    unfold forL
    rw [if_pos (hst _ _ _ p)]
    obtain ⟨ρ1, hg, q⟩ := hstep x xs ρ h p
    rw [hg]
    rcases q with ⟨ρ2, h2, e, q⟩ | ⟨ρ2, h2, e, q⟩ | ⟨d, h2, e, q⟩ | ⟨c, fs, ρ2, h2, e, q⟩
    · rcases e with e | e <;> simp only [e] <;> exact forL_ind P R hst hnil hstep xs ρ2 h2 q
    · simp only [e]; exact q
    · simp only [e]; exact q
    · simp only [e]; exact q
theorem whileL_ind {t : Env' → M Bool} {body : Env' → AH → RS} (P : Nat → Env' → AH → Prop) (R : RS → Prop)
    (hstep : ∀ m ρ h, P m ρ h → (∃ h1, t ρ h = .ok false h1 ∧ R (.next ρ h1)) ∨ (∃ h1, t ρ h = .ok true h1 ∧ ((∃ m' ρ2 h2, m = m' + 1 ∧ (body ρ h1 = .next ρ2 h2 ∨ body ρ h1 = .cnt ρ2 h2) ∧ P m' ρ2 h2) ∨ (∃ ρ2 h2, body ρ h1 = .brk ρ2 h2 ∧ R (.next ρ2 h2)) ∨
      (∃ d h2, body ρ h1 = .ret d h2 ∧ R (.ret d h2)) ∨ ∃ c fs ρ2 h2, body ρ h1 = .exc c fs ρ2 h2 ∧ R (.exc c fs ρ2 h2)))) :
    ∀ m n ρ h, m < n → P m ρ h → R (whileL t body n ρ h)
  | m, 0, ρ, h, hm, _ => by omega
  | m, n + 1, ρ, h, hm, p => by
    unfold whileL
    rcases hstep m ρ h p with ⟨h1, e, q⟩ | ⟨h1, e, q⟩
    · simp only [e, Rs.st_ok]; exact q
    · simp only [e, Rs.st_ok]
      rcases q with ⟨m', ρ2, h2, rfl, e2, q⟩ | ⟨ρ2, h2, e2, q⟩ | ⟨d, h2, e2, q⟩ | ⟨c, fs, ρ2, h2, e2, q⟩
      · rcases e2 with e2 | e2 <;> simp only [e2, if_true] <;> exact whileL_ind P R hstep m' n ρ2 h2 (by omega) q
      · simp only [e2, if_true]; exact q
      · simp only [e2, if_true]; exact q
      · simp only [e2, if_true]; exact q
theorem lcL_ind {st : AH → Bool} {g : TGT} {ρ : Env'} {t : Env' → M Bool} {e : Env' → M D} (P : List D → List D → AH → Prop) (hst : ∀ xs acc h, P xs acc h → st h = true)
    (hstep : ∀ x xs acc h, P (x :: xs) acc h → ∃ ρ1, g x ρ = some ρ1 ∧ ((∃ h1 y h2, t ρ1 h = .ok true h1 ∧ e ρ1 h1 = .ok y h2 ∧ P xs (acc ++ [y]) h2) ∨ (∃ h1, t ρ1 h = .ok false h1 ∧ P xs acc h1))) :
    ∀ xs acc h, P xs acc h → ∃ ys h', lcL st g ρ t e xs h = .ok ys h' ∧ P [] (acc ++ ys) h'
  | [], acc, h, p => by
    unfold lcL
    rw [if_pos (hst _ _ _ p)]
    exact ⟨[], h, rfl, by rw [List.append_nil]; exact p⟩
  | x :: xs, acc, h, p => by
    unfold lcL
    rw [if_pos (hst _ _ _ p)]
    obtain ⟨ρ1, hg, q⟩ := hstep x xs acc h p
    rw [hg]
    rcases q with ⟨h1, y, h2, e1, e2, q⟩ | ⟨h1, e1, q⟩
    · obtain ⟨ys, h', e3, q3⟩ := lcL_ind P hst hstep xs (acc ++ [y]) h2 q
      simp only [e1, e2, e3]
      exact ⟨y :: ys, h', rfl, by rw [List.append_assoc] at q3; exact q3⟩
    · obtain ⟨ys, h', e3, q3⟩ := lcL_ind P hst hstep xs acc h1 q
      simp only [e1, e3]
      exact ⟨ys, h', rfl, q3⟩
/-- no test, nothing changed: a map -/
theorem lcL_map {st : AH → Bool} {i : Nat} {ρ : Env'} {c : CallT} {e : Env' → M D} {h : AH} (f : D → D) (hst : st h = true) : ∀ {xs : List D}, (∀ x ∈ xs, e (ρ.set i (some x)) h = .ok (f x) h) → lcL st (gVar i) ρ (tYesS c) e xs h = .ok (xs.map f) h
  | [], _ => by unfold lcL; rw [if_pos hst]; rfl
  | x :: xs, he => by
    unfold lcL
    rw [if_pos hst]
    simp only [gVar, tYesS, he x (List.mem_cons_self ..), lcL_map (c := c) f hst (fun y hy => he y (List.mem_cons_of_mem _ hy))]
    rfl
/-- a test, nothing changed -/
theorem lcL_filter {st : AH → Bool} {i : Nat} {ρ : Env'} {t : Env' → M Bool} {e : Env' → M D} {h : AH} (p : D → Bool) (f : D → D) (hst : st h = true) : ∀ {xs : List D}, (∀ x ∈ xs, t (ρ.set i (some x)) h = .ok (p x) h) → (∀ x ∈ xs, p x = true → e (ρ.set i (some x)) h = .ok (f x) h) →
    lcL st (gVar i) ρ t e xs h = .ok ((xs.filter p).map f) h
  | [], _, _ => by unfold lcL; rw [if_pos hst]; rfl
  | x :: xs, ht, he => by
    have ih := lcL_filter (xs := xs) p f hst (fun y hy => ht y (List.mem_cons_of_mem _ hy)) (fun y hy => he y (List.mem_cons_of_mem _ hy))
    unfold lcL
    rw [if_pos hst]
    simp only [gVar, ht x (List.mem_cons_self ..)]
    cases q : p x with
    | true => simp only [he x (List.mem_cons_self ..) q, ih, List.filter_cons, q, if_true, List.map_cons]
    | false => simp only [ih, List.filter_cons, q, if_false, Bool.false_eq_true]
theorem set_self {ρ : Env'} (i : Nat) : ∃ v, ρ = ρ.set i v := by
  by_cases h : i < ρ.length
  · exact ⟨ρ[i], by rw [List.set_getElem_self]⟩
  · exact ⟨none, by rw [List.set_eq_of_length_le (by omega)]⟩
/-- a loop that looks for the first x with p: it returns (f x) -/
theorem forL_search {st : AH → Bool} {i : Nat} {ρ : Env'} {body : Env' → AH → RS} {h : AH} (p : D → Bool) (f : D → D) (hst : st h = true) : ∀ {xs : List D}, (∀ x ∈ xs, body (ρ.set i (some x)) h = if p x = true then .ret (f x) h else .next (ρ.set i (some x)) h) →
    ∃ v, forL st (gVar i) body xs ρ h = match xs.find? p with
      | some x => .ret (f x) h
      | none => .next (ρ.set i v) h := by
  have gen : ∀ (xs : List D) (v : Option D), (∀ x ∈ xs, body (ρ.set i (some x)) h = if p x = true then .ret (f x) h else .next (ρ.set i (some x)) h) →
      ∃ v', forL st (gVar i) body xs (ρ.set i v) h = match xs.find? p with
        | some x => .ret (f x) h
        | none => .next (ρ.set i v') h := by
    intro xs
    induction xs with
    | nil => intro v _; unfold forL; rw [if_pos hst]; exact ⟨v, rfl⟩
    | cons x xs ih =>
      intro v hb
      unfold forL
      rw [if_pos hst]
      simp only [gVar, List.set_set, hb x (List.mem_cons_self ..), List.find?_cons]
      cases q : p x with
      | true => exact ⟨none, by simp⟩
      | false =>
        obtain ⟨v', e⟩ := ih (some x) fun y hy => hb y (List.mem_cons_of_mem _ hy)
        exact ⟨v', by simpa using e⟩
  intro xs hb
  obtain ⟨v, e⟩ := set_self (ρ := ρ) i
  have := gen xs v hb
  rw [← e] at this
  exact this
theorem find_any {α : Type} (p : α → Bool) : ∀ xs : List α, (xs.find? p).isSome = xs.any p
  | [] => rfl
  | x :: xs => by
    rw [List.find?_cons, List.any_cons]
    cases p x with
    | true => rfl
    | false => rw [find_any p xs]; rfl
/-- the same where the answer does not hang on x -/
theorem forL_any {st : AH → Bool} {i : Nat} {ρ : Env'} {body : Env' → AH → RS} {h : AH} (p : D → Bool) (r : D) (hst : st h = true) {xs : List D} (hb : ∀ x ∈ xs, body (ρ.set i (some x)) h = if p x = true then .ret r h else .next (ρ.set i (some x)) h) :
    ∃ v, forL st (gVar i) body xs ρ h = if xs.any p = true then .ret r h else .next (ρ.set i v) h := by
  obtain ⟨v, e⟩ := forL_search p (fun _ => r) hst hb
  refine ⟨v, e.trans ?_⟩
  rw [← find_any]
  cases xs.find? p with
  | none => simp
  | some x => simp
theorem RS.out_next (ρ : Env') (h : AH) : (RS.next ρ h).out = .ok .non h := rfl
theorem RS.out_ret (d : D) (h : AH) : (RS.ret d h).out = .ok d h := rfl
theorem RS.out_exc (c : Nat) (fs : List (PySem.Str × D)) (ρ : Env') (h : AH) : (RS.exc c fs ρ h).out = .exc c fs h := rfl
theorem forL_any_use {st : AH → Bool} {i : Nat} {ρ : Env'} {body : Env' → AH → RS} {h : AH} {xs : List D} (R : RS → Prop) (p : D → Bool) (r : D) (hst : st h = true) (hb : ∀ x ∈ xs, body (ρ.set i (some x)) h = if p x = true then .ret r h else .next (ρ.set i (some x)) h)
    (hR : ∀ v, R (if xs.any p = true then .ret r h else .next (ρ.set i v) h)) : R (forL st (gVar i) body xs ρ h) := by
  obtain ⟨v, e⟩ := forL_any p r hst hb
  rw [e]
  exact hR v
/-! ### values -/
theorem cut_tail {α : Type} (xs : List α) : cut xs (some 1) none = xs.drop 1 := by
  unfold cut HT.sIx
  simp only
  cases xs with
  | nil => simp
  | cons x r => simp
theorem cut_drop {α : Type} (xs : List α) (n : Nat) : cut xs (some (n : Int)) none = xs.drop n := by
  unfold cut HT.sIx
  simp only
  rw [if_neg (by omega)]
  by_cases h : n ≤ xs.length
  · rw [show min (n : Int).toNat xs.length = n by omega, List.take_of_length_le (by rw [List.length_drop]; omega)]
  · rw [show min (n : Int).toNat xs.length = xs.length by omega, List.drop_length, List.drop_eq_nil_of_le (by omega)]
    simp
theorem cut_take {α : Type} (xs : List α) (n : Nat) : cut xs none (some (n : Int)) = xs.take n := by
  unfold cut HT.sIx
  simp only
  rw [if_neg (by omega), List.drop_zero, Nat.sub_zero]
  by_cases h : n ≤ xs.length
  · rw [show min (n : Int).toNat xs.length = n by omega]
  · rw [show min (n : Int).toNat xs.length = xs.length by omega, List.take_length, List.take_of_length_le (by omega)]
theorem cut_len {α : Type} (xs : List α) (lo hi : Option Int) : (cut xs lo hi).length ≤ xs.length := by
  unfold cut
  rw [List.length_take, List.length_drop]
  omega
theorem cut_mem {α : Type} {xs : List α} {lo hi : Option Int} {x : α} (h : x ∈ cut xs lo hi) : x ∈ xs := by
  unfold cut at h
  exact List.mem_of_mem_drop (List.mem_of_mem_take h)
theorem atI_lt {α : Type} {xs : List α} {i : Int} (h0 : 0 ≤ i) (h1 : i < xs.length) : ∃ x, atI xs i = some x ∧ x ∈ xs ∧ xs[i.toNat]? = some x := by
  have hl : i.toNat < xs.length := by omega
  refine ⟨xs[i.toNat], ?_, List.getElem_mem hl, List.getElem?_eq_getElem hl⟩
  have := atI_nat (xs := xs) (j := i.toNat) (v := xs[i.toNat]) (List.getElem?_eq_getElem hl)
  rw [show ((i.toNat : Nat) : Int) = i by omega] at this
  exact this
theorem atI_head {α : Type} (x : α) (r : List α) : atI (x :: r) 0 = some x := atI_nat (j := 0) rfl
theorem inD_char (h : AH) (c : Char) (t : List Char) : inD h (.str [c]) (.str t) = some (decide (c ∈ t)) := rfl
theorem flatEq_str (a b : List Char) : flatEq (.str a) (.str b) = decide (a = b) := by
  show (a == b) = _
  rw [Bool.beq_eq_decide_eq]
theorem any_strs (s : List Char) (ws : List (List Char)) : ((ws.map D.str).any fun z => flatEq z (.str s)) = decide (s ∈ ws) := by
  induction ws with
  | nil => simp
  | cons w ws ih =>
    rw [List.map_cons, List.any_cons, ih, flatEq_str]
    by_cases h : w = s
    · subst h; simp
    · have : s ≠ w := fun e => h e.symm
      simp [h, this]
theorem all_flat_strs (ws : List (List Char)) : (ws.map D.str).all flatD = true := by
  rw [List.all_eq_true]
  intro d hd
  obtain ⟨w, _, rfl⟩ := List.mem_map.mp hd
  rfl
theorem inD_strs {h : AH} {y : D} {s : List Char} {ws : List (List Char)} (hy : itemsOf y h = some (ws.map D.str)) : inD h (.str s) y = some (decide (s ∈ ws)) := by
  unfold inD
  split
  · rename_i c t e1 e2
    cases hy
  · simp only [hy]
    rw [if_pos ⟨rfl, all_flat_strs ws⟩, any_strs]
theorem eqD_str (h : AH) (a b : List Char) : eqD h (.str a) (.str b) = some (decide (a = b)) := rfl
theorem eqD_int (h : AH) (a b : Int) : eqD h (.int a) (.int b) = some (decide (a = b)) := rfl
theorem eqD_bl (h : AH) (a b : Bool) : eqD h (.bl a) (.bl b) = some (decide (a = b)) := rfl
end Pm

set_option maxRecDepth 100000
set_option maxHeartbeats 1000000
noncomputable section
namespace Pm
open L2

/-! ## 23. Runs step by step: each step leaves what comes behind it folded -/
def ifK (a b : SS) (c : CallT) (ρ : Env') : Bool → AH → RS := fun k h => if k = true then a c ρ h else b c ρ h
def op2K (f : D → D → M D) (b : SE) (c : CallT) (ρ : Env') : D → AH → Rs D := fun x h1 => (b c ρ h1).bind (f x)
def andK (b : SE) (c : CallT) (ρ : Env') : Bool → AH → Rs D := fun k h => if k = true then b c ρ h else .ok (.bl false) h
def orK (b : SE) (c : CallT) (ρ : Env') : Bool → AH → Rs D := fun k h => if k = true then .ok (.bl true) h else b c ρ h
def anK (b : ST) (c : CallT) (ρ : Env') : Bool → AH → Rs Bool := fun k h => if k = true then b c ρ h else .ok false h
def oK (b : ST) (c : CallT) (ρ : Env') : Bool → AH → Rs Bool := fun k h => if k = true then .ok true h else b c ρ h
def noK : Bool → AH → Rs Bool := fun k h => .ok (!k) h
def noV : Bool → AH → Rs D := fun k h => .ok (.bl (!k)) h
def iteK (a b : SE) (c : CallT) (ρ : Env') : Bool → AH → Rs D := fun k h => if k = true then a c ρ h else b c ρ h
def setK (g : TGT) (ρ : Env') : D → AH → RS := fun x h1 => match g x ρ with
  | some ρ1 => .next ρ1 h1
  | none => .bad
def consK (r : SA) (c : CallT) (ρ : Env') : D → AH → Rs (List D) := fun x h1 => (r c ρ h1).bind fun xs h2 => .ok (x :: xs) h2
def bmK (b : Bm) (es : SA) (c : CallT) (ρ : Env') : D → AH → Rs D := fun x h1 => if isTy (bmTy b) x h1 = some true then (es c ρ h1).bind (pBm b x) else .bad
def slK (lo hi : SO) (c : CallT) (ρ : Env') : D → AH → Rs D := fun x h1 => (lo c ρ h1).bind fun l h2 => (hi c ρ h2).bind fun u h3 => pSl x l u h3
def forK (g : TGT) (b : SS) (c : CallT) (ρ : Env') : Src → AH → RS := fun s h1 => forL (stands s.of s.xs) g (b c) s.xs ρ h1
def lcK (own : List Nat) (g : TGT) (t : ST) (e : SE) (c : CallT) (ρ : Env') : Src → AH → Rs D := fun s h1 => match lcL (stands s.of s.xs) g (wipe' ρ own) (t c) (e c) s.xs h1 with
  | .ok ys h2 => chk (ys.length ≤ PySem.sizeLine) (alloc (.lst ys) h2)
  | _ => .bad
variable {c : CallT} {ρ : Env'} {h : AH}
theorem e_seq (a b : SS) : kSeq a b c ρ h = (a c ρ h).seq (b c) := rfl
theorem e_if (t : ST) (a b : SS) : kIf t a b c ρ h = (t c ρ h).st ρ (ifK a b c ρ) := rfl
theorem ifK_true (a b : SS) : ifK a b c ρ true h = a c ρ h := rfl
theorem ifK_false (a b : SS) : ifK a b c ρ false h = b c ρ h := rfl
theorem e_nil : kNil c ρ h = .next ρ h := rfl
theorem e_set (g : TGT) (a : SE) : kSet g a c ρ h = (a c ρ h).st ρ (setK g ρ) := rfl
theorem setK_var (i : Nat) (x : D) : setK (gVar i) ρ x h = .next (ρ.set i (some x)) h := rfl
theorem e_expr (a : SE) : kExpr a c ρ h = (a c ρ h).st ρ fun _ h1 => .next ρ h1 := rfl
theorem e_ret (a : SE) : kRet a c ρ h = (a c ρ h).st ρ fun x h1 => .ret x h1 := rfl
theorem e_retN : kRetN c ρ h = .ret .non h := rfl
theorem e_brk : kBrk c ρ h = .brk ρ h := rfl
theorem e_cnt : kCnt c ρ h = .cnt ρ h := rfl
theorem e_for (g : TGT) (it : SI) (b : SS) : kFor g it b c ρ h = (it c ρ h).st ρ (forK g b c ρ) := rfl
theorem forK_mk (g : TGT) (b : SS) (o : Option Nat) (xs : List D) : forK g b c ρ ⟨o, xs⟩ h = forL (stands o xs) g (b c) xs ρ h := rfl
theorem e_while (t : ST) (b : SS) : kWhile t b c ρ h = whileL (t c) (b c) whileFuel ρ h := rfl
theorem e_cst (d : D) : sCst d c ρ h = .ok d h := rfl
theorem e_var (i : Nat) : sVar i c ρ h = match ρ[i]? with
  | some (some d) => .ok d h
  | _ => .bad := rfl
theorem e_anil : sNil c ρ h = .ok [] h := rfl
theorem e_cons (a : SE) (r : SA) : sCons a r c ρ h = (a c ρ h).bind (consK r c ρ) := rfl
theorem consK_ap (r : SA) (x : D) : consK r c ρ x h = (r c ρ h).bind fun xs h2 => .ok (x :: xs) h2 := rfl
theorem e_n (f : List D → M D) (es : SA) : sN f es c ρ h = (es c ρ h).bind f := rfl
theorem e_op1 (f : D → M D) (a : SE) : sOp1 f a c ρ h = (a c ρ h).bind f := rfl
theorem e_op2 (f : D → D → M D) (a b : SE) : sOp2 f a b c ρ h = (a c ρ h).bind (op2K f b c ρ) := rfl
theorem op2K_ap (f : D → D → M D) (b : SE) (x : D) : op2K f b c ρ x h = (b c ρ h).bind (f x) := rfl
theorem e_and (a b : SE) : sAnd a b c ρ h = (a c ρ h).bind fun x h1 => (pBool x h1).bind (andK b c ρ) := rfl
theorem andK_true (b : SE) : andK b c ρ true h = b c ρ h := rfl
theorem andK_false (b : SE) : andK b c ρ false h = .ok (.bl false) h := rfl
theorem e_or (a b : SE) : sOr a b c ρ h = (a c ρ h).bind fun x h1 => (pBool x h1).bind (orK b c ρ) := rfl
theorem orK_true (b : SE) : orK b c ρ true h = .ok (.bl true) h := rfl
theorem orK_false (b : SE) : orK b c ρ false h = b c ρ h := rfl
theorem e_not (a : SE) : sNot a c ρ h = (a c ρ h).bind fun x h1 => (pBool x h1).bind noV := rfl
theorem noV_ap (k : Bool) : noV k h = .ok (.bl (!k)) h := rfl
theorem e_ite (t : ST) (a b : SE) : sIte t a b c ρ h = (t c ρ h).bind (iteK a b c ρ) := rfl
theorem iteK_true (a b : SE) : iteK a b c ρ true h = a c ρ h := rfl
theorem iteK_false (a b : SE) : iteK a b c ρ false h = b c ρ h := rfl
theorem e_call (f : Nat) (es : SA) : sCall f es c ρ h = (es c ρ h).bind (c f) := rfl
theorem e_callK (i : Nat) (perm : List Nat) (es ks : SA) : sCallK i perm es ks c ρ h = (es c ρ h).bind fun xs h1 => (ks c ρ h1).bind fun zs h2 => c i (pick perm (xs ++ zs)) h2 := rfl
theorem e_sl (a : SE) (lo hi : SO) : sSl a lo hi c ρ h = (a c ρ h).bind (slK lo hi c ρ) := rfl
theorem slK_ap (lo hi : SO) (x : D) : slK lo hi c ρ x h = (lo c ρ h).bind fun l h2 => (hi c ρ h2).bind fun u h3 => pSl x l u h3 := rfl
theorem e_oNone : oNone c ρ h = .ok none h := rfl
theorem e_oSome (a : SE) : oSome a c ρ h = (a c ρ h).bind fun x h1 => match x with
  | .int i => .ok (some i) h1
  | _ => .bad := rfl
theorem e_bm (b : Bm) (o : SE) (es : SA) : sBm b o es c ρ h = (o c ρ h).bind (bmK b es c ρ) := rfl
theorem bmK_str {b : Bm} {es : SA} {s : List Char} (hb : bmTy b = .str) : bmK b es c ρ (.str s) h = (es c ρ h).bind (pBm b (.str s)) := by
  unfold bmK isTy
  simp [hb]
theorem bmK_join {es : SA} {s : List Char} : bmK .join es c ρ (.str s) h = (es c ρ h).bind (pBm .join (.str s)) := rfl
theorem bmK_upper {es : SA} {s : List Char} : bmK .upper es c ρ (.str s) h = (es c ρ h).bind (pBm .upper (.str s)) := rfl
theorem bmK_lst {b : Bm} {es : SA} {n : Nat} {xs : List D} (hb : bmTy b = .list) (hn : h[n]? = some (.lst xs)) : bmK b es c ρ (.ref n) h = (es c ρ h).bind (pBm b (.ref n)) := by
  unfold bmK isTy
  simp [hb, hn]
theorem append_run {n : Nat} {xs : List D} {d : D} (hn : h[n]? = some (.lst xs)) (hl : xs.length < PySem.sizeLine) : pBm .append (.ref n) [d] h = .ok .non (h.set n (.lst (xs ++ [d]))) := by
  unfold pBm
  simp only [hn, chk_pos hl]
theorem e_tTru (a : SE) : tTru a c ρ h = (a c ρ h).bind pTru := rfl
theorem e_tBoo (a : SE) : tBoo a c ρ h = (a c ρ h).bind pBool := rfl
theorem e_tAn (a b : ST) : tAn a b c ρ h = (a c ρ h).bind (anK b c ρ) := rfl
theorem anK_true (b : ST) : anK b c ρ true h = b c ρ h := rfl
theorem anK_false (b : ST) : anK b c ρ false h = .ok false h := rfl
theorem e_tO (a b : ST) : tO a b c ρ h = (a c ρ h).bind (oK b c ρ) := rfl
theorem oK_true (b : ST) : oK b c ρ true h = .ok true h := rfl
theorem oK_false (b : ST) : oK b c ρ false h = b c ρ h := rfl
theorem e_tNo (a : ST) : tNo a c ρ h = (a c ρ h).bind noK := rfl
theorem noK_ap (k : Bool) : noK k h = .ok (!k) h := rfl
theorem pBool_bl (k : Bool) : pBool (.bl k) h = .ok k h := rfl
theorem pTru_bl (k : Bool) : pTru (.bl k) h = .ok k h := rfl
theorem e_iVal (a : SE) : iVal a c ρ h = (a c ρ h).bind srcOf := rfl
theorem e_iRng (es : SA) : iRng es c ρ h = (es c ρ h).bind srcR := rfl
theorem e_lc (own : List Nat) (g : TGT) (it : SI) (t : ST) (e : SE) : sLc own g it t e c ρ h = (it c ρ h).bind (lcK own g t e c ρ) := rfl
theorem lcK_mk (own : List Nat) (g : TGT) (t : ST) (e : SE) (o : Option Nat) (xs : List D) : lcK own g t e c ρ ⟨o, xs⟩ h = match lcL (stands o xs) g (wipe' ρ own) (t c) (e c) xs h with
  | .ok ys h2 => chk (ys.length ≤ PySem.sizeLine) (alloc (.lst ys) h2)
  | _ => .bad := rfl
theorem lcK_ok {own : List Nat} {g : TGT} {t : ST} {e : SE} {o : Option Nat} {xs ys : List D} {h2 : AH} (q : lcL (stands o xs) g (wipe' ρ own) (t c) (e c) xs h = .ok ys h2) (hl : ys.length ≤ PySem.sizeLine) :
    lcK own g t e c ρ ⟨o, xs⟩ h = .ok (.ref h2.length) (h2 ++ [.lst ys]) := by
  rw [lcK_mk, q]
  exact chk_pos hl
/-! ### operations by kinds -/
theorem pLen_str {s : List Char} (hl : s.length ≤ PySem.sizeLine) : pLen (.str s) h = .ok (.int s.length) h := chk_pos hl
theorem pLen_kl {xs : List D} : pLen (.kl xs) h = .ok (.int xs.length) h := rfl
theorem pLen_tup {xs : List D} : pLen (.tup xs) h = .ok (.int xs.length) h := rfl
theorem items_ref {n : Nat} {xs : List D} (hn : h[n]? = some (.lst xs)) : itemsOf (.ref n) h = some xs := by
  unfold itemsOf
  simp only [hn]
theorem items_kl {xs : List D} : itemsOf (.kl xs) h = some xs := rfl
theorem items_tup {xs : List D} : itemsOf (.tup xs) h = some xs := rfl
theorem pLen_ref {n : Nat} {xs : List D} (hn : h[n]? = some (.lst xs)) : pLen (.ref n) h = .ok (.int xs.length) h := by
  unfold pLen
  simp only [items_ref hn]
theorem bi_len (d : D) : pBi .len [d] h = pLen d h := by
  cases d <;> rfl
theorem bi_int (i : Int) : pBi .int [.int i] h = .ok (.int i) h := rfl
theorem pAdd_int (i j : Int) : pAdd (.int i) (.int j) h = .ok (.int (i + j)) h := rfl
theorem pAdd_str {s t : List Char} (hl : s.length + t.length ≤ PySem.sizeLine) : pAdd (.str s) (.str t) h = .ok (.str (s ++ t)) h := chk_pos hl
theorem pAdd_tup {s t : List D} (hl : s.length + t.length ≤ PySem.sizeLine) : pAdd (.tup s) (.tup t) h = .ok (.tup (s ++ t)) h := chk_pos hl
theorem pAdd_lst {m n : Nat} {s t : List D} (hm : h[m]? = some (.lst s)) (hn : h[n]? = some (.lst t)) (hl : s.length + t.length ≤ PySem.sizeLine) : pAdd (.ref m) (.ref n) h = .ok (.ref h.length) (h ++ [.lst (s ++ t)]) := by
  unfold pAdd
  simp only [hm, hn, chk_pos hl]
  rfl
theorem pSub_int (i j : Int) : pSub (.int i) (.int j) h = .ok (.int (i - j)) h := rfl
theorem pMul_int {i j : Int} (hc : (-(2 ^ 64) < i ∧ i < 2 ^ 64) ∨ (-(2 ^ 64) < j ∧ j < 2 ^ 64)) : pMul (.int i) (.int j) h = .ok (.int (i * j)) h := chk_pos hc
theorem pMul_str {s : List Char} {j : Int} (hc : 0 ≤ j ∧ j ≤ 1000 ∧ s.length ≤ 1000) : pMul (.str s) (.int j) h = .ok (.str (rep j.toNat s)) h := chk_pos hc
theorem pMod_int {i j : Int} (hj : 0 < j) : pMod (.int i) (.int j) h = .ok (.int (i % j)) h := chk_pos hj
theorem pFdiv_int {i j : Int} (hj : 0 < j ∧ j < 1073741824) : pFdiv (.int i) (.int j) h = .ok (.int (i / j)) h := chk_pos hj
theorem pPow_int {i j : Int} (hj : 0 ≤ j ∧ j ≤ 1000000 ∧ i.natAbs < 2 ^ 64) : pPow (.int i) (.int j) h = .ok (.int (i ^ j.toNat)) h := chk_pos hj
theorem pNeg_int (i : Int) : pNeg (.int i) h = .ok (.int (-i)) h := rfl
theorem pLt_int (i j : Int) : pLt (.int i) (.int j) h = .ok (.bl (decide (i < j))) h := rfl
theorem pGt_int (i j : Int) : pGt (.int i) (.int j) h = .ok (.bl (decide (j < i))) h := rfl
theorem pLe_int (i j : Int) : pLe (.int i) (.int j) h = .ok (.bl (decide (i ≤ j))) h := rfl
theorem pGe_int (i j : Int) : pGe (.int i) (.int j) h = .ok (.bl (decide (j ≤ i))) h := rfl
theorem pEq_of {a b : D} {r : Bool} (e : eqD h a b = some r) : pEq a b h = .ok (.bl r) h := by unfold pEq; rw [e]
theorem pNe_of {a b : D} {r : Bool} (e : eqD h a b = some r) : pNe a b h = .ok (.bl (!r)) h := by unfold pNe; rw [e]
theorem pEq_int (i j : Int) : pEq (.int i) (.int j) h = .ok (.bl (decide (i = j))) h := rfl
theorem pNe_int (i j : Int) : pNe (.int i) (.int j) h = .ok (.bl (!decide (i = j))) h := rfl
theorem pEq_str (i j : List Char) : pEq (.str i) (.str j) h = .ok (.bl (decide (i = j))) h := rfl
theorem pNe_str (i j : List Char) : pNe (.str i) (.str j) h = .ok (.bl (!decide (i = j))) h := rfl
theorem pEq_bl (i j : Bool) : pEq (.bl i) (.bl j) h = .ok (.bl (decide (i = j))) h := rfl
theorem pNe_bl (i j : Bool) : pNe (.bl i) (.bl j) h = .ok (.bl (!decide (i = j))) h := rfl
theorem pIn_of {a b : D} {r : Bool} (e : inD h a b = some r) : pIn a b h = .ok (.bl r) h := by unfold pIn; rw [e]
theorem pNotIn_of {a b : D} {r : Bool} (e : inD h a b = some r) : pNotIn a b h = .ok (.bl (!r)) h := by unfold pNotIn; rw [e]
theorem pIn_char (ch : Char) (t : List Char) : pIn (.str [ch]) (.str t) h = .ok (.bl (decide (ch ∈ t))) h := rfl
theorem pNotIn_char (ch : Char) (t : List Char) : pNotIn (.str [ch]) (.str t) h = .ok (.bl (!decide (ch ∈ t))) h := rfl
theorem pIx_str {s : List Char} {i : Int} {ch : Char} (hi : atI s i = some ch) (hl : s.length ≤ PySem.sizeLine) : pIx (.str s) (.int i) h = .ok (.str [ch]) h := by
  unfold pIx
  simp only [hi, chk_pos hl]
theorem pIx_of {d : D} {i : Int} {x : D} {xs : List D} (hx : itemsOf d h = some xs) (hi : atI xs i = some x) : pIx d (.int i) h = .ok x h := by
  cases d with
  | str s => cases hx
  | _ => simp only [pIx, hx, hi]
theorem pIx_ref {n : Nat} {i : Int} {x : D} {xs : List D} (hn : h[n]? = some (.lst xs)) (hi : atI xs i = some x) : pIx (.ref n) (.int i) h = .ok x h := pIx_of (items_ref hn) hi
theorem pIx_kl {i : Int} {x : D} {xs : List D} (hi : atI xs i = some x) : pIx (.kl xs) (.int i) h = .ok x h := pIx_of rfl hi
theorem pIx_tup {i : Int} {x : D} {xs : List D} (hi : atI xs i = some x) : pIx (.tup xs) (.int i) h = .ok x h := pIx_of rfl hi
theorem pSl_str {s : List Char} {lo hi : Option Int} (hl : s.length ≤ PySem.sizeLine) : pSl (.str s) lo hi h = .ok (.str (cut s lo hi)) h := chk_pos hl
theorem pSl_tup {s : List D} {lo hi : Option Int} : pSl (.tup s) lo hi h = .ok (.tup (cut s lo hi)) h := rfl
theorem pSl_ref {n : Nat} {s : List D} {lo hi : Option Int} (hn : h[n]? = some (.lst s)) : pSl (.ref n) lo hi h = .ok (.ref h.length) (h ++ [.lst (cut s lo hi)]) := by
  unfold pSl
  simp only [items_ref hn]
  rfl
theorem pRev_ref {n : Nat} {s : List D} (hn : h[n]? = some (.lst s)) : pRev (.ref n) h = .ok (.ref h.length) (h ++ [.lst s.reverse]) := by
  unfold pRev
  simp only [items_ref hn]
  rfl
theorem pLst_run {ds : List D} (hl : ds.length ≤ PySem.sizeLine) : pLst ds h = .ok (.ref h.length) (h ++ [.lst ds]) := chk_pos hl
theorem pTup_run {ds : List D} (hl : ds.length ≤ PySem.sizeLine) : pTup ds h = .ok (.tup ds) h := chk_pos hl
theorem src_ref {n : Nat} {s : List D} (hn : h[n]? = some (.lst s)) : srcOf (.ref n) h = .ok ⟨some n, s⟩ h := by
  unfold srcOf
  simp only [items_ref hn]
theorem src_str' (s : List Char) : srcOf (.str s) h = .ok ⟨none, s.map fun c => .str [c]⟩ h := rfl
theorem src_kl' (s : List D) : srcOf (.kl s) h = .ok ⟨none, s⟩ h := rfl
theorem src_tup' (s : List D) : srcOf (.tup s) h = .ok ⟨none, s⟩ h := rfl
theorem srcR_1 {j : Int} (hj : -(2 ^ 62) ≤ j ∧ j < 2 ^ 62) : srcR [.int j] h = .ok ⟨none, rngL 0 j⟩ h := chk_pos hj
theorem srcR_2 {i j : Int} (hj : -(2 ^ 62) ≤ i ∧ i < 2 ^ 62 ∧ -(2 ^ 62) ≤ j ∧ j < 2 ^ 62) : srcR [.int i, .int j] h = .ok ⟨none, rngL i j⟩ h := chk_pos hj
theorem stands_none (xs : List D) : stands none xs h = true := rfl
theorem stands_ref {n : Nat} {xs : List D} (hn : h[n]? = some (.lst xs)) : stands (some n) xs h = true := decide_eq_true (items_ref hn)
theorem get_app {n : Nat} {o : AO} (t : AH) (hn : h[n]? = some o) : (h ++ t)[n]? = some o := by
  rw [List.getElem?_append_left (List.getElem?_eq_some_iff.mp hn).1]
  exact hn
theorem get_new (o : AO) : (h ++ [o])[h.length]? = some o := by simp
theorem set_new (o o' : AO) : (h ++ [o]).set h.length o' = h ++ [o'] := by
  rw [List.set_append_right _ _ (Nat.le_refl _)]
  simp
theorem strs_map (ys : List (List Char)) : strsOf (ys.map D.str) = some ys := by
  induction ys with
  | nil => rfl
  | cons y ys ih =>
    rw [List.map_cons]
    unfold strsOf
    rw [ih]
theorem join_run {sep : List Char} {d : D} {ys : List (List Char)} (hd : itemsOf d h = some (ys.map D.str)) (hl : joinLen sep ys ≤ PySem.sizeLine) : pBm .join (.str sep) [d] h = .ok (.str (joinS sep ys)) h := by
  unfold pBm
  simp only [hd, strs_map, chk_pos hl]
theorem upper_run {s : List Char} (hl : s.length ≤ 5592405 ∧ s.all (fun c => c.toNat < 128) = true) : pBm .upper (.str s) [] h = .ok (.str (s.map upC)) h := chk_pos hl
theorem joinS_empty : ∀ ys : List (List Char), joinS [] ys = ys.flatten
  | [] => rfl
  | [y] => by simp [joinS]
  | y :: z :: r => by
    unfold joinS
    rw [joinS_empty (z :: r)]
    simp
end Pm

noncomputable section
namespace Lw
open PySem L2 Pm

/-! ## the text by places -/
def topS (i : Nat) : Stmt := PySem.Challenge.pw_claimworlds_k01_names_told.main.body.getD i (.Pass ⟨0, 0, 0, 0⟩)
def c_DIGITS : D := .str ['0', '1', '2', '3', '4', '5', '6', '7', '8', '9']
def c_LARGE : D := .str ['A', 'B', 'C', 'D', 'E', 'F', 'G', 'H', 'I', 'J', 'K', 'L', 'M', 'N', 'O', 'P', 'Q', 'R', 'S', 'T', 'U', 'V', 'W', 'X', 'Y', 'Z']
def c_LONGEST : D := .int 8
def c_SMALL : D := .str ['a', 'b', 'c', 'd', 'e', 'f', 'g', 'h', 'i', 'j', 'k', 'l', 'm', 'n', 'o', 'p', 'q', 'r', 's', 't', 'u', 'v', 'w', 'x', 'y', 'z']
def c_WORDS : D := .tup [.str ['a', 'l', 'l'], .str ['s', 'o', 'm', 'e'], .str ['n', 'o', 't'], .str ['a', 'n', 'd'], .str ['o', 'r'], .str ['i', 'm', 'p', 'l', 'i', 'e', 's'], .str ['i', 'f', 'f'], .str ['t', 'r', 'u', 'e'], .str ['f', 'a', 'l', 's', 'e'], .str ['t', 'r', 'u', 't', 'h'], .str ['s', 'o', 'r', 't'], .str ['f', 'u', 'n', 'c', 't', 'i', 'o', 'n'], .str ['a', 'x', 'i', 'o', 'm']]
/-! ## the words of each def -/
def n_has_plain_rest : List Str := ["value", "character"]
def p_has_plain_rest : List Str := ["value"]
def b_has_plain_rest : SS :=
 kSeq (kFor (gVar 1) (iVal (sSl (sVar 0) (oSome (sCst (.int 1))) oNone))
  (kSeq (kIf (tAn (tBoo (sOp2 pNotIn (sVar 1) (sCst (c_SMALL)))) (tBoo (sOp2 pNotIn (sVar 1) (sCst (c_DIGITS)))))
    (kSeq (kRet (sCst (.bl false)))
     (kNil))
    (kNil))
   (kNil)))
 (kSeq (kRet (sCst (.bl true)))
 (kNil))
def n_is_name : List Str := ["value"]
def p_is_name : List Str := ["value"]
def b_is_name : SS :=
 kSeq (kIf (tO (tBoo (sOp2 pLt (sN (pBi .len) (sCons (sVar 0) (sNil))) (sCst (.int 1)))) (tBoo (sOp2 pGt (sN (pBi .len) (sCons (sVar 0) (sNil))) (sCst (c_LONGEST)))))
  (kSeq (kRet (sCst (.bl false)))
   (kNil))
  (kNil))
 (kSeq (kRet (sAnd (sOp2 pIn (sOp2 pIx (sVar 0) (sCst (.int 0))) (sCst (c_SMALL))) (sAnd (sCall 0 (sCons (sVar 0) (sNil))) (sOp2 pNotIn (sVar 0) (sCst (c_WORDS))))))
 (kNil))
def n_is_variable_name : List Str := ["value"]
def p_is_variable_name : List Str := ["value"]
def b_is_variable_name : SS :=
 kSeq (kIf (tO (tBoo (sOp2 pLt (sN (pBi .len) (sCons (sVar 0) (sNil))) (sCst (.int 1)))) (tBoo (sOp2 pGt (sN (pBi .len) (sCons (sVar 0) (sNil))) (sCst (c_LONGEST)))))
  (kSeq (kRet (sCst (.bl false)))
   (kNil))
  (kNil))
 (kSeq (kRet (sAnd (sOp2 pIn (sOp2 pIx (sVar 0) (sCst (.int 0))) (sCst (c_LARGE))) (sCall 0 (sCons (sVar 0) (sNil)))))
 (kNil))
def n__law_cell : List Str := ["script", "k", "seed", "cell"]
def p__law_cell : List Str := ["script", "k"]
def b__law_cell : SS :=
 kSeq (kIf (tBoo (sOp2 pLt (sVar 1) (sN (pBi .len) (sCons (sVar 0) (sNil)))))
  (kSeq (kRet (sOp2 pIx (sVar 0) (sVar 1)))
   (kNil))
  (kNil))
 (kSeq (kSet (gVar 2) (sCst (.int 17)))
 (kSeq (kFor (gVar 3) (iVal (sVar 0))
  (kSeq (kSet (gVar 2) (sOp2 pMod (sN (pBi .int) (sCons (sOp2 pAdd (sOp2 pMul (sVar 2) (sCst (.int 31))) (sOp2 pMod (sN (pBi .int) (sCons (sVar 3) (sNil))) (sCst (.int 1000003)))) (sNil))) (sCst (.int 1000003))))
   (kNil)))
 (kSeq (kRet (sOp2 pMod (sN (pBi .int) (sCons (sOp2 pMul (sOp2 pMul (sOp2 pAdd (sVar 2) (sCst (.int 7))) (sOp2 pAdd (sVar 1) (sCst (.int 3)))) (sCst (.int 69621))) (sNil))) (sCst (.int 2147483647))))
 (kNil))))
def n__law_digits : List Str := ["cell", "sizes", "row", "rest", "size", "seed", "k", "twice"]
def p__law_digits : List Str := ["cell", "sizes"]
def b__law_digits : SS :=
 kSeq (kSet (gVar 2) (sN pLst (sNil)))
 (kSeq (kSet (gVar 3) (sN (pBi .int) (sCons (sVar 0) (sNil))))
 (kSeq (kIf (tBoo (sOp2 pGe (sVar 3) (sOp2 pPow (sCst (.int 10)) (sCst (.int 18)))))
  (kSeq (kSet (gVar 3) (sOp2 pSub (sVar 3) (sOp2 pPow (sCst (.int 10)) (sCst (.int 18)))))
   (kSeq (kFor (gVar 4) (iVal (sVar 1))
    (kSeq (kExpr (sBm .append (sVar 2) (sCons (sOp2 pMod (sN (pBi .int) (sCons (sVar 3) (sNil))) (sVar 4)) (sNil))))
     (kSeq (kSet (gVar 3) (sOp2 pFdiv (sN (pBi .int) (sCons (sVar 3) (sNil))) (sVar 4)))
     (kNil))))
   (kSeq (kRet (sVar 2))
   (kNil))))
  (kNil))
 (kSeq (kSet (gVar 5) (sOp2 pMod (sN (pBi .int) (sCons (sVar 3) (sNil))) (sCst (.int 2147483629))))
 (kSeq (kFor (gVar 6) (iRng (sCons (sN (pBi .len) (sCons (sVar 1) (sNil))) (sNil)))
  (kSeq (kSet (gVar 5) (sOp2 pMod (sN (pBi .int) (sCons (sOp2 pAdd (sOp2 pAdd (sOp2 pMul (sVar 5) (sCst (.int 48271))) (sOp2 pMul (sCst (.int 974711)) (sVar 6))) (sCst (.int 12345))) (sNil))) (sCst (.int 2147483647))))
   (kSeq (kSet (gVar 7) (sOp2 pMod (sN (pBi .int) (sCons (sOp2 pMul (sVar 5) (sOp2 pAdd (sOp2 pFdiv (sVar 5) (sCst (.int 65537))) (sCst (.int 3)))) (sNil))) (sCst (.int 2147483629))))
   (kSeq (kExpr (sBm .append (sVar 2) (sCons (sOp2 pMod (sOp2 pFdiv (sVar 7) (sCst (.int 19))) (sOp2 pIx (sVar 1) (sVar 6))) (sNil))))
   (kNil)))))
 (kSeq (kRet (sVar 2))
 (kNil))))))
def n__law_sign : List Str := ["k", "signs"]
def p__law_sign : List Str := ["k"]
def b__law_sign : SS :=
 kSeq (kSet (gVar 1) (sCst (.str [' ', '!', '"', '#', '$', '&', Char.ofNat 39, '(', ')', '*', '+', ',', '-', '.', '/', '0', '1', '2', '3', '4', '5', '6', '7', '8', '9', ':', ';', '<', '=', '>', '?', '@', 'A', 'B', 'C', 'D', 'E', 'F', 'G', 'H', 'I', 'J', 'K', 'L', 'M', 'N', 'O', 'P', 'Q', 'R', 'S', 'T', 'U', 'V', 'W', 'X', 'Y', 'Z', '[', Char.ofNat 92, ']', '^', '_', '`'])))
 (kSeq (kSet (gVar 1) (sOp2 pAdd (sVar 1) (sCst (.str ['a', 'b', 'c', 'd', 'e', 'f', 'g', 'h', 'i', 'j', 'k', 'l', 'm', 'n', 'o', 'p', 'q', 'r', 's', 't', 'u', 'v', 'w', 'x', 'y', 'z', '{', '|', '}', '~', Char.ofNat 10]))))
 (kSeq (kRet (sOp2 pIx (sVar 1) (sOp2 pMod (sN (pBi .int) (sCons (sVar 0) (sNil))) (sCst (.int 95)))))
 (kNil)))
def n__law_words : List Str := ["words"]
def p__law_words : List Str := []
def b__law_words : SS :=
 kSeq (kSet (gVar 0) (sN pLst (sCons (sCst (.str ['a', 'l', 'l'])) (sCons (sCst (.str ['s', 'o', 'm', 'e'])) (sCons (sCst (.str ['n', 'o', 't'])) (sCons (sCst (.str ['a', 'n', 'd'])) (sCons (sCst (.str ['o', 'r'])) (sCons (sCst (.str ['i', 'm', 'p', 'l', 'i', 'e', 's'])) (sCons (sCst (.str ['i', 'f', 'f'])) (sCons (sCst (.str ['t', 'r', 'u', 'e'])) (sCons (sCst (.str ['f', 'a', 'l', 's', 'e'])) (sCons (sCst (.str ['t', 'r', 'u', 't', 'h'])) (sCons (sCst (.str ['s', 'o', 'r', 't'])) (sCons (sCst (.str ['f', 'u', 'n', 'c', 't', 'i', 'o', 'n'])) (sCons (sCst (.str ['a', 'x', 'i', 'o', 'm'])) (sNil))))))))))))))))
 (kSeq (kRet (sOp2 pAdd (sVar 0) (sN pLst (sCons (sCst (.str ['p', 'r', 'e', 'd', 'i', 'c', 'a', 't', 'e'])) (sCons (sCst (.str ['z'])) (sCons (sCst (.str ['z', 'z', '0'])) (sCons (sCst (.str ['a', 't', 'o', 'm'])) (sCons (sCst (.str ['s', 'a', 'm', 'e'])) (sCons (sCst (.str ['g', 'i', 'v', 'e', 'n'])) (sCons (sCst (.str ['e', 'i', 't', 'h', 'e', 'r'])) (sCons (sCst (.str ['f', 'i', 'l', 'l'])) (sCons (sCst (.str ['p', 'r', 'e', 'd', 'i', 'c', 'a', 't'])) (sCons (sCst (.str ['n', 'o', 'n', 'e'])) (sCons (sCst (.str ['t', 'a', 'k', 'e', 'n'])) (sCons (sCst (.str ['i', 's'])) (sNil))))))))))))))))
 (kNil))
def n__law_text : List Str := ["cell", "row", "small", "good", "at", "word", "k", "digit"]
def p__law_text : List Str := ["cell"]
def b__law_text : SS :=
 kSeq (kSet (gVar 1) (sCall 4 (sCons (sVar 0) (sCons (sOp2 pAdd (sN pLst (sCons (sCst (.int 18)) (sCons (sCst (.int 13)) (sCons (sCst (.int 9)) (sCons (sCst (.int 12)) (sCons (sCst (.int 95)) (sCons (sCst (.int 26)) (sCons (sCst (.int 25)) (sNil))))))))) (sLc [6] (gVar 6) (iRng (sCons (sCst (.int 12)) (sNil))) (tYesS) (sCst (.int 95)))) (sNil)))))
 (kSeq (kSet (gVar 2) (sCst (.str ['a', 'b', 'c', 'd', 'e', 'f', 'g', 'h', 'i', 'j', 'k', 'l', 'm', 'n', 'o', 'p', 'q', 'r', 's', 't', 'u', 'v', 'w', 'x', 'y', 'z', '0', '1', '2', '3', '4', '5', '6', '7', '8', '9'])))
 (kSeq (kIf (tBoo (sOp2 pLt (sOp2 pIx (sVar 1) (sCst (.int 0))) (sCst (.int 3))))
  (kSeq (kRet (sBm .join (sCst (.str [])) (sCons (sLc [7] (gVar 7) (iVal (sSl (sVar 1) (oSome (sCst (.int 7))) (oSome (sOp2 pAdd (sCst (.int 7)) (sOp2 pIx (sVar 1) (sCst (.int 1))))))) (tYesS) (sCall 5 (sCons (sVar 7) (sNil)))) (sNil))))
   (kNil))
  (kNil))
 (kSeq (kSet (gVar 3) (sOp2 pAdd (sOp2 pIx (sVar 2) (sOp2 pIx (sVar 1) (sCst (.int 5)))) (sBm .join (sCst (.str [])) (sCons (sLc [7] (gVar 7) (iVal (sSl (sVar 1) (oSome (sCst (.int 7))) (oSome (sOp2 pAdd (sCst (.int 7)) (sOp2 pIx (sVar 1) (sCst (.int 2))))))) (tYesS) (sOp2 pIx (sVar 2) (sOp2 pMod (sN (pBi .int) (sCons (sVar 7) (sNil))) (sCst (.int 36))))) (sNil)))))
 (kSeq (kIf (tBoo (sOp2 pEq (sOp2 pMod (sOp2 pIx (sVar 1) (sCst (.int 0))) (sCst (.int 2))) (sCst (.int 0))))
  (kSeq (kSet (gVar 3) (sOp2 pAdd (sBm .upper (sOp2 pIx (sVar 3) (sCst (.int 0))) (sNil)) (sSl (sVar 3) (oSome (sCst (.int 1))) oNone)))
   (kNil))
  (kNil))
 (kSeq (kIf (tBoo (sOp2 pLt (sOp2 pIx (sVar 1) (sCst (.int 0))) (sCst (.int 6))))
  (kSeq (kRet (sVar 3))
   (kNil))
  (kNil))
 (kSeq (kSet (gVar 4) (sOp2 pMod (sN (pBi .int) (sCons (sOp2 pIx (sVar 1) (sCst (.int 3))) (sNil))) (sOp2 pAdd (sN (pBi .len) (sCons (sVar 3) (sNil))) (sCst (.int 1)))))
 (kSeq (kIf (tBoo (sOp2 pLt (sOp2 pIx (sVar 1) (sCst (.int 0))) (sCst (.int 10))))
  (kSeq (kRet (sOp2 pAdd (sOp2 pAdd (sSl (sVar 3) oNone (oSome (sVar 4))) (sCall 5 (sCons (sOp2 pIx (sVar 1) (sCst (.int 4))) (sNil)))) (sSl (sVar 3) (oSome (sOp2 pAdd (sVar 4) (sCst (.int 1)))) oNone)))
   (kNil))
  (kNil))
 (kSeq (kIf (tBoo (sOp2 pLt (sOp2 pIx (sVar 1) (sCst (.int 0))) (sCst (.int 12))))
  (kSeq (kRet (sOp2 pAdd (sOp2 pAdd (sSl (sVar 3) oNone (oSome (sVar 4))) (sCall 5 (sCons (sOp2 pIx (sVar 1) (sCst (.int 4))) (sNil)))) (sSl (sVar 3) (oSome (sVar 4)) oNone)))
   (kNil))
  (kNil))
 (kSeq (kIf (tBoo (sOp2 pEq (sOp2 pIx (sVar 1) (sCst (.int 0))) (sCst (.int 12))))
  (kSeq (kRet (sOp2 pAdd (sSl (sVar 3) oNone (oSome (sVar 4))) (sSl (sVar 3) (oSome (sOp2 pAdd (sVar 4) (sCst (.int 1)))) oNone)))
   (kNil))
  (kNil))
 (kSeq (kIf (tBoo (sOp2 pEq (sOp2 pIx (sVar 1) (sCst (.int 0))) (sCst (.int 13))))
  (kSeq (kRet (sSl (sOp2 pMul (sVar 3) (sCst (.int 60))) oNone (oSome (sOp2 pAdd (sCst (.int 9)) (sOp2 pMod (sN (pBi .int) (sCons (sOp2 pIx (sVar 1) (sCst (.int 4))) (sNil))) (sCst (.int 52)))))))
   (kNil))
  (kNil))
 (kSeq (kSet (gVar 5) (sOp2 pIx (sCall 6 (sNil)) (sOp2 pIx (sVar 1) (sCst (.int 6)))))
 (kSeq (kRet (sOp2 pIx (sN pLst (sCons (sVar 5) (sCons (sSl (sVar 5) oNone (oSome (sOp1 pNeg (sCst (.int 1))))) (sCons (sOp2 pAdd (sVar 5) (sOp2 pIx (sVar 2) (sOp2 pIx (sVar 1) (sCst (.int 5))))) (sCons (sOp2 pAdd (sBm .upper (sOp2 pIx (sVar 5) (sCst (.int 0))) (sNil)) (sSl (sVar 5) (oSome (sCst (.int 1))) oNone)) (sNil)))))) (sOp2 pMod (sN (pBi .int) (sCons (sOp2 pIx (sVar 1) (sCst (.int 0))) (sNil))) (sCst (.int 4)))))
 (kNil)))))))))))))
def n__law_each_sign : List Str := ["cell", "row", "small", "good", "at", "longest", "k", "digit"]
def p__law_each_sign : List Str := ["cell"]
def b__law_each_sign : SS :=
 kSeq (kSet (gVar 1) (sCall 4 (sCons (sVar 0) (sCons (sOp2 pAdd (sN pLst (sCons (sCst (.int 7)) (sCons (sCst (.int 8)) (sCons (sCst (.int 2)) (sCons (sCst (.int 26)) (sNil)))))) (sLc [6] (gVar 6) (iRng (sCons (sCst (.int 6)) (sNil))) (tYesS) (sCst (.int 36)))) (sNil)))))
 (kSeq (kSet (gVar 2) (sCst (.str ['a', 'b', 'c', 'd', 'e', 'f', 'g', 'h', 'i', 'j', 'k', 'l', 'm', 'n', 'o', 'p', 'q', 'r', 's', 't', 'u', 'v', 'w', 'x', 'y', 'z', '0', '1', '2', '3', '4', '5', '6', '7', '8', '9'])))
 (kSeq (kSet (gVar 3) (sOp2 pAdd (sOp2 pIx (sVar 2) (sOp2 pIx (sVar 1) (sCst (.int 3)))) (sBm .join (sCst (.str [])) (sCons (sLc [7] (gVar 7) (iVal (sSl (sVar 1) (oSome (sCst (.int 4))) (oSome (sOp2 pAdd (sCst (.int 4)) (sOp2 pIx (sVar 1) (sCst (.int 0))))))) (tYesS) (sOp2 pIx (sVar 2) (sVar 7))) (sNil)))))
 (kSeq (kIf (tBoo (sOp2 pEq (sOp2 pIx (sVar 1) (sCst (.int 2))) (sCst (.int 1))))
  (kSeq (kSet (gVar 3) (sOp2 pAdd (sBm .upper (sOp2 pIx (sVar 3) (sCst (.int 0))) (sNil)) (sSl (sVar 3) (oSome (sCst (.int 1))) oNone)))
   (kNil))
  (kNil))
 (kSeq (kSet (gVar 4) (sOp2 pMod (sN (pBi .int) (sCons (sOp2 pIx (sVar 1) (sCst (.int 1))) (sNil))) (sOp2 pAdd (sN (pBi .len) (sCons (sVar 3) (sNil))) (sCst (.int 1)))))
 (kSeq (kSet (gVar 5) (sOp2 pAdd (sVar 3) (sSl (sCst (.str ['b', '7', 'k', '0', 'q', '2', 'x', 'w'])) (oSome (sOp2 pSub (sN (pBi .len) (sCons (sVar 3) (sNil))) (sCst (.int 1)))) oNone)))
 (kSeq (kRet (sOp2 pAdd (sLc [6] (gVar 6) (iRng (sCons (sCst (.int 95)) (sNil))) (tYesS) (sOp2 pAdd (sOp2 pAdd (sSl (sVar 3) oNone (oSome (sVar 4))) (sCall 5 (sCons (sVar 6) (sNil)))) (sSl (sVar 3) (oSome (sVar 4)) oNone))) (sN pLst (sCons (sSl (sVar 5) oNone (oSome (sCst (.int 8)))) (sCons (sVar 5) (sNil))))))
 (kNil)))))))
def n__law_plain : List Str := ["text", "sign"]
def p__law_plain : List Str := ["text"]
def b__law_plain : SS :=
 kSeq (kIf (tO (tBoo (sOp2 pLt (sN (pBi .len) (sCons (sVar 0) (sNil))) (sCst (.int 1)))) (tBoo (sOp2 pGt (sN (pBi .len) (sCons (sVar 0) (sNil))) (sCst (.int 8)))))
  (kSeq (kRet (sCst (.bl false)))
   (kNil))
  (kNil))
 (kSeq (kRet (sOp2 pEq (sN (pBi .len) (sCons (sLc [1] (gVar 1) (iVal (sSl (sVar 0) (oSome (sCst (.int 1))) oNone)) (tBoo (sOp2 pNotIn (sVar 1) (sCst (.str ['a', 'b', 'c', 'd', 'e', 'f', 'g', 'h', 'i', 'j', 'k', 'l', 'm', 'n', 'o', 'p', 'q', 'r', 's', 't', 'u', 'v', 'w', 'x', 'y', 'z', '0', '1', '2', '3', '4', '5', '6', '7', '8', '9'])))) (sVar 1)) (sNil))) (sCst (.int 0))))
 (kNil))
def n__law_is_name : List Str := ["text"]
def p__law_is_name : List Str := ["text"]
def b__law_is_name : SS :=
 kSeq (kIf (tO (tNo (tTru (sCall 9 (sCons (sVar 0) (sNil))))) (tBoo (sOp2 pIn (sVar 0) (sSl (sCall 6 (sNil)) oNone (oSome (sCst (.int 13)))))))
  (kSeq (kRet (sCst (.bl false)))
   (kNil))
  (kNil))
 (kSeq (kRet (sOp2 pIn (sOp2 pIx (sVar 0) (sCst (.int 0))) (sCst (.str ['a', 'b', 'c', 'd', 'e', 'f', 'g', 'h', 'i', 'j', 'k', 'l', 'm', 'n', 'o', 'p', 'q', 'r', 's', 't', 'u', 'v', 'w', 'x', 'y', 'z']))))
 (kNil))
def n__law_is_variable_name : List Str := ["text"]
def p__law_is_variable_name : List Str := ["text"]
def b__law_is_variable_name : SS :=
 kSeq (kRet (sAnd (sCall 9 (sCons (sVar 0) (sNil))) (sOp2 pIn (sOp2 pIx (sVar 0) (sCst (.int 0))) (sCst (.str ['A', 'B', 'C', 'D', 'E', 'F', 'G', 'H', 'I', 'J', 'K', 'L', 'M', 'N', 'O', 'P', 'Q', 'R', 'S', 'T', 'U', 'V', 'W', 'X', 'Y', 'Z'])))))
 (kNil)
def n__law_asked : List Str := ["text", "one", "two"]
def p__law_asked : List Str := ["text"]
def b__law_asked : SS :=
 kSeq (kSet (gVar 1) (sCall 1 (sCons (sVar 0) (sNil))))
 (kSeq (kSet (gVar 2) (sCall 2 (sCons (sVar 0) (sNil))))
 (kSeq (kIf (tO (tNo (tTru (sOp1 (pIsi .bool) (sVar 1)))) (tNo (tTru (sOp1 (pIsi .bool) (sVar 2)))))
  (kSeq (kRet (sCst (.bl false)))
   (kNil))
  (kNil))
 (kSeq (kIf (tO (tBoo (sOp2 pNe (sCallK 1 [0] (sNil) (sCons (sVar 0) (sNil))) (sVar 1))) (tBoo (sOp2 pNe (sCallK 2 [0] (sNil) (sCons (sVar 0) (sNil))) (sVar 2))))
  (kSeq (kRet (sCst (.bl false)))
   (kNil))
  (kNil))
 (kSeq (kRet (sAnd (sOp2 pEq (sVar 1) (sCall 10 (sCons (sVar 0) (sNil)))) (sOp2 pEq (sVar 2) (sCall 11 (sCons (sVar 0) (sNil))))))
 (kNil)))))
def n_law : List Str := ["script", "texts", "text", "k"]
def p_law : List Str := ["script"]
def b_law : SS :=
 kSeq (kSet (gVar 1) (sLc [3] (gVar 3) (iRng (sCons (sCst (.int 1)) (sCons (sOp2 pAdd (sCst (.int 2)) (sOp2 pMod (sN (pBi .int) (sCons (sCall 3 (sCons (sVar 0) (sCons (sCst (.int 0)) (sNil)))) (sNil))) (sCst (.int 40)))) (sNil)))) (tYesS) (sCall 7 (sCons (sCall 3 (sCons (sVar 0) (sCons (sVar 3) (sNil)))) (sNil)))))
 (kSeq (kSet (gVar 1) (sOp2 pAdd (sOp2 pAdd (sOp2 pAdd (sVar 1) (sN pLst (sCons (sCst (.str [])) (sCons (sSl (sOp2 pIx (sVar 1) (sCst (.int 0))) oNone (oSome (sCst (.int 1)))) (sNil))))) (sCall 6 (sNil))) (sCall 8 (sCons (sCall 3 (sCons (sVar 0) (sCons (sCst (.int 41)) (sNil)))) (sNil)))))
 (kSeq (kFor (gVar 2) (iVal (sOp2 pAdd (sVar 1) (sOp1 pRev (sVar 1))))
  (kSeq (kIf (tNo (tTru (sCall 12 (sCons (sVar 2) (sNil)))))
    (kSeq (kRet (sCst (.bl false)))
     (kNil))
    (kNil))
   (kNil)))
 (kSeq (kRet (sCst (.bl true)))
 (kNil))))
def gx : Gx := ⟨[("has_plain_rest", 0), ("is_name", 1), ("is_variable_name", 2), ("_law_cell", 3), ("_law_digits", 4), ("_law_sign", 5), ("_law_words", 6), ("_law_text", 7), ("_law_each_sign", 8), ("_law_plain", 9), ("_law_is_name", 10), ("_law_is_variable_name", 11), ("_law_asked", 12), ("law", 13)],
 [(1, 0, ["value"], [0]), (2, 0, ["value"], [0])],
 [("DIGITS", c_DIGITS), ("LARGE", c_LARGE), ("LONGEST", c_LONGEST), ("SMALL", c_SMALL), ("WORDS", c_WORDS)],
 ["bool", "int", "isinstance", "len", "range"]⟩
def tab : List FE := [⟨"has_plain_rest", "has_plain_rest", topS 6, p_has_plain_rest, n_has_plain_rest, b_has_plain_rest⟩,
 ⟨"is_name", "is_name", topS 7, p_is_name, n_is_name, b_is_name⟩,
 ⟨"is_variable_name", "is_variable_name", topS 8, p_is_variable_name, n_is_variable_name, b_is_variable_name⟩,
 ⟨"_law_cell", "_law_cell", topS 10, p__law_cell, n__law_cell, b__law_cell⟩,
 ⟨"_law_digits", "_law_digits", topS 11, p__law_digits, n__law_digits, b__law_digits⟩,
 ⟨"_law_sign", "_law_sign", topS 12, p__law_sign, n__law_sign, b__law_sign⟩,
 ⟨"_law_words", "_law_words", topS 13, p__law_words, n__law_words, b__law_words⟩,
 ⟨"_law_text", "_law_text", topS 14, p__law_text, n__law_text, b__law_text⟩,
 ⟨"_law_each_sign", "_law_each_sign", topS 15, p__law_each_sign, n__law_each_sign, b__law_each_sign⟩,
 ⟨"_law_plain", "_law_plain", topS 16, p__law_plain, n__law_plain, b__law_plain⟩,
 ⟨"_law_is_name", "_law_is_name", topS 17, p__law_is_name, n__law_is_name, b__law_is_name⟩,
 ⟨"_law_is_variable_name", "_law_is_variable_name", topS 18, p__law_is_variable_name, n__law_is_variable_name, b__law_is_variable_name⟩,
 ⟨"_law_asked", "_law_asked", topS 19, p__law_asked, n__law_asked, b__law_asked⟩,
 ⟨"law", "law", topS 20, p_law, n_law, b_law⟩]
/-! ## each def of the text has these words -/
set_option maxHeartbeats 4000000
theorem s_has_plain_rest : FnScope n_has_plain_rest p_has_plain_rest (defScope (topS 6)) := C8.fnScope_by (by decide +kernel)
theorem d_has_plain_rest : seqL (denS gx 60 ⟨n_has_plain_rest, defScope (topS 6), true, fun _ => true⟩) (defBody (topS 6)) = some b_has_plain_rest := by kernel_rfl
theorem s_is_name : FnScope n_is_name p_is_name (defScope (topS 7)) := C8.fnScope_by (by decide +kernel)
theorem d_is_name : seqL (denS gx 60 ⟨n_is_name, defScope (topS 7), true, fun _ => true⟩) (defBody (topS 7)) = some b_is_name := by kernel_rfl
theorem s_is_variable_name : FnScope n_is_variable_name p_is_variable_name (defScope (topS 8)) := C8.fnScope_by (by decide +kernel)
theorem d_is_variable_name : seqL (denS gx 60 ⟨n_is_variable_name, defScope (topS 8), true, fun _ => true⟩) (defBody (topS 8)) = some b_is_variable_name := by kernel_rfl
theorem s__law_cell : FnScope n__law_cell p__law_cell (defScope (topS 10)) := C8.fnScope_by (by decide +kernel)
theorem d__law_cell : seqL (denS gx 60 ⟨n__law_cell, defScope (topS 10), true, fun _ => true⟩) (defBody (topS 10)) = some b__law_cell := by kernel_rfl
theorem s__law_digits : FnScope n__law_digits p__law_digits (defScope (topS 11)) := C8.fnScope_by (by decide +kernel)
theorem d__law_digits : seqL (denS gx 60 ⟨n__law_digits, defScope (topS 11), true, fun _ => true⟩) (defBody (topS 11)) = some b__law_digits := by kernel_rfl
theorem s__law_sign : FnScope n__law_sign p__law_sign (defScope (topS 12)) := C8.fnScope_by (by decide +kernel)
theorem d__law_sign : seqL (denS gx 60 ⟨n__law_sign, defScope (topS 12), true, fun _ => true⟩) (defBody (topS 12)) = some b__law_sign := by kernel_rfl
theorem s__law_words : FnScope n__law_words p__law_words (defScope (topS 13)) := C8.fnScope_by (by decide +kernel)
theorem d__law_words : seqL (denS gx 60 ⟨n__law_words, defScope (topS 13), true, fun _ => true⟩) (defBody (topS 13)) = some b__law_words := by kernel_rfl
theorem s__law_text : FnScope n__law_text p__law_text (defScope (topS 14)) := C8.fnScope_by (by decide +kernel)
theorem d__law_text : seqL (denS gx 60 ⟨n__law_text, defScope (topS 14), true, fun _ => true⟩) (defBody (topS 14)) = some b__law_text := by kernel_rfl
theorem s__law_each_sign : FnScope n__law_each_sign p__law_each_sign (defScope (topS 15)) := C8.fnScope_by (by decide +kernel)
theorem d__law_each_sign : seqL (denS gx 60 ⟨n__law_each_sign, defScope (topS 15), true, fun _ => true⟩) (defBody (topS 15)) = some b__law_each_sign := by kernel_rfl
theorem s__law_plain : FnScope n__law_plain p__law_plain (defScope (topS 16)) := C8.fnScope_by (by decide +kernel)
theorem d__law_plain : seqL (denS gx 60 ⟨n__law_plain, defScope (topS 16), true, fun _ => true⟩) (defBody (topS 16)) = some b__law_plain := by kernel_rfl
theorem s__law_is_name : FnScope n__law_is_name p__law_is_name (defScope (topS 17)) := C8.fnScope_by (by decide +kernel)
theorem d__law_is_name : seqL (denS gx 60 ⟨n__law_is_name, defScope (topS 17), true, fun _ => true⟩) (defBody (topS 17)) = some b__law_is_name := by kernel_rfl
theorem s__law_is_variable_name : FnScope n__law_is_variable_name p__law_is_variable_name (defScope (topS 18)) := C8.fnScope_by (by decide +kernel)
theorem d__law_is_variable_name : seqL (denS gx 60 ⟨n__law_is_variable_name, defScope (topS 18), true, fun _ => true⟩) (defBody (topS 18)) = some b__law_is_variable_name := by kernel_rfl
theorem s__law_asked : FnScope n__law_asked p__law_asked (defScope (topS 19)) := C8.fnScope_by (by decide +kernel)
theorem d__law_asked : seqL (denS gx 60 ⟨n__law_asked, defScope (topS 19), true, fun _ => true⟩) (defBody (topS 19)) = some b__law_asked := by kernel_rfl
theorem s_law : FnScope n_law p_law (defScope (topS 20)) := C8.fnScope_by (by decide +kernel)
theorem d_law : seqL (denS gx 60 ⟨n_law, defScope (topS 20), true, fun _ => true⟩) (defBody (topS 20)) = some b_law := by kernel_rfl
theorem cl_has_plain_rest (n : Nat) (a0 : D) (h : AH) : callF (fbOf tab) (n + 1) 0 [a0] h = (b_has_plain_rest (callF (fbOf tab) n) [some a0, none] h).out := rfl
theorem cl_is_name (n : Nat) (a0 : D) (h : AH) : callF (fbOf tab) (n + 1) 1 [a0] h = (b_is_name (callF (fbOf tab) n) [some a0] h).out := rfl
theorem cl_is_variable_name (n : Nat) (a0 : D) (h : AH) : callF (fbOf tab) (n + 1) 2 [a0] h = (b_is_variable_name (callF (fbOf tab) n) [some a0] h).out := rfl
theorem cl__law_cell (n : Nat) (a0 a1 : D) (h : AH) : callF (fbOf tab) (n + 1) 3 [a0, a1] h = (b__law_cell (callF (fbOf tab) n) [some a0, some a1, none, none] h).out := rfl
theorem cl__law_digits (n : Nat) (a0 a1 : D) (h : AH) : callF (fbOf tab) (n + 1) 4 [a0, a1] h = (b__law_digits (callF (fbOf tab) n) [some a0, some a1, none, none, none, none, none, none] h).out := rfl
theorem cl__law_sign (n : Nat) (a0 : D) (h : AH) : callF (fbOf tab) (n + 1) 5 [a0] h = (b__law_sign (callF (fbOf tab) n) [some a0, none] h).out := rfl
theorem cl__law_words (n : Nat) (h : AH) : callF (fbOf tab) (n + 1) 6 [] h = (b__law_words (callF (fbOf tab) n) [none] h).out := rfl
theorem cl__law_text (n : Nat) (a0 : D) (h : AH) : callF (fbOf tab) (n + 1) 7 [a0] h = (b__law_text (callF (fbOf tab) n) [some a0, none, none, none, none, none, none, none] h).out := rfl
theorem cl__law_each_sign (n : Nat) (a0 : D) (h : AH) : callF (fbOf tab) (n + 1) 8 [a0] h = (b__law_each_sign (callF (fbOf tab) n) [some a0, none, none, none, none, none, none, none] h).out := rfl
theorem cl__law_plain (n : Nat) (a0 : D) (h : AH) : callF (fbOf tab) (n + 1) 9 [a0] h = (b__law_plain (callF (fbOf tab) n) [some a0, none] h).out := rfl
theorem cl__law_is_name (n : Nat) (a0 : D) (h : AH) : callF (fbOf tab) (n + 1) 10 [a0] h = (b__law_is_name (callF (fbOf tab) n) [some a0] h).out := rfl
theorem cl__law_is_variable_name (n : Nat) (a0 : D) (h : AH) : callF (fbOf tab) (n + 1) 11 [a0] h = (b__law_is_variable_name (callF (fbOf tab) n) [some a0] h).out := rfl
theorem cl__law_asked (n : Nat) (a0 : D) (h : AH) : callF (fbOf tab) (n + 1) 12 [a0] h = (b__law_asked (callF (fbOf tab) n) [some a0, none, none] h).out := rfl
theorem cl_law (n : Nat) (a0 : D) (h : AH) : callF (fbOf tab) (n + 1) 13 [a0] h = (b_law (callF (fbOf tab) n) [some a0, none, none, none] h).out := rfl
/-! ## the end: what the top has written -/
theorem all_mk {l : PySem.W.OpenLaw} {w : World} {K : PySem.W.Frag} {h : Heap} {mg : Str → Option Value} {fa : Addr}
 {f0 f1 f2 f3 f4 f5 f6 f7 f8 f9 f10 f11 f12 f13 : Addr}
 {od0 an0 od1 an1 od2 an2 od3 an3 od4 an4 od5 an5 od6 an6 od7 an7 od8 an8 od9 an9 od10 an10 od11 an11 od12 an12 od13 an13 : Option Addr}
 {sl0 sl1 sl2 sl3 sl4 sl5 sl6 sl7 sl8 sl9 sl10 sl11 sl12 sl13 : Array (Option Value)}
 {oc0 kV0 dc0 pm0 cd0 ct0 oc1 kV1 dc1 pm1 cd1 ct1 oc2 kV2 dc2 pm2 cd2 ct2 oc3 kV3 dc3 pm3 cd3 ct3 oc4 kV4 dc4 pm4 cd4 ct4 oc5 kV5 dc5 pm5 cd5 ct5 oc6 kV6 dc6 pm6 cd6 ct6 oc7 kV7 dc7 pm7 cd7 ct7 oc8 kV8 dc8 pm8 cd8 ct8 oc9 kV9 dc9 pm9 cd9 ct9 oc10 kV10 dc10 pm10 cd10 ct10 oc11 kV11 dc11 pm11 cd11 ct11 oc12 kV12 dc12 pm12 cd12 ct12 oc13 kV13 dc13 pm13 cd13 ct13 : Value}
 {ct_0 : Tok} {cs_0 : Str}
 {ct_1 : Tok} {cs_1 : Str}
 {ct_2 : Tok}
 {ct_3 : Tok} {cs_3 : Str}
 {ca_4 : Addr} {cu_4 : List Value} {cdd_4 : Option Addr} {cn_4 : Nat} {csl_4 : Array (Option Value)} (X : K.In h) (G : h.Ns mainGlobals mg) (hfa : mg "law" = some (.ref fa))
 (a0 : PySem.W.nsIn K mainGlobals "has_plain_rest" = some (some (.ref f0)))
 (l0 : K.lookup f0 = some ⟨oc0, od0, .func (PySem.W.fnOf "has_plain_rest" "has_plain_rest" (defArgs (topS 6)) (defBody (topS 6)) (defScope (topS 6)) .none kV0 dc0 pm0 an0 cd0 ct0), sl0⟩)
 (c0 : PySem.W.codeIn K cd0 "has_plain_rest" = true) (k0 : PySem.W.keepIn K (.ref f0) = true)
 (a1 : PySem.W.nsIn K mainGlobals "is_name" = some (some (.ref f1)))
 (l1 : K.lookup f1 = some ⟨oc1, od1, .func (PySem.W.fnOf "is_name" "is_name" (defArgs (topS 7)) (defBody (topS 7)) (defScope (topS 7)) .none kV1 dc1 pm1 an1 cd1 ct1), sl1⟩)
 (c1 : PySem.W.codeIn K cd1 "is_name" = true) (k1 : PySem.W.keepIn K (.ref f1) = true)
 (a2 : PySem.W.nsIn K mainGlobals "is_variable_name" = some (some (.ref f2)))
 (l2 : K.lookup f2 = some ⟨oc2, od2, .func (PySem.W.fnOf "is_variable_name" "is_variable_name" (defArgs (topS 8)) (defBody (topS 8)) (defScope (topS 8)) .none kV2 dc2 pm2 an2 cd2 ct2), sl2⟩)
 (c2 : PySem.W.codeIn K cd2 "is_variable_name" = true) (k2 : PySem.W.keepIn K (.ref f2) = true)
 (a3 : PySem.W.nsIn K mainGlobals "_law_cell" = some (some (.ref f3)))
 (l3 : K.lookup f3 = some ⟨oc3, od3, .func (PySem.W.fnOf "_law_cell" "_law_cell" (defArgs (topS 10)) (defBody (topS 10)) (defScope (topS 10)) .none kV3 dc3 pm3 an3 cd3 ct3), sl3⟩)
 (c3 : PySem.W.codeIn K cd3 "_law_cell" = true) (k3 : PySem.W.keepIn K (.ref f3) = true)
 (a4 : PySem.W.nsIn K mainGlobals "_law_digits" = some (some (.ref f4)))
 (l4 : K.lookup f4 = some ⟨oc4, od4, .func (PySem.W.fnOf "_law_digits" "_law_digits" (defArgs (topS 11)) (defBody (topS 11)) (defScope (topS 11)) .none kV4 dc4 pm4 an4 cd4 ct4), sl4⟩)
 (c4 : PySem.W.codeIn K cd4 "_law_digits" = true) (k4 : PySem.W.keepIn K (.ref f4) = true)
 (a5 : PySem.W.nsIn K mainGlobals "_law_sign" = some (some (.ref f5)))
 (l5 : K.lookup f5 = some ⟨oc5, od5, .func (PySem.W.fnOf "_law_sign" "_law_sign" (defArgs (topS 12)) (defBody (topS 12)) (defScope (topS 12)) .none kV5 dc5 pm5 an5 cd5 ct5), sl5⟩)
 (c5 : PySem.W.codeIn K cd5 "_law_sign" = true) (k5 : PySem.W.keepIn K (.ref f5) = true)
 (a6 : PySem.W.nsIn K mainGlobals "_law_words" = some (some (.ref f6)))
 (l6 : K.lookup f6 = some ⟨oc6, od6, .func (PySem.W.fnOf "_law_words" "_law_words" (defArgs (topS 13)) (defBody (topS 13)) (defScope (topS 13)) .none kV6 dc6 pm6 an6 cd6 ct6), sl6⟩)
 (c6 : PySem.W.codeIn K cd6 "_law_words" = true) (k6 : PySem.W.keepIn K (.ref f6) = true)
 (a7 : PySem.W.nsIn K mainGlobals "_law_text" = some (some (.ref f7)))
 (l7 : K.lookup f7 = some ⟨oc7, od7, .func (PySem.W.fnOf "_law_text" "_law_text" (defArgs (topS 14)) (defBody (topS 14)) (defScope (topS 14)) .none kV7 dc7 pm7 an7 cd7 ct7), sl7⟩)
 (c7 : PySem.W.codeIn K cd7 "_law_text" = true) (k7 : PySem.W.keepIn K (.ref f7) = true)
 (a8 : PySem.W.nsIn K mainGlobals "_law_each_sign" = some (some (.ref f8)))
 (l8 : K.lookup f8 = some ⟨oc8, od8, .func (PySem.W.fnOf "_law_each_sign" "_law_each_sign" (defArgs (topS 15)) (defBody (topS 15)) (defScope (topS 15)) .none kV8 dc8 pm8 an8 cd8 ct8), sl8⟩)
 (c8 : PySem.W.codeIn K cd8 "_law_each_sign" = true) (k8 : PySem.W.keepIn K (.ref f8) = true)
 (a9 : PySem.W.nsIn K mainGlobals "_law_plain" = some (some (.ref f9)))
 (l9 : K.lookup f9 = some ⟨oc9, od9, .func (PySem.W.fnOf "_law_plain" "_law_plain" (defArgs (topS 16)) (defBody (topS 16)) (defScope (topS 16)) .none kV9 dc9 pm9 an9 cd9 ct9), sl9⟩)
 (c9 : PySem.W.codeIn K cd9 "_law_plain" = true) (k9 : PySem.W.keepIn K (.ref f9) = true)
 (a10 : PySem.W.nsIn K mainGlobals "_law_is_name" = some (some (.ref f10)))
 (l10 : K.lookup f10 = some ⟨oc10, od10, .func (PySem.W.fnOf "_law_is_name" "_law_is_name" (defArgs (topS 17)) (defBody (topS 17)) (defScope (topS 17)) .none kV10 dc10 pm10 an10 cd10 ct10), sl10⟩)
 (c10 : PySem.W.codeIn K cd10 "_law_is_name" = true) (k10 : PySem.W.keepIn K (.ref f10) = true)
 (a11 : PySem.W.nsIn K mainGlobals "_law_is_variable_name" = some (some (.ref f11)))
 (l11 : K.lookup f11 = some ⟨oc11, od11, .func (PySem.W.fnOf "_law_is_variable_name" "_law_is_variable_name" (defArgs (topS 18)) (defBody (topS 18)) (defScope (topS 18)) .none kV11 dc11 pm11 an11 cd11 ct11), sl11⟩)
 (c11 : PySem.W.codeIn K cd11 "_law_is_variable_name" = true) (k11 : PySem.W.keepIn K (.ref f11) = true)
 (a12 : PySem.W.nsIn K mainGlobals "_law_asked" = some (some (.ref f12)))
 (l12 : K.lookup f12 = some ⟨oc12, od12, .func (PySem.W.fnOf "_law_asked" "_law_asked" (defArgs (topS 19)) (defBody (topS 19)) (defScope (topS 19)) .none kV12 dc12 pm12 an12 cd12 ct12), sl12⟩)
 (c12 : PySem.W.codeIn K cd12 "_law_asked" = true) (k12 : PySem.W.keepIn K (.ref f12) = true)
 (a13 : PySem.W.nsIn K mainGlobals "law" = some (some (.ref f13)))
 (l13 : K.lookup f13 = some ⟨oc13, od13, .func (PySem.W.fnOf "law" "law" (defArgs (topS 20)) (defBody (topS 20)) (defScope (topS 20)) .none kV13 dc13 pm13 an13 cd13 ct13), sl13⟩)
 (c13 : PySem.W.codeIn K cd13 "law" = true) (k13 : PySem.W.keepIn K (.ref f13) = true)
 (g0 : PySem.W.nsIn K mainGlobals "DIGITS" = some (some (.str cs_0 ct_0)))
 (e0 : toS ['0', '1', '2', '3', '4', '5', '6', '7', '8', '9'] = cs_0)
 (g1 : PySem.W.nsIn K mainGlobals "LARGE" = some (some (.str cs_1 ct_1)))
 (e1 : toS ['A', 'B', 'C', 'D', 'E', 'F', 'G', 'H', 'I', 'J', 'K', 'L', 'M', 'N', 'O', 'P', 'Q', 'R', 'S', 'T', 'U', 'V', 'W', 'X', 'Y', 'Z'] = cs_1)
 (g2 : PySem.W.nsIn K mainGlobals "LONGEST" = some (some (.int 8 ct_2)))
 (g3 : PySem.W.nsIn K mainGlobals "SMALL" = some (some (.str cs_3 ct_3)))
 (e3 : toS ['a', 'b', 'c', 'd', 'e', 'f', 'g', 'h', 'i', 'j', 'k', 'l', 'm', 'n', 'o', 'p', 'q', 'r', 's', 't', 'u', 'v', 'w', 'x', 'y', 'z'] = cs_3)
 (g4 : PySem.W.nsIn K mainGlobals "WORDS" = some (some (.ref ca_4)))
 (gl4 : K.lookup ca_4 = some ⟨.type "tuple", cdd_4, .seq cu_4.toArray cn_4, csl_4⟩)
 (e4 : RelC [.str ['a', 'l', 'l'], .str ['s', 'o', 'm', 'e'], .str ['n', 'o', 't'], .str ['a', 'n', 'd'], .str ['o', 'r'], .str ['i', 'm', 'p', 'l', 'i', 'e', 's'], .str ['i', 'f', 'f'], .str ['t', 'r', 'u', 'e'], .str ['f', 'a', 'l', 's', 'e'], .str ['t', 'r', 'u', 't', 'h'], .str ['s', 'o', 'r', 't'], .str ['f', 'u', 'n', 'c', 't', 'i', 'o', 'n'], .str ['a', 'x', 'i', 'o', 'm']] cu_4)
 (z_bool : PySem.W.nsIn K mainGlobals "bool" = some none)
 (z_int : PySem.W.nsIn K mainGlobals "int" = some none)
 (z_isinstance : PySem.W.nsIn K mainGlobals "isinstance" = some none)
 (z_len : PySem.W.nsIn K mainGlobals "len" = some none)
 (z_range : PySem.W.nsIn K mainGlobals "range" = some none) :
 ∃ fd : FuncData, (∀ (s : Shared) (v : Value), BindsTo s fd ⟨[v], []⟩ [("script", v)]) ∧ ∀ base : Heap, K.In base → base.Ns mainGlobals mg → FnOk l.prog w K mg base (L2.CX l.prog w) 40 fa fd ["script"] (spA K (fun _ => 0) (callF (fbOf tab) 40 13)) := by
  have e := hfa.symm.trans (PySem.W.mg_of X G a13)
  cases e
  have F0 := fun_mk (st := topS 6) l0 c0 k0
  have F1 := fun_mk (st := topS 7) l1 c1 k1
  have F2 := fun_mk (st := topS 8) l2 c2 k2
  have F3 := fun_mk (st := topS 10) l3 c3 k3
  have F4 := fun_mk (st := topS 11) l4 c4 k4
  have F5 := fun_mk (st := topS 12) l5 c5 k5
  have F6 := fun_mk (st := topS 13) l6 c6 k6
  have F7 := fun_mk (st := topS 14) l7 c7 k7
  have F8 := fun_mk (st := topS 15) l8 c8 k8
  have F9 := fun_mk (st := topS 16) l9 c9 k9
  have F10 := fun_mk (st := topS 17) l10 c10 k10
  have F11 := fun_mk (st := topS 18) l11 c11 k11
  have F12 := fun_mk (st := topS 19) l12 c12 k12
  have F13 := fun_mk (st := topS 20) l13 c13 k13
  have b0 := F0.binds (ps := p_has_plain_rest) fun _ _ _ _ _ _ us hl => match us, hl with | [_], _ => rfl
  have b1 := F1.binds (ps := p_is_name) fun _ _ _ _ _ _ us hl => match us, hl with | [_], _ => rfl
  have b2 := F2.binds (ps := p_is_variable_name) fun _ _ _ _ _ _ us hl => match us, hl with | [_], _ => rfl
  have b3 := F3.binds (ps := p__law_cell) fun _ _ _ _ _ _ us hl => match us, hl with | [_, _], _ => rfl
  have b4 := F4.binds (ps := p__law_digits) fun _ _ _ _ _ _ us hl => match us, hl with | [_, _], _ => rfl
  have b5 := F5.binds (ps := p__law_sign) fun _ _ _ _ _ _ us hl => match us, hl with | [_], _ => rfl
  have b6 := F6.binds (ps := p__law_words) fun _ _ _ _ _ _ us hl => match us, hl with | [], _ => rfl
  have b7 := F7.binds (ps := p__law_text) fun _ _ _ _ _ _ us hl => match us, hl with | [_], _ => rfl
  have b8 := F8.binds (ps := p__law_each_sign) fun _ _ _ _ _ _ us hl => match us, hl with | [_], _ => rfl
  have b9 := F9.binds (ps := p__law_plain) fun _ _ _ _ _ _ us hl => match us, hl with | [_], _ => rfl
  have b10 := F10.binds (ps := p__law_is_name) fun _ _ _ _ _ _ us hl => match us, hl with | [_], _ => rfl
  have b11 := F11.binds (ps := p__law_is_variable_name) fun _ _ _ _ _ _ us hl => match us, hl with | [_], _ => rfl
  have b12 := F12.binds (ps := p__law_asked) fun _ _ _ _ _ _ us hl => match us, hl with | [_], _ => rfl
  have b13 := F13.binds (ps := p_law) fun _ _ _ _ _ _ us hl => match us, hl with | [_], _ => rfl
  have kw0 : KwOk K _ p_is_name 0 ["value"] [0] := kw_mk F1 fun _ _ _ _ _ _ us ws h1 h2 => match us, ws, h1, h2 with | [], [_], _, _ => rfl
  have kw1 : KwOk K _ p_is_variable_name 0 ["value"] [0] := kw_mk F2 fun _ _ _ _ _ _ us ws h1 h2 => match us, ws, h1, h2 with | [], [_], _, _ => rfl
  have h3 : All3 gx K tab [f0, f1, f2, f3, f4, f5, f6, f7, f8, f9, f10, f11, f12, fa] [PySem.W.fnOf "has_plain_rest" "has_plain_rest" (defArgs (topS 6)) (defBody (topS 6)) (defScope (topS 6)) .none kV0 dc0 pm0 an0 cd0 ct0, PySem.W.fnOf "is_name" "is_name" (defArgs (topS 7)) (defBody (topS 7)) (defScope (topS 7)) .none kV1 dc1 pm1 an1 cd1 ct1, PySem.W.fnOf "is_variable_name" "is_variable_name" (defArgs (topS 8)) (defBody (topS 8)) (defScope (topS 8)) .none kV2 dc2 pm2 an2 cd2 ct2, PySem.W.fnOf "_law_cell" "_law_cell" (defArgs (topS 10)) (defBody (topS 10)) (defScope (topS 10)) .none kV3 dc3 pm3 an3 cd3 ct3, PySem.W.fnOf "_law_digits" "_law_digits" (defArgs (topS 11)) (defBody (topS 11)) (defScope (topS 11)) .none kV4 dc4 pm4 an4 cd4 ct4, PySem.W.fnOf "_law_sign" "_law_sign" (defArgs (topS 12)) (defBody (topS 12)) (defScope (topS 12)) .none kV5 dc5 pm5 an5 cd5 ct5, PySem.W.fnOf "_law_words" "_law_words" (defArgs (topS 13)) (defBody (topS 13)) (defScope (topS 13)) .none kV6 dc6 pm6 an6 cd6 ct6, PySem.W.fnOf "_law_text" "_law_text" (defArgs (topS 14)) (defBody (topS 14)) (defScope (topS 14)) .none kV7 dc7 pm7 an7 cd7 ct7, PySem.W.fnOf "_law_each_sign" "_law_each_sign" (defArgs (topS 15)) (defBody (topS 15)) (defScope (topS 15)) .none kV8 dc8 pm8 an8 cd8 ct8, PySem.W.fnOf "_law_plain" "_law_plain" (defArgs (topS 16)) (defBody (topS 16)) (defScope (topS 16)) .none kV9 dc9 pm9 an9 cd9 ct9, PySem.W.fnOf "_law_is_name" "_law_is_name" (defArgs (topS 17)) (defBody (topS 17)) (defScope (topS 17)) .none kV10 dc10 pm10 an10 cd10 ct10, PySem.W.fnOf "_law_is_variable_name" "_law_is_variable_name" (defArgs (topS 18)) (defBody (topS 18)) (defScope (topS 18)) .none kV11 dc11 pm11 an11 cd11 ct11, PySem.W.fnOf "_law_asked" "_law_asked" (defArgs (topS 19)) (defBody (topS 19)) (defScope (topS 19)) .none kV12 dc12 pm12 an12 cd12 ct12, PySem.W.fnOf "law" "law" (defArgs (topS 20)) (defBody (topS 20)) (defScope (topS 20)) .none kV13 dc13 pm13 an13 cd13 ct13] := ⟨⟨F0, s_has_plain_rest, d_has_plain_rest⟩, ⟨F1, s_is_name, d_is_name⟩, ⟨F2, s_is_variable_name, d_is_variable_name⟩, ⟨F3, s__law_cell, d__law_cell⟩, ⟨F4, s__law_digits, d__law_digits⟩, ⟨F5, s__law_sign, d__law_sign⟩, ⟨F6, s__law_words, d__law_words⟩, ⟨F7, s__law_text, d__law_text⟩, ⟨F8, s__law_each_sign, d__law_each_sign⟩, ⟨F9, s__law_plain, d__law_plain⟩, ⟨F10, s__law_is_name, d__law_is_name⟩, ⟨F11, s__law_is_variable_name, d__law_is_variable_name⟩, ⟨F12, s__law_asked, d__law_asked⟩, ⟨F13, s_law, d_law⟩, trivial⟩
  refine ⟨PySem.W.fnOf "law" "law" (defArgs (topS 20)) (defBody (topS 20)) (defScope (topS 20)) .none kV13 dc13 pm13 an13 cd13 ct13, fun s v => .of_eq rfl, fun base _ _ => ?_⟩
  exact all_ok (d0 := PySem.W.fnOf "law" "law" (defArgs (topS 20)) (defBody (topS 20)) (defScope (topS 20)) .none kV13 dc13 pm13 an13 cd13 ct13) h3
   ⟨⟨PySem.W.mg_of X G a0, k0, b0⟩, ⟨PySem.W.mg_of X G a1, k1, b1⟩, ⟨PySem.W.mg_of X G a2, k2, b2⟩, ⟨PySem.W.mg_of X G a3, k3, b3⟩, ⟨PySem.W.mg_of X G a4, k4, b4⟩, ⟨PySem.W.mg_of X G a5, k5, b5⟩, ⟨PySem.W.mg_of X G a6, k6, b6⟩, ⟨PySem.W.mg_of X G a7, k7, b7⟩, ⟨PySem.W.mg_of X G a8, k8, b8⟩, ⟨PySem.W.mg_of X G a9, k9, b9⟩, ⟨PySem.W.mg_of X G a10, k10, b10⟩, ⟨PySem.W.mg_of X G a11, k11, b11⟩, ⟨PySem.W.mg_of X G a12, k12, b12⟩, ⟨PySem.W.mg_of X G a13, k13, b13⟩, trivial⟩
   ⟨kw0, kw1, trivial⟩
   ⟨cst_str (PySem.W.mg_of X G g0) e0, cst_str (PySem.W.mg_of X G g1) e1, cst_int (PySem.W.mg_of X G g2), cst_str (PySem.W.mg_of X G g3) e3, cst_tup (PySem.W.mg_of X G g4) gl4 e4 (by decide), trivial⟩
   ⟨PySem.W.mg_none_of X G z_bool, PySem.W.mg_none_of X G z_int, PySem.W.mg_none_of X G z_isinstance, PySem.W.mg_none_of X G z_len, PySem.W.mg_none_of X G z_range, trivial⟩ 40 13
theorem walk (L : LawRuns tab 40 13) {l : PySem.W.OpenLaw} {q : Program} {loose : List Str} {XP : (Str → Option Value) → Heap → Prop} {YP : World → Heap → Prop} {d : DefRec} {K : Params → PySem.W.Frag} (hn : l.most = some 63) (hdf : d.params.defaults = [])
    (hY : ∀ (w : World) (h : Heap), YP w h → (K w.params).In h)
    (F : ∀ (w : World) (mg : Str → Option Value) (fa : Addr) (h : Heap), (K w.params).In h → h.Ns mainGlobals mg → mg d.name = some (.ref fa) →
      ∃ fd : FuncData, (∀ (s : Shared) (u : Value), BindsTo s fd ⟨[u], []⟩ [("script", u)]) ∧ ∀ base : Heap, (K w.params).In base → base.Ns mainGlobals mg → FnOk l.prog w (K w.params) mg base (L2.CX l.prog w) 40 fa fd ["script"] (spA (K w.params) (fun _ => 0) (callF (fbOf tab) 40 13))) :
    PySem.W.WalkO q loose XP YP l.row.toRowW d [] (fun f vs => PySem.call f vs) :=
  L2.walk_of (n := 63) (k := 40) (x := "script") (CX := fun w => L2.CX l.prog w) (sp := fun w => spA (K w.params) (fun _ => 0) (callF (fbOf tab) 40 13)) hn (by decide) hdf ⟨rfl, by decide, by decide⟩ hY F (fun _ _ a ns hl hO hS => law_sp L hl hO hS) fun _ H s e s' z => no_exc H s e s' z
end Lw

set_option maxRecDepth 100000
set_option maxHeartbeats 1000000
noncomputable section
namespace Lw
open Pm
/-! ## the mathematics -/
def small : List Char := ['a', 'b', 'c', 'd', 'e', 'f', 'g', 'h', 'i', 'j', 'k', 'l', 'm', 'n', 'o', 'p', 'q', 'r', 's', 't', 'u', 'v', 'w', 'x', 'y', 'z']
def large : List Char := ['A', 'B', 'C', 'D', 'E', 'F', 'G', 'H', 'I', 'J', 'K', 'L', 'M', 'N', 'O', 'P', 'Q', 'R', 'S', 'T', 'U', 'V', 'W', 'X', 'Y', 'Z']
def digs : List Char := ['0', '1', '2', '3', '4', '5', '6', '7', '8', '9']
def words : List (List Char) := [['a', 'l', 'l'], ['s', 'o', 'm', 'e'], ['n', 'o', 't'], ['a', 'n', 'd'], ['o', 'r'], ['i', 'm', 'p', 'l', 'i', 'e', 's'], ['i', 'f', 'f'], ['t', 'r', 'u', 'e'], ['f', 'a', 'l', 's', 'e'], ['t', 'r', 'u', 't', 'h'], ['s', 'o', 'r', 't'], ['f', 'u', 'n', 'c', 't', 'i', 'o', 'n'], ['a', 'x', 'i', 'o', 'm']]
def words2 : List (List Char) := [['p', 'r', 'e', 'd', 'i', 'c', 'a', 't', 'e'], ['z'], ['z', 'z', '0'], ['a', 't', 'o', 'm'], ['s', 'a', 'm', 'e'], ['g', 'i', 'v', 'e', 'n'], ['e', 'i', 't', 'h', 'e', 'r'], ['f', 'i', 'l', 'l'], ['p', 'r', 'e', 'd', 'i', 'c', 'a', 't'], ['n', 'o', 'n', 'e'], ['t', 'a', 'k', 'e', 'n'], ['i', 's']]
theorem c_SMALL_eq : c_SMALL = .str small := rfl
theorem c_LARGE_eq : c_LARGE = .str large := rfl
theorem c_DIGITS_eq : c_DIGITS = .str digs := rfl
theorem c_WORDS_eq : c_WORDS = .tup (words.map D.str) := rfl
theorem c_LONGEST_eq : c_LONGEST = .int 8 := rfl
def okC (c : Char) : Bool := decide (c ∈ small) || decide (c ∈ digs)
def restB (s : List Char) : Bool := (s.drop 1).all okC
theorem has_plain_rest_run (n : Nat) (s : List Char) (h : AH) (hl : s.length ≤ PySem.sizeLine) : callF (fbOf tab) (n + 1) 0 [.str s] h = .ok (.bl (restB s)) h := by
  rw [cl_has_plain_rest]
  simp only [b_has_plain_rest, e_seq, e_if, ifK_true, ifK_false, e_nil, e_set, setK_var, e_expr, e_ret, e_retN, e_brk, e_cnt, e_for, forK_mk, e_while, e_cst, e_var, e_anil, e_cons, consK_ap, e_n, e_op1, e_op2, op2K_ap, e_and, andK_true, andK_false, e_or, orK_true, orK_false, e_not, noV_ap, e_ite, iteK_true, iteK_false, e_call, e_callK, e_sl, slK_ap, e_oNone, e_oSome, e_bm, bmK_join, bmK_upper, e_tTru, e_tBoo, e_tAn, anK_true, anK_false, e_tO, oK_true, oK_false, e_tNo, noK_ap, pBool_bl, pTru_bl, e_iVal, e_iRng, e_lc, bi_len, bi_int, pLen_kl, pLen_tup, pAdd_int, pSub_int, pNeg_int, pLt_int, pGt_int, pLe_int, pGe_int, pEq_int, pNe_int, pEq_str, pNe_str, pEq_bl, pNe_bl, pIn_char, pNotIn_char, pSl_tup, src_str', src_kl', src_tup', Rs.bind_ok, Rs.bind_bad, Rs.st_ok, RS.seq_next, RS.seq_ret, RS.seq_brk, RS.seq_cnt, RS.out_next, RS.out_ret, RS.out_exc, List.getElem?_cons_zero, List.getElem?_cons_succ, List.set_cons_zero, List.set_cons_succ, wipe', Bool.not_true, Bool.not_false, pSl_str hl, cut_tail, forK_mk]
  refine forL_any_use (fun z => (z.seq _).out = _) (fun x => !(match x with | .str [c] => okC c | _ => true)) (.bl false) rfl ?_ ?_
  · intro x hx
    obtain ⟨c, _, rfl⟩ := List.mem_map.mp hx
    simp only [e_seq, e_if, ifK_true, ifK_false, e_nil, e_set, setK_var, e_expr, e_ret, e_retN, e_brk, e_cnt, e_for, forK_mk, e_while, e_cst, e_var, e_anil, e_cons, consK_ap, e_n, e_op1, e_op2, op2K_ap, e_and, andK_true, andK_false, e_or, orK_true, orK_false, e_not, noV_ap, e_ite, iteK_true, iteK_false, e_call, e_callK, e_sl, slK_ap, e_oNone, e_oSome, e_bm, bmK_join, bmK_upper, e_tTru, e_tBoo, e_tAn, anK_true, anK_false, e_tO, oK_true, oK_false, e_tNo, noK_ap, pBool_bl, pTru_bl, e_iVal, e_iRng, e_lc, bi_len, bi_int, pLen_kl, pLen_tup, pAdd_int, pSub_int, pNeg_int, pLt_int, pGt_int, pLe_int, pGe_int, pEq_int, pNe_int, pEq_str, pNe_str, pEq_bl, pNe_bl, pIn_char, pNotIn_char, pSl_tup, src_str', src_kl', src_tup', Rs.bind_ok, Rs.bind_bad, Rs.st_ok, RS.seq_next, RS.seq_ret, RS.seq_brk, RS.seq_cnt, RS.out_next, RS.out_ret, RS.out_exc, List.getElem?_cons_zero, List.getElem?_cons_succ, List.set_cons_zero, List.set_cons_succ, wipe', Bool.not_true, Bool.not_false, c_SMALL_eq, c_DIGITS_eq]
    cases h1 : decide (c ∈ small) <;> cases h2 : decide (c ∈ digs) <;> simp [okC, h1, h2, e_seq, e_if, ifK_true, ifK_false, e_nil, e_set, setK_var, e_expr, e_ret, e_retN, e_brk, e_cnt, e_for, forK_mk, e_while, e_cst, e_var, e_anil, e_cons, consK_ap, e_n, e_op1, e_op2, op2K_ap, e_and, andK_true, andK_false, e_or, orK_true, orK_false, e_not, noV_ap, e_ite, iteK_true, iteK_false, e_call, e_callK, e_sl, slK_ap, e_oNone, e_oSome, e_bm, bmK_join, bmK_upper, e_tTru, e_tBoo, e_tAn, anK_true, anK_false, e_tO, oK_true, oK_false, e_tNo, noK_ap, pBool_bl, pTru_bl, e_iVal, e_iRng, e_lc, bi_len, bi_int, pLen_kl, pLen_tup, pAdd_int, pSub_int, pNeg_int, pLt_int, pGt_int, pLe_int, pGe_int, pEq_int, pNe_int, pEq_str, pNe_str, pEq_bl, pNe_bl, pIn_char, pNotIn_char, pSl_tup, src_str', src_kl', src_tup', Rs.bind_ok, Rs.bind_bad, Rs.st_ok, RS.seq_next, RS.seq_ret, RS.seq_brk, RS.seq_cnt, RS.out_next, RS.out_ret, RS.out_exc, List.getElem?_cons_zero, List.getElem?_cons_succ, List.set_cons_zero, List.set_cons_succ, wipe', Bool.not_true, Bool.not_false]
  · intro v
    rw [List.any_map]
    have e : (s.drop 1).any ((fun x => !(match x with | D.str [c] => okC c | _ => true)) ∘ fun c => D.str [c]) = !restB s := by
      unfold restB
      rw [List.not_all_eq_any_not]
      rfl
    rw [e]
    cases restB s <;> rfl
def lenOk (s : List Char) : Bool := !(decide ((s.length : Int) < 1) || decide (8 < (s.length : Int)))
def headIn (l s : List Char) : Bool := match s with
  | [] => false
  | c :: _ => decide (c ∈ l)
def nameB (s : List Char) : Bool := lenOk s && (headIn small s && (restB s && !decide (s ∈ words)))
def varB (s : List Char) : Bool := lenOk s && (headIn large s && restB s)
theorem is_name_run (n : Nat) (s : List Char) (h : AH) (hl : s.length ≤ PySem.sizeLine) : callF (fbOf tab) (n + 2) 1 [.str s] h = .ok (.bl (nameB s)) h := by
  rw [cl_is_name]
  simp only [b_is_name, e_seq, e_if, ifK_true, ifK_false, e_nil, e_set, setK_var, e_expr, e_ret, e_retN, e_brk, e_cnt, e_for, forK_mk, e_while, e_cst, e_var, e_anil, e_cons, consK_ap, e_n, e_op1, e_op2, op2K_ap, e_and, andK_true, andK_false, e_or, orK_true, orK_false, e_not, noV_ap, e_ite, iteK_true, iteK_false, e_call, e_callK, e_sl, slK_ap, e_oNone, e_oSome, e_bm, bmK_join, bmK_upper, e_tTru, e_tBoo, e_tAn, anK_true, anK_false, e_tO, oK_true, oK_false, e_tNo, noK_ap, pBool_bl, pTru_bl, e_iVal, e_iRng, e_lc, bi_len, bi_int, pLen_kl, pLen_tup, pAdd_int, pSub_int, pNeg_int, pLt_int, pGt_int, pLe_int, pGe_int, pEq_int, pNe_int, pEq_str, pNe_str, pEq_bl, pNe_bl, pIn_char, pNotIn_char, pSl_tup, src_str', src_kl', src_tup', Rs.bind_ok, Rs.bind_bad, Rs.st_ok, RS.seq_next, RS.seq_ret, RS.seq_brk, RS.seq_cnt, RS.out_next, RS.out_ret, RS.out_exc, List.getElem?_cons_zero, List.getElem?_cons_succ, List.set_cons_zero, List.set_cons_succ, wipe', Bool.not_true, Bool.not_false, pLen_str hl, c_LONGEST_eq]
  unfold nameB lenOk
  cases h1 : decide ((s.length : Int) < 1) with
  | true => simp only [e_seq, e_if, ifK_true, ifK_false, e_nil, e_set, setK_var, e_expr, e_ret, e_retN, e_brk, e_cnt, e_for, forK_mk, e_while, e_cst, e_var, e_anil, e_cons, consK_ap, e_n, e_op1, e_op2, op2K_ap, e_and, andK_true, andK_false, e_or, orK_true, orK_false, e_not, noV_ap, e_ite, iteK_true, iteK_false, e_call, e_callK, e_sl, slK_ap, e_oNone, e_oSome, e_bm, bmK_join, bmK_upper, e_tTru, e_tBoo, e_tAn, anK_true, anK_false, e_tO, oK_true, oK_false, e_tNo, noK_ap, pBool_bl, pTru_bl, e_iVal, e_iRng, e_lc, bi_len, bi_int, pLen_kl, pLen_tup, pAdd_int, pSub_int, pNeg_int, pLt_int, pGt_int, pLe_int, pGe_int, pEq_int, pNe_int, pEq_str, pNe_str, pEq_bl, pNe_bl, pIn_char, pNotIn_char, pSl_tup, src_str', src_kl', src_tup', Rs.bind_ok, Rs.bind_bad, Rs.st_ok, RS.seq_next, RS.seq_ret, RS.seq_brk, RS.seq_cnt, RS.out_next, RS.out_ret, RS.out_exc, List.getElem?_cons_zero, List.getElem?_cons_succ, List.set_cons_zero, List.set_cons_succ, wipe', Bool.not_true, Bool.not_false, Bool.true_or, Bool.false_and]
  | false =>
    simp only [e_seq, e_if, ifK_true, ifK_false, e_nil, e_set, setK_var, e_expr, e_ret, e_retN, e_brk, e_cnt, e_for, forK_mk, e_while, e_cst, e_var, e_anil, e_cons, consK_ap, e_n, e_op1, e_op2, op2K_ap, e_and, andK_true, andK_false, e_or, orK_true, orK_false, e_not, noV_ap, e_ite, iteK_true, iteK_false, e_call, e_callK, e_sl, slK_ap, e_oNone, e_oSome, e_bm, bmK_join, bmK_upper, e_tTru, e_tBoo, e_tAn, anK_true, anK_false, e_tO, oK_true, oK_false, e_tNo, noK_ap, pBool_bl, pTru_bl, e_iVal, e_iRng, e_lc, bi_len, bi_int, pLen_kl, pLen_tup, pAdd_int, pSub_int, pNeg_int, pLt_int, pGt_int, pLe_int, pGe_int, pEq_int, pNe_int, pEq_str, pNe_str, pEq_bl, pNe_bl, pIn_char, pNotIn_char, pSl_tup, src_str', src_kl', src_tup', Rs.bind_ok, Rs.bind_bad, Rs.st_ok, RS.seq_next, RS.seq_ret, RS.seq_brk, RS.seq_cnt, RS.out_next, RS.out_ret, RS.out_exc, List.getElem?_cons_zero, List.getElem?_cons_succ, List.set_cons_zero, List.set_cons_succ, wipe', Bool.not_true, Bool.not_false, pLen_str hl, c_LONGEST_eq]
    cases h2 : decide (8 < (s.length : Int)) with
    | true => simp only [e_seq, e_if, ifK_true, ifK_false, e_nil, e_set, setK_var, e_expr, e_ret, e_retN, e_brk, e_cnt, e_for, forK_mk, e_while, e_cst, e_var, e_anil, e_cons, consK_ap, e_n, e_op1, e_op2, op2K_ap, e_and, andK_true, andK_false, e_or, orK_true, orK_false, e_not, noV_ap, e_ite, iteK_true, iteK_false, e_call, e_callK, e_sl, slK_ap, e_oNone, e_oSome, e_bm, bmK_join, bmK_upper, e_tTru, e_tBoo, e_tAn, anK_true, anK_false, e_tO, oK_true, oK_false, e_tNo, noK_ap, pBool_bl, pTru_bl, e_iVal, e_iRng, e_lc, bi_len, bi_int, pLen_kl, pLen_tup, pAdd_int, pSub_int, pNeg_int, pLt_int, pGt_int, pLe_int, pGe_int, pEq_int, pNe_int, pEq_str, pNe_str, pEq_bl, pNe_bl, pIn_char, pNotIn_char, pSl_tup, src_str', src_kl', src_tup', Rs.bind_ok, Rs.bind_bad, Rs.st_ok, RS.seq_next, RS.seq_ret, RS.seq_brk, RS.seq_cnt, RS.out_next, RS.out_ret, RS.out_exc, List.getElem?_cons_zero, List.getElem?_cons_succ, List.set_cons_zero, List.set_cons_succ, wipe', Bool.not_true, Bool.not_false, Bool.or_true, Bool.false_and]
    | false =>
      cases s with
      | nil => simp at h1
      | cons c r =>
        simp only [e_seq, e_if, ifK_true, ifK_false, e_nil, e_set, setK_var, e_expr, e_ret, e_retN, e_brk, e_cnt, e_for, forK_mk, e_while, e_cst, e_var, e_anil, e_cons, consK_ap, e_n, e_op1, e_op2, op2K_ap, e_and, andK_true, andK_false, e_or, orK_true, orK_false, e_not, noV_ap, e_ite, iteK_true, iteK_false, e_call, e_callK, e_sl, slK_ap, e_oNone, e_oSome, e_bm, bmK_join, bmK_upper, e_tTru, e_tBoo, e_tAn, anK_true, anK_false, e_tO, oK_true, oK_false, e_tNo, noK_ap, pBool_bl, pTru_bl, e_iVal, e_iRng, e_lc, bi_len, bi_int, pLen_kl, pLen_tup, pAdd_int, pSub_int, pNeg_int, pLt_int, pGt_int, pLe_int, pGe_int, pEq_int, pNe_int, pEq_str, pNe_str, pEq_bl, pNe_bl, pIn_char, pNotIn_char, pSl_tup, src_str', src_kl', src_tup', Rs.bind_ok, Rs.bind_bad, Rs.st_ok, RS.seq_next, RS.seq_ret, RS.seq_brk, RS.seq_cnt, RS.out_next, RS.out_ret, RS.out_exc, List.getElem?_cons_zero, List.getElem?_cons_succ, List.set_cons_zero, List.set_cons_succ, wipe', Bool.not_true, Bool.not_false, pIx_str (atI_head c r) hl, c_SMALL_eq, Bool.or_false, Bool.true_and, headIn]
        cases h3 : decide (c ∈ small) with
        | false => simp only [e_seq, e_if, ifK_true, ifK_false, e_nil, e_set, setK_var, e_expr, e_ret, e_retN, e_brk, e_cnt, e_for, forK_mk, e_while, e_cst, e_var, e_anil, e_cons, consK_ap, e_n, e_op1, e_op2, op2K_ap, e_and, andK_true, andK_false, e_or, orK_true, orK_false, e_not, noV_ap, e_ite, iteK_true, iteK_false, e_call, e_callK, e_sl, slK_ap, e_oNone, e_oSome, e_bm, bmK_join, bmK_upper, e_tTru, e_tBoo, e_tAn, anK_true, anK_false, e_tO, oK_true, oK_false, e_tNo, noK_ap, pBool_bl, pTru_bl, e_iVal, e_iRng, e_lc, bi_len, bi_int, pLen_kl, pLen_tup, pAdd_int, pSub_int, pNeg_int, pLt_int, pGt_int, pLe_int, pGe_int, pEq_int, pNe_int, pEq_str, pNe_str, pEq_bl, pNe_bl, pIn_char, pNotIn_char, pSl_tup, src_str', src_kl', src_tup', Rs.bind_ok, Rs.bind_bad, Rs.st_ok, RS.seq_next, RS.seq_ret, RS.seq_brk, RS.seq_cnt, RS.out_next, RS.out_ret, RS.out_exc, List.getElem?_cons_zero, List.getElem?_cons_succ, List.set_cons_zero, List.set_cons_succ, wipe', Bool.not_true, Bool.not_false, Bool.false_and]
        | true =>
          simp only [e_seq, e_if, ifK_true, ifK_false, e_nil, e_set, setK_var, e_expr, e_ret, e_retN, e_brk, e_cnt, e_for, forK_mk, e_while, e_cst, e_var, e_anil, e_cons, consK_ap, e_n, e_op1, e_op2, op2K_ap, e_and, andK_true, andK_false, e_or, orK_true, orK_false, e_not, noV_ap, e_ite, iteK_true, iteK_false, e_call, e_callK, e_sl, slK_ap, e_oNone, e_oSome, e_bm, bmK_join, bmK_upper, e_tTru, e_tBoo, e_tAn, anK_true, anK_false, e_tO, oK_true, oK_false, e_tNo, noK_ap, pBool_bl, pTru_bl, e_iVal, e_iRng, e_lc, bi_len, bi_int, pLen_kl, pLen_tup, pAdd_int, pSub_int, pNeg_int, pLt_int, pGt_int, pLe_int, pGe_int, pEq_int, pNe_int, pEq_str, pNe_str, pEq_bl, pNe_bl, pIn_char, pNotIn_char, pSl_tup, src_str', src_kl', src_tup', Rs.bind_ok, Rs.bind_bad, Rs.st_ok, RS.seq_next, RS.seq_ret, RS.seq_brk, RS.seq_cnt, RS.out_next, RS.out_ret, RS.out_exc, List.getElem?_cons_zero, List.getElem?_cons_succ, List.set_cons_zero, List.set_cons_succ, wipe', Bool.not_true, Bool.not_false, has_plain_rest_run n _ _ hl, Bool.true_and]
          cases h4 : restB (c :: r) with
          | false => simp only [e_seq, e_if, ifK_true, ifK_false, e_nil, e_set, setK_var, e_expr, e_ret, e_retN, e_brk, e_cnt, e_for, forK_mk, e_while, e_cst, e_var, e_anil, e_cons, consK_ap, e_n, e_op1, e_op2, op2K_ap, e_and, andK_true, andK_false, e_or, orK_true, orK_false, e_not, noV_ap, e_ite, iteK_true, iteK_false, e_call, e_callK, e_sl, slK_ap, e_oNone, e_oSome, e_bm, bmK_join, bmK_upper, e_tTru, e_tBoo, e_tAn, anK_true, anK_false, e_tO, oK_true, oK_false, e_tNo, noK_ap, pBool_bl, pTru_bl, e_iVal, e_iRng, e_lc, bi_len, bi_int, pLen_kl, pLen_tup, pAdd_int, pSub_int, pNeg_int, pLt_int, pGt_int, pLe_int, pGe_int, pEq_int, pNe_int, pEq_str, pNe_str, pEq_bl, pNe_bl, pIn_char, pNotIn_char, pSl_tup, src_str', src_kl', src_tup', Rs.bind_ok, Rs.bind_bad, Rs.st_ok, RS.seq_next, RS.seq_ret, RS.seq_brk, RS.seq_cnt, RS.out_next, RS.out_ret, RS.out_exc, List.getElem?_cons_zero, List.getElem?_cons_succ, List.set_cons_zero, List.set_cons_succ, wipe', Bool.not_true, Bool.not_false, Bool.false_and]
          | true => simp only [e_seq, e_if, ifK_true, ifK_false, e_nil, e_set, setK_var, e_expr, e_ret, e_retN, e_brk, e_cnt, e_for, forK_mk, e_while, e_cst, e_var, e_anil, e_cons, consK_ap, e_n, e_op1, e_op2, op2K_ap, e_and, andK_true, andK_false, e_or, orK_true, orK_false, e_not, noV_ap, e_ite, iteK_true, iteK_false, e_call, e_callK, e_sl, slK_ap, e_oNone, e_oSome, e_bm, bmK_join, bmK_upper, e_tTru, e_tBoo, e_tAn, anK_true, anK_false, e_tO, oK_true, oK_false, e_tNo, noK_ap, pBool_bl, pTru_bl, e_iVal, e_iRng, e_lc, bi_len, bi_int, pLen_kl, pLen_tup, pAdd_int, pSub_int, pNeg_int, pLt_int, pGt_int, pLe_int, pGe_int, pEq_int, pNe_int, pEq_str, pNe_str, pEq_bl, pNe_bl, pIn_char, pNotIn_char, pSl_tup, src_str', src_kl', src_tup', Rs.bind_ok, Rs.bind_bad, Rs.st_ok, RS.seq_next, RS.seq_ret, RS.seq_brk, RS.seq_cnt, RS.out_next, RS.out_ret, RS.out_exc, List.getElem?_cons_zero, List.getElem?_cons_succ, List.set_cons_zero, List.set_cons_succ, wipe', Bool.not_true, Bool.not_false, c_WORDS_eq, pNotIn_of (inD_strs items_tup), Bool.true_and]
theorem is_variable_name_run (n : Nat) (s : List Char) (h : AH) (hl : s.length ≤ PySem.sizeLine) : callF (fbOf tab) (n + 2) 2 [.str s] h = .ok (.bl (varB s)) h := by
  rw [cl_is_variable_name]
  simp only [b_is_variable_name, e_seq, e_if, ifK_true, ifK_false, e_nil, e_set, setK_var, e_expr, e_ret, e_retN, e_brk, e_cnt, e_for, forK_mk, e_while, e_cst, e_var, e_anil, e_cons, consK_ap, e_n, e_op1, e_op2, op2K_ap, e_and, andK_true, andK_false, e_or, orK_true, orK_false, e_not, noV_ap, e_ite, iteK_true, iteK_false, e_call, e_callK, e_sl, slK_ap, e_oNone, e_oSome, e_bm, bmK_join, bmK_upper, e_tTru, e_tBoo, e_tAn, anK_true, anK_false, e_tO, oK_true, oK_false, e_tNo, noK_ap, pBool_bl, pTru_bl, e_iVal, e_iRng, e_lc, bi_len, bi_int, pLen_kl, pLen_tup, pAdd_int, pSub_int, pNeg_int, pLt_int, pGt_int, pLe_int, pGe_int, pEq_int, pNe_int, pEq_str, pNe_str, pEq_bl, pNe_bl, pIn_char, pNotIn_char, pSl_tup, src_str', src_kl', src_tup', Rs.bind_ok, Rs.bind_bad, Rs.st_ok, RS.seq_next, RS.seq_ret, RS.seq_brk, RS.seq_cnt, RS.out_next, RS.out_ret, RS.out_exc, List.getElem?_cons_zero, List.getElem?_cons_succ, List.set_cons_zero, List.set_cons_succ, wipe', Bool.not_true, Bool.not_false, pLen_str hl, c_LONGEST_eq]
  unfold varB lenOk
  cases h1 : decide ((s.length : Int) < 1) with
  | true => simp only [e_seq, e_if, ifK_true, ifK_false, e_nil, e_set, setK_var, e_expr, e_ret, e_retN, e_brk, e_cnt, e_for, forK_mk, e_while, e_cst, e_var, e_anil, e_cons, consK_ap, e_n, e_op1, e_op2, op2K_ap, e_and, andK_true, andK_false, e_or, orK_true, orK_false, e_not, noV_ap, e_ite, iteK_true, iteK_false, e_call, e_callK, e_sl, slK_ap, e_oNone, e_oSome, e_bm, bmK_join, bmK_upper, e_tTru, e_tBoo, e_tAn, anK_true, anK_false, e_tO, oK_true, oK_false, e_tNo, noK_ap, pBool_bl, pTru_bl, e_iVal, e_iRng, e_lc, bi_len, bi_int, pLen_kl, pLen_tup, pAdd_int, pSub_int, pNeg_int, pLt_int, pGt_int, pLe_int, pGe_int, pEq_int, pNe_int, pEq_str, pNe_str, pEq_bl, pNe_bl, pIn_char, pNotIn_char, pSl_tup, src_str', src_kl', src_tup', Rs.bind_ok, Rs.bind_bad, Rs.st_ok, RS.seq_next, RS.seq_ret, RS.seq_brk, RS.seq_cnt, RS.out_next, RS.out_ret, RS.out_exc, List.getElem?_cons_zero, List.getElem?_cons_succ, List.set_cons_zero, List.set_cons_succ, wipe', Bool.not_true, Bool.not_false, Bool.true_or, Bool.false_and]
  | false =>
    simp only [e_seq, e_if, ifK_true, ifK_false, e_nil, e_set, setK_var, e_expr, e_ret, e_retN, e_brk, e_cnt, e_for, forK_mk, e_while, e_cst, e_var, e_anil, e_cons, consK_ap, e_n, e_op1, e_op2, op2K_ap, e_and, andK_true, andK_false, e_or, orK_true, orK_false, e_not, noV_ap, e_ite, iteK_true, iteK_false, e_call, e_callK, e_sl, slK_ap, e_oNone, e_oSome, e_bm, bmK_join, bmK_upper, e_tTru, e_tBoo, e_tAn, anK_true, anK_false, e_tO, oK_true, oK_false, e_tNo, noK_ap, pBool_bl, pTru_bl, e_iVal, e_iRng, e_lc, bi_len, bi_int, pLen_kl, pLen_tup, pAdd_int, pSub_int, pNeg_int, pLt_int, pGt_int, pLe_int, pGe_int, pEq_int, pNe_int, pEq_str, pNe_str, pEq_bl, pNe_bl, pIn_char, pNotIn_char, pSl_tup, src_str', src_kl', src_tup', Rs.bind_ok, Rs.bind_bad, Rs.st_ok, RS.seq_next, RS.seq_ret, RS.seq_brk, RS.seq_cnt, RS.out_next, RS.out_ret, RS.out_exc, List.getElem?_cons_zero, List.getElem?_cons_succ, List.set_cons_zero, List.set_cons_succ, wipe', Bool.not_true, Bool.not_false, pLen_str hl, c_LONGEST_eq]
    cases h2 : decide (8 < (s.length : Int)) with
    | true => simp only [e_seq, e_if, ifK_true, ifK_false, e_nil, e_set, setK_var, e_expr, e_ret, e_retN, e_brk, e_cnt, e_for, forK_mk, e_while, e_cst, e_var, e_anil, e_cons, consK_ap, e_n, e_op1, e_op2, op2K_ap, e_and, andK_true, andK_false, e_or, orK_true, orK_false, e_not, noV_ap, e_ite, iteK_true, iteK_false, e_call, e_callK, e_sl, slK_ap, e_oNone, e_oSome, e_bm, bmK_join, bmK_upper, e_tTru, e_tBoo, e_tAn, anK_true, anK_false, e_tO, oK_true, oK_false, e_tNo, noK_ap, pBool_bl, pTru_bl, e_iVal, e_iRng, e_lc, bi_len, bi_int, pLen_kl, pLen_tup, pAdd_int, pSub_int, pNeg_int, pLt_int, pGt_int, pLe_int, pGe_int, pEq_int, pNe_int, pEq_str, pNe_str, pEq_bl, pNe_bl, pIn_char, pNotIn_char, pSl_tup, src_str', src_kl', src_tup', Rs.bind_ok, Rs.bind_bad, Rs.st_ok, RS.seq_next, RS.seq_ret, RS.seq_brk, RS.seq_cnt, RS.out_next, RS.out_ret, RS.out_exc, List.getElem?_cons_zero, List.getElem?_cons_succ, List.set_cons_zero, List.set_cons_succ, wipe', Bool.not_true, Bool.not_false, Bool.or_true, Bool.false_and]
    | false =>
      cases s with
      | nil => simp at h1
      | cons c r =>
        simp only [e_seq, e_if, ifK_true, ifK_false, e_nil, e_set, setK_var, e_expr, e_ret, e_retN, e_brk, e_cnt, e_for, forK_mk, e_while, e_cst, e_var, e_anil, e_cons, consK_ap, e_n, e_op1, e_op2, op2K_ap, e_and, andK_true, andK_false, e_or, orK_true, orK_false, e_not, noV_ap, e_ite, iteK_true, iteK_false, e_call, e_callK, e_sl, slK_ap, e_oNone, e_oSome, e_bm, bmK_join, bmK_upper, e_tTru, e_tBoo, e_tAn, anK_true, anK_false, e_tO, oK_true, oK_false, e_tNo, noK_ap, pBool_bl, pTru_bl, e_iVal, e_iRng, e_lc, bi_len, bi_int, pLen_kl, pLen_tup, pAdd_int, pSub_int, pNeg_int, pLt_int, pGt_int, pLe_int, pGe_int, pEq_int, pNe_int, pEq_str, pNe_str, pEq_bl, pNe_bl, pIn_char, pNotIn_char, pSl_tup, src_str', src_kl', src_tup', Rs.bind_ok, Rs.bind_bad, Rs.st_ok, RS.seq_next, RS.seq_ret, RS.seq_brk, RS.seq_cnt, RS.out_next, RS.out_ret, RS.out_exc, List.getElem?_cons_zero, List.getElem?_cons_succ, List.set_cons_zero, List.set_cons_succ, wipe', Bool.not_true, Bool.not_false, pIx_str (atI_head c r) hl, c_LARGE_eq, Bool.or_false, Bool.true_and, headIn]
        cases h3 : decide (c ∈ large) with
        | false => simp only [e_seq, e_if, ifK_true, ifK_false, e_nil, e_set, setK_var, e_expr, e_ret, e_retN, e_brk, e_cnt, e_for, forK_mk, e_while, e_cst, e_var, e_anil, e_cons, consK_ap, e_n, e_op1, e_op2, op2K_ap, e_and, andK_true, andK_false, e_or, orK_true, orK_false, e_not, noV_ap, e_ite, iteK_true, iteK_false, e_call, e_callK, e_sl, slK_ap, e_oNone, e_oSome, e_bm, bmK_join, bmK_upper, e_tTru, e_tBoo, e_tAn, anK_true, anK_false, e_tO, oK_true, oK_false, e_tNo, noK_ap, pBool_bl, pTru_bl, e_iVal, e_iRng, e_lc, bi_len, bi_int, pLen_kl, pLen_tup, pAdd_int, pSub_int, pNeg_int, pLt_int, pGt_int, pLe_int, pGe_int, pEq_int, pNe_int, pEq_str, pNe_str, pEq_bl, pNe_bl, pIn_char, pNotIn_char, pSl_tup, src_str', src_kl', src_tup', Rs.bind_ok, Rs.bind_bad, Rs.st_ok, RS.seq_next, RS.seq_ret, RS.seq_brk, RS.seq_cnt, RS.out_next, RS.out_ret, RS.out_exc, List.getElem?_cons_zero, List.getElem?_cons_succ, List.set_cons_zero, List.set_cons_succ, wipe', Bool.not_true, Bool.not_false, Bool.false_and]
        | true => simp only [e_seq, e_if, ifK_true, ifK_false, e_nil, e_set, setK_var, e_expr, e_ret, e_retN, e_brk, e_cnt, e_for, forK_mk, e_while, e_cst, e_var, e_anil, e_cons, consK_ap, e_n, e_op1, e_op2, op2K_ap, e_and, andK_true, andK_false, e_or, orK_true, orK_false, e_not, noV_ap, e_ite, iteK_true, iteK_false, e_call, e_callK, e_sl, slK_ap, e_oNone, e_oSome, e_bm, bmK_join, bmK_upper, e_tTru, e_tBoo, e_tAn, anK_true, anK_false, e_tO, oK_true, oK_false, e_tNo, noK_ap, pBool_bl, pTru_bl, e_iVal, e_iRng, e_lc, bi_len, bi_int, pLen_kl, pLen_tup, pAdd_int, pSub_int, pNeg_int, pLt_int, pGt_int, pLe_int, pGe_int, pEq_int, pNe_int, pEq_str, pNe_str, pEq_bl, pNe_bl, pIn_char, pNotIn_char, pSl_tup, src_str', src_kl', src_tup', Rs.bind_ok, Rs.bind_bad, Rs.st_ok, RS.seq_next, RS.seq_ret, RS.seq_brk, RS.seq_cnt, RS.out_next, RS.out_ret, RS.out_exc, List.getElem?_cons_zero, List.getElem?_cons_succ, List.set_cons_zero, List.set_cons_succ, wipe', Bool.not_true, Bool.not_false, has_plain_rest_run n _ _ hl, Bool.true_and]
def alnum : List Char := small ++ digs
theorem ok_alnum (c : Char) : decide (c ∈ alnum) = okC c := by
  unfold alnum okC
  rw [Bool.eq_iff_iff]
  simp [List.mem_append]
theorem alnum_eq : ['a', 'b', 'c', 'd', 'e', 'f', 'g', 'h', 'i', 'j', 'k', 'l', 'm', 'n', 'o', 'p', 'q', 'r', 's', 't', 'u', 'v', 'w', 'x', 'y', 'z', '0', '1', '2', '3', '4', '5', '6', '7', '8', '9'] = alnum := rfl
theorem words_run (n : Nat) (h : AH) : ∃ t, callF (fbOf tab) (n + 1) 6 [] h = .ok (.ref (h.length + 2)) (h ++ t) ∧ (h ++ t)[h.length + 2]? = some (.lst ((words ++ words2).map D.str)) := by
  refine ⟨[.lst (words.map D.str), .lst (words2.map D.str), .lst ((words ++ words2).map D.str)], ?_, by simp⟩
  rw [cl__law_words]
  have l1 : ([.str ['a', 'l', 'l'], .str ['s', 'o', 'm', 'e'], .str ['n', 'o', 't'], .str ['a', 'n', 'd'], .str ['o', 'r'], .str ['i', 'm', 'p', 'l', 'i', 'e', 's'], .str ['i', 'f', 'f'], .str ['t', 'r', 'u', 'e'], .str ['f', 'a', 'l', 's', 'e'], .str ['t', 'r', 'u', 't', 'h'], .str ['s', 'o', 'r', 't'], .str ['f', 'u', 'n', 'c', 't', 'i', 'o', 'n'], .str ['a', 'x', 'i', 'o', 'm']] : List D) = words.map D.str := rfl
  simp only [b__law_words, e_seq, e_if, ifK_true, ifK_false, e_nil, e_set, setK_var, e_expr, e_ret, e_retN, e_brk, e_cnt, e_for, forK_mk, e_while, e_cst, e_var, e_anil, e_cons, consK_ap, e_n, e_op1, e_op2, op2K_ap, e_and, andK_true, andK_false, e_or, orK_true, orK_false, e_not, noV_ap, e_ite, iteK_true, iteK_false, e_call, e_callK, e_sl, slK_ap, e_oNone, e_oSome, e_bm, bmK_join, bmK_upper, e_tTru, e_tBoo, e_tAn, anK_true, anK_false, e_tO, oK_true, oK_false, e_tNo, noK_ap, pBool_bl, pTru_bl, e_iVal, e_iRng, e_lc, bi_len, bi_int, pLen_kl, pLen_tup, pAdd_int, pSub_int, pNeg_int, pLt_int, pGt_int, pLe_int, pGe_int, pEq_int, pNe_int, pEq_str, pNe_str, pEq_bl, pNe_bl, pIn_char, pNotIn_char, pSl_tup, src_str', src_kl', src_tup', Rs.bind_ok, Rs.bind_bad, Rs.st_ok, RS.seq_next, RS.seq_ret, RS.seq_brk, RS.seq_cnt, RS.out_next, RS.out_ret, RS.out_exc, List.getElem?_cons_zero, List.getElem?_cons_succ, List.set_cons_zero, List.set_cons_succ, wipe', Bool.not_true, Bool.not_false]
  rw [pLst_run (by decide)]
  simp only [e_seq, e_if, ifK_true, ifK_false, e_nil, e_set, setK_var, e_expr, e_ret, e_retN, e_brk, e_cnt, e_for, forK_mk, e_while, e_cst, e_var, e_anil, e_cons, consK_ap, e_n, e_op1, e_op2, op2K_ap, e_and, andK_true, andK_false, e_or, orK_true, orK_false, e_not, noV_ap, e_ite, iteK_true, iteK_false, e_call, e_callK, e_sl, slK_ap, e_oNone, e_oSome, e_bm, bmK_join, bmK_upper, e_tTru, e_tBoo, e_tAn, anK_true, anK_false, e_tO, oK_true, oK_false, e_tNo, noK_ap, pBool_bl, pTru_bl, e_iVal, e_iRng, e_lc, bi_len, bi_int, pLen_kl, pLen_tup, pAdd_int, pSub_int, pNeg_int, pLt_int, pGt_int, pLe_int, pGe_int, pEq_int, pNe_int, pEq_str, pNe_str, pEq_bl, pNe_bl, pIn_char, pNotIn_char, pSl_tup, src_str', src_kl', src_tup', Rs.bind_ok, Rs.bind_bad, Rs.st_ok, RS.seq_next, RS.seq_ret, RS.seq_brk, RS.seq_cnt, RS.out_next, RS.out_ret, RS.out_exc, List.getElem?_cons_zero, List.getElem?_cons_succ, List.set_cons_zero, List.set_cons_succ, wipe', Bool.not_true, Bool.not_false]
  rw [pLst_run (by decide)]
  simp only [e_seq, e_if, ifK_true, ifK_false, e_nil, e_set, setK_var, e_expr, e_ret, e_retN, e_brk, e_cnt, e_for, forK_mk, e_while, e_cst, e_var, e_anil, e_cons, consK_ap, e_n, e_op1, e_op2, op2K_ap, e_and, andK_true, andK_false, e_or, orK_true, orK_false, e_not, noV_ap, e_ite, iteK_true, iteK_false, e_call, e_callK, e_sl, slK_ap, e_oNone, e_oSome, e_bm, bmK_join, bmK_upper, e_tTru, e_tBoo, e_tAn, anK_true, anK_false, e_tO, oK_true, oK_false, e_tNo, noK_ap, pBool_bl, pTru_bl, e_iVal, e_iRng, e_lc, bi_len, bi_int, pLen_kl, pLen_tup, pAdd_int, pSub_int, pNeg_int, pLt_int, pGt_int, pLe_int, pGe_int, pEq_int, pNe_int, pEq_str, pNe_str, pEq_bl, pNe_bl, pIn_char, pNotIn_char, pSl_tup, src_str', src_kl', src_tup', Rs.bind_ok, Rs.bind_bad, Rs.st_ok, RS.seq_next, RS.seq_ret, RS.seq_brk, RS.seq_cnt, RS.out_next, RS.out_ret, RS.out_exc, List.getElem?_cons_zero, List.getElem?_cons_succ, List.set_cons_zero, List.set_cons_succ, wipe', Bool.not_true, Bool.not_false]
  rw [pAdd_lst (s := words.map D.str) (t := words2.map D.str) (by simp [words]) (by simp [words2]) (by decide)]
  simp [RS.out_ret, words, words2]
theorem plain_run (n : Nat) (s : List Char) (h : AH) (hl : s.length ≤ PySem.sizeLine) : ∃ t, callF (fbOf tab) (n + 1) 9 [.str s] h = .ok (.bl (lenOk s && restB s)) (h ++ t) := by
  rw [cl__law_plain]
  simp only [b__law_plain, e_seq, e_if, ifK_true, ifK_false, e_nil, e_set, setK_var, e_expr, e_ret, e_retN, e_brk, e_cnt, e_for, forK_mk, e_while, e_cst, e_var, e_anil, e_cons, consK_ap, e_n, e_op1, e_op2, op2K_ap, e_and, andK_true, andK_false, e_or, orK_true, orK_false, e_not, noV_ap, e_ite, iteK_true, iteK_false, e_call, e_callK, e_sl, slK_ap, e_oNone, e_oSome, e_bm, bmK_join, bmK_upper, e_tTru, e_tBoo, e_tAn, anK_true, anK_false, e_tO, oK_true, oK_false, e_tNo, noK_ap, pBool_bl, pTru_bl, e_iVal, e_iRng, e_lc, bi_len, bi_int, pLen_kl, pLen_tup, pAdd_int, pSub_int, pNeg_int, pLt_int, pGt_int, pLe_int, pGe_int, pEq_int, pNe_int, pEq_str, pNe_str, pEq_bl, pNe_bl, pIn_char, pNotIn_char, pSl_tup, src_str', src_kl', src_tup', Rs.bind_ok, Rs.bind_bad, Rs.st_ok, RS.seq_next, RS.seq_ret, RS.seq_brk, RS.seq_cnt, RS.out_next, RS.out_ret, RS.out_exc, List.getElem?_cons_zero, List.getElem?_cons_succ, List.set_cons_zero, List.set_cons_succ, wipe', Bool.not_true, Bool.not_false, pLen_str hl]
  unfold lenOk
  cases h1 : decide ((s.length : Int) < 1) with
  | true => exact ⟨[], by simp only [e_seq, e_if, ifK_true, ifK_false, e_nil, e_set, setK_var, e_expr, e_ret, e_retN, e_brk, e_cnt, e_for, forK_mk, e_while, e_cst, e_var, e_anil, e_cons, consK_ap, e_n, e_op1, e_op2, op2K_ap, e_and, andK_true, andK_false, e_or, orK_true, orK_false, e_not, noV_ap, e_ite, iteK_true, iteK_false, e_call, e_callK, e_sl, slK_ap, e_oNone, e_oSome, e_bm, bmK_join, bmK_upper, e_tTru, e_tBoo, e_tAn, anK_true, anK_false, e_tO, oK_true, oK_false, e_tNo, noK_ap, pBool_bl, pTru_bl, e_iVal, e_iRng, e_lc, bi_len, bi_int, pLen_kl, pLen_tup, pAdd_int, pSub_int, pNeg_int, pLt_int, pGt_int, pLe_int, pGe_int, pEq_int, pNe_int, pEq_str, pNe_str, pEq_bl, pNe_bl, pIn_char, pNotIn_char, pSl_tup, src_str', src_kl', src_tup', Rs.bind_ok, Rs.bind_bad, Rs.st_ok, RS.seq_next, RS.seq_ret, RS.seq_brk, RS.seq_cnt, RS.out_next, RS.out_ret, RS.out_exc, List.getElem?_cons_zero, List.getElem?_cons_succ, List.set_cons_zero, List.set_cons_succ, wipe', Bool.not_true, Bool.not_false, Bool.true_or, Bool.false_and, List.append_nil]⟩
  | false =>
    simp only [e_seq, e_if, ifK_true, ifK_false, e_nil, e_set, setK_var, e_expr, e_ret, e_retN, e_brk, e_cnt, e_for, forK_mk, e_while, e_cst, e_var, e_anil, e_cons, consK_ap, e_n, e_op1, e_op2, op2K_ap, e_and, andK_true, andK_false, e_or, orK_true, orK_false, e_not, noV_ap, e_ite, iteK_true, iteK_false, e_call, e_callK, e_sl, slK_ap, e_oNone, e_oSome, e_bm, bmK_join, bmK_upper, e_tTru, e_tBoo, e_tAn, anK_true, anK_false, e_tO, oK_true, oK_false, e_tNo, noK_ap, pBool_bl, pTru_bl, e_iVal, e_iRng, e_lc, bi_len, bi_int, pLen_kl, pLen_tup, pAdd_int, pSub_int, pNeg_int, pLt_int, pGt_int, pLe_int, pGe_int, pEq_int, pNe_int, pEq_str, pNe_str, pEq_bl, pNe_bl, pIn_char, pNotIn_char, pSl_tup, src_str', src_kl', src_tup', Rs.bind_ok, Rs.bind_bad, Rs.st_ok, RS.seq_next, RS.seq_ret, RS.seq_brk, RS.seq_cnt, RS.out_next, RS.out_ret, RS.out_exc, List.getElem?_cons_zero, List.getElem?_cons_succ, List.set_cons_zero, List.set_cons_succ, wipe', Bool.not_true, Bool.not_false, pLen_str hl]
    cases h2 : decide (8 < (s.length : Int)) with
    | true => exact ⟨[], by simp only [e_seq, e_if, ifK_true, ifK_false, e_nil, e_set, setK_var, e_expr, e_ret, e_retN, e_brk, e_cnt, e_for, forK_mk, e_while, e_cst, e_var, e_anil, e_cons, consK_ap, e_n, e_op1, e_op2, op2K_ap, e_and, andK_true, andK_false, e_or, orK_true, orK_false, e_not, noV_ap, e_ite, iteK_true, iteK_false, e_call, e_callK, e_sl, slK_ap, e_oNone, e_oSome, e_bm, bmK_join, bmK_upper, e_tTru, e_tBoo, e_tAn, anK_true, anK_false, e_tO, oK_true, oK_false, e_tNo, noK_ap, pBool_bl, pTru_bl, e_iVal, e_iRng, e_lc, bi_len, bi_int, pLen_kl, pLen_tup, pAdd_int, pSub_int, pNeg_int, pLt_int, pGt_int, pLe_int, pGe_int, pEq_int, pNe_int, pEq_str, pNe_str, pEq_bl, pNe_bl, pIn_char, pNotIn_char, pSl_tup, src_str', src_kl', src_tup', Rs.bind_ok, Rs.bind_bad, Rs.st_ok, RS.seq_next, RS.seq_ret, RS.seq_brk, RS.seq_cnt, RS.out_next, RS.out_ret, RS.out_exc, List.getElem?_cons_zero, List.getElem?_cons_succ, List.set_cons_zero, List.set_cons_succ, wipe', Bool.not_true, Bool.not_false, Bool.or_true, Bool.false_and, List.append_nil]⟩
    | false =>
      simp only [e_seq, e_if, ifK_true, ifK_false, e_nil, e_set, setK_var, e_expr, e_ret, e_retN, e_brk, e_cnt, e_for, forK_mk, e_while, e_cst, e_var, e_anil, e_cons, consK_ap, e_n, e_op1, e_op2, op2K_ap, e_and, andK_true, andK_false, e_or, orK_true, orK_false, e_not, noV_ap, e_ite, iteK_true, iteK_false, e_call, e_callK, e_sl, slK_ap, e_oNone, e_oSome, e_bm, bmK_join, bmK_upper, e_tTru, e_tBoo, e_tAn, anK_true, anK_false, e_tO, oK_true, oK_false, e_tNo, noK_ap, pBool_bl, pTru_bl, e_iVal, e_iRng, e_lc, bi_len, bi_int, pLen_kl, pLen_tup, pAdd_int, pSub_int, pNeg_int, pLt_int, pGt_int, pLe_int, pGe_int, pEq_int, pNe_int, pEq_str, pNe_str, pEq_bl, pNe_bl, pIn_char, pNotIn_char, pSl_tup, src_str', src_kl', src_tup', Rs.bind_ok, Rs.bind_bad, Rs.st_ok, RS.seq_next, RS.seq_ret, RS.seq_brk, RS.seq_cnt, RS.out_next, RS.out_ret, RS.out_exc, List.getElem?_cons_zero, List.getElem?_cons_succ, List.set_cons_zero, List.set_cons_succ, wipe', Bool.not_true, Bool.not_false, pSl_str hl, cut_tail, Bool.or_false, Bool.true_and]
      have key : lcL (stands none ((s.drop 1).map fun c => D.str [c])) (gVar 1) (wipe' [some (.str s), none] [1]) (tBoo (sOp2 pNotIn (sVar 1) (sCst (.str ['a', 'b', 'c', 'd', 'e', 'f', 'g', 'h', 'i', 'j', 'k', 'l', 'm', 'n', 'o', 'p', 'q', 'r', 's', 't', 'u', 'v', 'w', 'x', 'y', 'z', '0', '1', '2', '3', '4', '5', '6', '7', '8', '9']))) (callF (fbOf tab) n)) (sVar 1 (callF (fbOf tab) n)) ((s.drop 1).map fun c => D.str [c]) h
          = .ok ((((s.drop 1).map fun c => D.str [c]).filter (fun x => match x with | .str [c] => !okC c | _ => false)).map id) h := by
        refine lcL_filter _ _ rfl (fun x hx => ?_) (fun x hx _ => ?_)
        · obtain ⟨c, _, rfl⟩ := List.mem_map.mp hx
          simp only [e_seq, e_if, ifK_true, ifK_false, e_nil, e_set, setK_var, e_expr, e_ret, e_retN, e_brk, e_cnt, e_for, forK_mk, e_while, e_cst, e_var, e_anil, e_cons, consK_ap, e_n, e_op1, e_op2, op2K_ap, e_and, andK_true, andK_false, e_or, orK_true, orK_false, e_not, noV_ap, e_ite, iteK_true, iteK_false, e_call, e_callK, e_sl, slK_ap, e_oNone, e_oSome, e_bm, bmK_join, bmK_upper, e_tTru, e_tBoo, e_tAn, anK_true, anK_false, e_tO, oK_true, oK_false, e_tNo, noK_ap, pBool_bl, pTru_bl, e_iVal, e_iRng, e_lc, bi_len, bi_int, pLen_kl, pLen_tup, pAdd_int, pSub_int, pNeg_int, pLt_int, pGt_int, pLe_int, pGe_int, pEq_int, pNe_int, pEq_str, pNe_str, pEq_bl, pNe_bl, pIn_char, pNotIn_char, pSl_tup, src_str', src_kl', src_tup', Rs.bind_ok, Rs.bind_bad, Rs.st_ok, RS.seq_next, RS.seq_ret, RS.seq_brk, RS.seq_cnt, RS.out_next, RS.out_ret, RS.out_exc, List.getElem?_cons_zero, List.getElem?_cons_succ, List.set_cons_zero, List.set_cons_succ, wipe', Bool.not_true, Bool.not_false, alnum_eq, ok_alnum]
        · rfl
      have hlen : ((((s.drop 1).map fun c => D.str [c]).filter (fun x => match x with | .str [c] => !okC c | _ => false)).map id).length ≤ PySem.sizeLine := by
        rw [List.length_map]
        refine Nat.le_trans (List.length_filter_le _ _) ?_
        rw [List.length_map, List.length_drop]
        omega
      rw [lcK_ok key hlen]
      refine ⟨[.lst ((((s.drop 1).map fun c => D.str [c]).filter (fun x => match x with | .str [c] => !okC c | _ => false)).map id)], ?_⟩
      simp only [e_seq, e_if, ifK_true, ifK_false, e_nil, e_set, setK_var, e_expr, e_ret, e_retN, e_brk, e_cnt, e_for, forK_mk, e_while, e_cst, e_var, e_anil, e_cons, consK_ap, e_n, e_op1, e_op2, op2K_ap, e_and, andK_true, andK_false, e_or, orK_true, orK_false, e_not, noV_ap, e_ite, iteK_true, iteK_false, e_call, e_callK, e_sl, slK_ap, e_oNone, e_oSome, e_bm, bmK_join, bmK_upper, e_tTru, e_tBoo, e_tAn, anK_true, anK_false, e_tO, oK_true, oK_false, e_tNo, noK_ap, pBool_bl, pTru_bl, e_iVal, e_iRng, e_lc, bi_len, bi_int, pLen_kl, pLen_tup, pAdd_int, pSub_int, pNeg_int, pLt_int, pGt_int, pLe_int, pGe_int, pEq_int, pNe_int, pEq_str, pNe_str, pEq_bl, pNe_bl, pIn_char, pNotIn_char, pSl_tup, src_str', src_kl', src_tup', Rs.bind_ok, Rs.bind_bad, Rs.st_ok, RS.seq_next, RS.seq_ret, RS.seq_brk, RS.seq_cnt, RS.out_next, RS.out_ret, RS.out_exc, List.getElem?_cons_zero, List.getElem?_cons_succ, List.set_cons_zero, List.set_cons_succ, wipe', Bool.not_true, Bool.not_false]
      rw [pLen_ref (get_new _)]
      simp only [e_seq, e_if, ifK_true, ifK_false, e_nil, e_set, setK_var, e_expr, e_ret, e_retN, e_brk, e_cnt, e_for, forK_mk, e_while, e_cst, e_var, e_anil, e_cons, consK_ap, e_n, e_op1, e_op2, op2K_ap, e_and, andK_true, andK_false, e_or, orK_true, orK_false, e_not, noV_ap, e_ite, iteK_true, iteK_false, e_call, e_callK, e_sl, slK_ap, e_oNone, e_oSome, e_bm, bmK_join, bmK_upper, e_tTru, e_tBoo, e_tAn, anK_true, anK_false, e_tO, oK_true, oK_false, e_tNo, noK_ap, pBool_bl, pTru_bl, e_iVal, e_iRng, e_lc, bi_len, bi_int, pLen_kl, pLen_tup, pAdd_int, pSub_int, pNeg_int, pLt_int, pGt_int, pLe_int, pGe_int, pEq_int, pNe_int, pEq_str, pNe_str, pEq_bl, pNe_bl, pIn_char, pNotIn_char, pSl_tup, src_str', src_kl', src_tup', Rs.bind_ok, Rs.bind_bad, Rs.st_ok, RS.seq_next, RS.seq_ret, RS.seq_brk, RS.seq_cnt, RS.out_next, RS.out_ret, RS.out_exc, List.getElem?_cons_zero, List.getElem?_cons_succ, List.set_cons_zero, List.set_cons_succ, wipe', Bool.not_true, Bool.not_false]
      congr 2
      rw [List.map_id, List.filter_map, List.length_map]
      unfold restB
      rw [Bool.eq_iff_iff, decide_eq_true_eq, List.all_eq_true]
      constructor
      · intro e c hc
        have e0 : ((s.drop 1).filter ((fun x => match x with | D.str [c] => !okC c | _ => false) ∘ fun c => D.str [c])) = [] := List.eq_nil_of_length_eq_zero (by omega)
        rw [List.filter_eq_nil_iff] at e0
        have := e0 c hc
        simpa using this
      · intro e
        have e0 : ((s.drop 1).filter ((fun x => match x with | D.str [c] => !okC c | _ => false) ∘ fun c => D.str [c])) = [] := by
          rw [List.filter_eq_nil_iff]
          intro c hc
          have := e c hc
          simpa using this
        rw [e0]
        rfl
theorem cut_13 : cut ((words ++ words2).map D.str) none (some 13) = words.map D.str := by
  have := cut_take ((words ++ words2).map D.str) 13
  exact this.trans rfl
theorem law_is_name_run (n : Nat) (s : List Char) (h : AH) (hl : s.length ≤ PySem.sizeLine) : ∃ t, callF (fbOf tab) (n + 2) 10 [.str s] h = .ok (.bl (nameB s)) (h ++ t) := by
  rw [cl__law_is_name]
  obtain ⟨t1, e1⟩ := plain_run n s h hl
  simp only [b__law_is_name, e_seq, e_if, ifK_true, ifK_false, e_nil, e_set, setK_var, e_expr, e_ret, e_retN, e_brk, e_cnt, e_for, forK_mk, e_while, e_cst, e_var, e_anil, e_cons, consK_ap, e_n, e_op1, e_op2, op2K_ap, e_and, andK_true, andK_false, e_or, orK_true, orK_false, e_not, noV_ap, e_ite, iteK_true, iteK_false, e_call, e_callK, e_sl, slK_ap, e_oNone, e_oSome, e_bm, bmK_join, bmK_upper, e_tTru, e_tBoo, e_tAn, anK_true, anK_false, e_tO, oK_true, oK_false, e_tNo, noK_ap, pBool_bl, pTru_bl, e_iVal, e_iRng, e_lc, bi_len, bi_int, pLen_kl, pLen_tup, pAdd_int, pSub_int, pNeg_int, pLt_int, pGt_int, pLe_int, pGe_int, pEq_int, pNe_int, pEq_str, pNe_str, pEq_bl, pNe_bl, pIn_char, pNotIn_char, pSl_tup, src_str', src_kl', src_tup', Rs.bind_ok, Rs.bind_bad, Rs.st_ok, RS.seq_next, RS.seq_ret, RS.seq_brk, RS.seq_cnt, RS.out_next, RS.out_ret, RS.out_exc, List.getElem?_cons_zero, List.getElem?_cons_succ, List.set_cons_zero, List.set_cons_succ, wipe', Bool.not_true, Bool.not_false, e1]
  unfold nameB
  cases h1 : lenOk s with
  | false => exact ⟨t1, by simp only [e_seq, e_if, ifK_true, ifK_false, e_nil, e_set, setK_var, e_expr, e_ret, e_retN, e_brk, e_cnt, e_for, forK_mk, e_while, e_cst, e_var, e_anil, e_cons, consK_ap, e_n, e_op1, e_op2, op2K_ap, e_and, andK_true, andK_false, e_or, orK_true, orK_false, e_not, noV_ap, e_ite, iteK_true, iteK_false, e_call, e_callK, e_sl, slK_ap, e_oNone, e_oSome, e_bm, bmK_join, bmK_upper, e_tTru, e_tBoo, e_tAn, anK_true, anK_false, e_tO, oK_true, oK_false, e_tNo, noK_ap, pBool_bl, pTru_bl, e_iVal, e_iRng, e_lc, bi_len, bi_int, pLen_kl, pLen_tup, pAdd_int, pSub_int, pNeg_int, pLt_int, pGt_int, pLe_int, pGe_int, pEq_int, pNe_int, pEq_str, pNe_str, pEq_bl, pNe_bl, pIn_char, pNotIn_char, pSl_tup, src_str', src_kl', src_tup', Rs.bind_ok, Rs.bind_bad, Rs.st_ok, RS.seq_next, RS.seq_ret, RS.seq_brk, RS.seq_cnt, RS.out_next, RS.out_ret, RS.out_exc, List.getElem?_cons_zero, List.getElem?_cons_succ, List.set_cons_zero, List.set_cons_succ, wipe', Bool.not_true, Bool.not_false, Bool.false_and]⟩
  | true =>
    cases s with
    | nil => simp [lenOk] at h1
    | cons c r =>
    cases h2 : restB (c :: r) with
    | false => exact ⟨t1, by simp only [e_seq, e_if, ifK_true, ifK_false, e_nil, e_set, setK_var, e_expr, e_ret, e_retN, e_brk, e_cnt, e_for, forK_mk, e_while, e_cst, e_var, e_anil, e_cons, consK_ap, e_n, e_op1, e_op2, op2K_ap, e_and, andK_true, andK_false, e_or, orK_true, orK_false, e_not, noV_ap, e_ite, iteK_true, iteK_false, e_call, e_callK, e_sl, slK_ap, e_oNone, e_oSome, e_bm, bmK_join, bmK_upper, e_tTru, e_tBoo, e_tAn, anK_true, anK_false, e_tO, oK_true, oK_false, e_tNo, noK_ap, pBool_bl, pTru_bl, e_iVal, e_iRng, e_lc, bi_len, bi_int, pLen_kl, pLen_tup, pAdd_int, pSub_int, pNeg_int, pLt_int, pGt_int, pLe_int, pGe_int, pEq_int, pNe_int, pEq_str, pNe_str, pEq_bl, pNe_bl, pIn_char, pNotIn_char, pSl_tup, src_str', src_kl', src_tup', Rs.bind_ok, Rs.bind_bad, Rs.st_ok, RS.seq_next, RS.seq_ret, RS.seq_brk, RS.seq_cnt, RS.out_next, RS.out_ret, RS.out_exc, List.getElem?_cons_zero, List.getElem?_cons_succ, List.set_cons_zero, List.set_cons_succ, wipe', Bool.not_true, Bool.not_false, Bool.true_and, Bool.and_false, Bool.false_and]⟩
    | true =>
      obtain ⟨t2, e2, e3⟩ := words_run n (h ++ t1)
      simp only [e_seq, e_if, ifK_true, ifK_false, e_nil, e_set, setK_var, e_expr, e_ret, e_retN, e_brk, e_cnt, e_for, forK_mk, e_while, e_cst, e_var, e_anil, e_cons, consK_ap, e_n, e_op1, e_op2, op2K_ap, e_and, andK_true, andK_false, e_or, orK_true, orK_false, e_not, noV_ap, e_ite, iteK_true, iteK_false, e_call, e_callK, e_sl, slK_ap, e_oNone, e_oSome, e_bm, bmK_join, bmK_upper, e_tTru, e_tBoo, e_tAn, anK_true, anK_false, e_tO, oK_true, oK_false, e_tNo, noK_ap, pBool_bl, pTru_bl, e_iVal, e_iRng, e_lc, bi_len, bi_int, pLen_kl, pLen_tup, pAdd_int, pSub_int, pNeg_int, pLt_int, pGt_int, pLe_int, pGe_int, pEq_int, pNe_int, pEq_str, pNe_str, pEq_bl, pNe_bl, pIn_char, pNotIn_char, pSl_tup, src_str', src_kl', src_tup', Rs.bind_ok, Rs.bind_bad, Rs.st_ok, RS.seq_next, RS.seq_ret, RS.seq_brk, RS.seq_cnt, RS.out_next, RS.out_ret, RS.out_exc, List.getElem?_cons_zero, List.getElem?_cons_succ, List.set_cons_zero, List.set_cons_succ, wipe', Bool.not_true, Bool.not_false, Bool.true_and, e2]
      rw [pSl_ref e3]
      simp only [e_seq, e_if, ifK_true, ifK_false, e_nil, e_set, setK_var, e_expr, e_ret, e_retN, e_brk, e_cnt, e_for, forK_mk, e_while, e_cst, e_var, e_anil, e_cons, consK_ap, e_n, e_op1, e_op2, op2K_ap, e_and, andK_true, andK_false, e_or, orK_true, orK_false, e_not, noV_ap, e_ite, iteK_true, iteK_false, e_call, e_callK, e_sl, slK_ap, e_oNone, e_oSome, e_bm, bmK_join, bmK_upper, e_tTru, e_tBoo, e_tAn, anK_true, anK_false, e_tO, oK_true, oK_false, e_tNo, noK_ap, pBool_bl, pTru_bl, e_iVal, e_iRng, e_lc, bi_len, bi_int, pLen_kl, pLen_tup, pAdd_int, pSub_int, pNeg_int, pLt_int, pGt_int, pLe_int, pGe_int, pEq_int, pNe_int, pEq_str, pNe_str, pEq_bl, pNe_bl, pIn_char, pNotIn_char, pSl_tup, src_str', src_kl', src_tup', Rs.bind_ok, Rs.bind_bad, Rs.st_ok, RS.seq_next, RS.seq_ret, RS.seq_brk, RS.seq_cnt, RS.out_next, RS.out_ret, RS.out_exc, List.getElem?_cons_zero, List.getElem?_cons_succ, List.set_cons_zero, List.set_cons_succ, wipe', Bool.not_true, Bool.not_false, cut_13]
      rw [pIn_of (inD_strs (items_ref (get_new _)))]
      simp only [e_seq, e_if, ifK_true, ifK_false, e_nil, e_set, setK_var, e_expr, e_ret, e_retN, e_brk, e_cnt, e_for, forK_mk, e_while, e_cst, e_var, e_anil, e_cons, consK_ap, e_n, e_op1, e_op2, op2K_ap, e_and, andK_true, andK_false, e_or, orK_true, orK_false, e_not, noV_ap, e_ite, iteK_true, iteK_false, e_call, e_callK, e_sl, slK_ap, e_oNone, e_oSome, e_bm, bmK_join, bmK_upper, e_tTru, e_tBoo, e_tAn, anK_true, anK_false, e_tO, oK_true, oK_false, e_tNo, noK_ap, pBool_bl, pTru_bl, e_iVal, e_iRng, e_lc, bi_len, bi_int, pLen_kl, pLen_tup, pAdd_int, pSub_int, pNeg_int, pLt_int, pGt_int, pLe_int, pGe_int, pEq_int, pNe_int, pEq_str, pNe_str, pEq_bl, pNe_bl, pIn_char, pNotIn_char, pSl_tup, src_str', src_kl', src_tup', Rs.bind_ok, Rs.bind_bad, Rs.st_ok, RS.seq_next, RS.seq_ret, RS.seq_brk, RS.seq_cnt, RS.out_next, RS.out_ret, RS.out_exc, List.getElem?_cons_zero, List.getElem?_cons_succ, List.set_cons_zero, List.set_cons_succ, wipe', Bool.not_true, Bool.not_false]
      cases h3 : decide (c :: r ∈ words) with
      | true => exact ⟨t1 ++ (t2 ++ [.lst (words.map D.str)]), by simp only [e_seq, e_if, ifK_true, ifK_false, e_nil, e_set, setK_var, e_expr, e_ret, e_retN, e_brk, e_cnt, e_for, forK_mk, e_while, e_cst, e_var, e_anil, e_cons, consK_ap, e_n, e_op1, e_op2, op2K_ap, e_and, andK_true, andK_false, e_or, orK_true, orK_false, e_not, noV_ap, e_ite, iteK_true, iteK_false, e_call, e_callK, e_sl, slK_ap, e_oNone, e_oSome, e_bm, bmK_join, bmK_upper, e_tTru, e_tBoo, e_tAn, anK_true, anK_false, e_tO, oK_true, oK_false, e_tNo, noK_ap, pBool_bl, pTru_bl, e_iVal, e_iRng, e_lc, bi_len, bi_int, pLen_kl, pLen_tup, pAdd_int, pSub_int, pNeg_int, pLt_int, pGt_int, pLe_int, pGe_int, pEq_int, pNe_int, pEq_str, pNe_str, pEq_bl, pNe_bl, pIn_char, pNotIn_char, pSl_tup, src_str', src_kl', src_tup', Rs.bind_ok, Rs.bind_bad, Rs.st_ok, RS.seq_next, RS.seq_ret, RS.seq_brk, RS.seq_cnt, RS.out_next, RS.out_ret, RS.out_exc, List.getElem?_cons_zero, List.getElem?_cons_succ, List.set_cons_zero, List.set_cons_succ, wipe', Bool.not_true, Bool.not_false, Bool.and_false, List.append_assoc]⟩
      | false =>
        simp only [e_seq, e_if, ifK_true, ifK_false, e_nil, e_set, setK_var, e_expr, e_ret, e_retN, e_brk, e_cnt, e_for, forK_mk, e_while, e_cst, e_var, e_anil, e_cons, consK_ap, e_n, e_op1, e_op2, op2K_ap, e_and, andK_true, andK_false, e_or, orK_true, orK_false, e_not, noV_ap, e_ite, iteK_true, iteK_false, e_call, e_callK, e_sl, slK_ap, e_oNone, e_oSome, e_bm, bmK_join, bmK_upper, e_tTru, e_tBoo, e_tAn, anK_true, anK_false, e_tO, oK_true, oK_false, e_tNo, noK_ap, pBool_bl, pTru_bl, e_iVal, e_iRng, e_lc, bi_len, bi_int, pLen_kl, pLen_tup, pAdd_int, pSub_int, pNeg_int, pLt_int, pGt_int, pLe_int, pGe_int, pEq_int, pNe_int, pEq_str, pNe_str, pEq_bl, pNe_bl, pIn_char, pNotIn_char, pSl_tup, src_str', src_kl', src_tup', Rs.bind_ok, Rs.bind_bad, Rs.st_ok, RS.seq_next, RS.seq_ret, RS.seq_brk, RS.seq_cnt, RS.out_next, RS.out_ret, RS.out_exc, List.getElem?_cons_zero, List.getElem?_cons_succ, List.set_cons_zero, List.set_cons_succ, wipe', Bool.not_true, Bool.not_false, pIx_str (atI_head c r) hl]
        refine ⟨t1 ++ (t2 ++ [.lst (words.map D.str)]), ?_⟩
        simp only [Bool.and_true, headIn, List.append_assoc]
        rfl
theorem law_is_variable_name_run (n : Nat) (s : List Char) (h : AH) (hl : s.length ≤ PySem.sizeLine) : ∃ t, callF (fbOf tab) (n + 2) 11 [.str s] h = .ok (.bl (varB s)) (h ++ t) := by
  rw [cl__law_is_variable_name]
  obtain ⟨t1, e1⟩ := plain_run n s h hl
  simp only [b__law_is_variable_name, e_seq, e_if, ifK_true, ifK_false, e_nil, e_set, setK_var, e_expr, e_ret, e_retN, e_brk, e_cnt, e_for, forK_mk, e_while, e_cst, e_var, e_anil, e_cons, consK_ap, e_n, e_op1, e_op2, op2K_ap, e_and, andK_true, andK_false, e_or, orK_true, orK_false, e_not, noV_ap, e_ite, iteK_true, iteK_false, e_call, e_callK, e_sl, slK_ap, e_oNone, e_oSome, e_bm, bmK_join, bmK_upper, e_tTru, e_tBoo, e_tAn, anK_true, anK_false, e_tO, oK_true, oK_false, e_tNo, noK_ap, pBool_bl, pTru_bl, e_iVal, e_iRng, e_lc, bi_len, bi_int, pLen_kl, pLen_tup, pAdd_int, pSub_int, pNeg_int, pLt_int, pGt_int, pLe_int, pGe_int, pEq_int, pNe_int, pEq_str, pNe_str, pEq_bl, pNe_bl, pIn_char, pNotIn_char, pSl_tup, src_str', src_kl', src_tup', Rs.bind_ok, Rs.bind_bad, Rs.st_ok, RS.seq_next, RS.seq_ret, RS.seq_brk, RS.seq_cnt, RS.out_next, RS.out_ret, RS.out_exc, List.getElem?_cons_zero, List.getElem?_cons_succ, List.set_cons_zero, List.set_cons_succ, wipe', Bool.not_true, Bool.not_false, e1]
  unfold varB
  cases h1 : lenOk s with
  | false => exact ⟨t1, by simp only [e_seq, e_if, ifK_true, ifK_false, e_nil, e_set, setK_var, e_expr, e_ret, e_retN, e_brk, e_cnt, e_for, forK_mk, e_while, e_cst, e_var, e_anil, e_cons, consK_ap, e_n, e_op1, e_op2, op2K_ap, e_and, andK_true, andK_false, e_or, orK_true, orK_false, e_not, noV_ap, e_ite, iteK_true, iteK_false, e_call, e_callK, e_sl, slK_ap, e_oNone, e_oSome, e_bm, bmK_join, bmK_upper, e_tTru, e_tBoo, e_tAn, anK_true, anK_false, e_tO, oK_true, oK_false, e_tNo, noK_ap, pBool_bl, pTru_bl, e_iVal, e_iRng, e_lc, bi_len, bi_int, pLen_kl, pLen_tup, pAdd_int, pSub_int, pNeg_int, pLt_int, pGt_int, pLe_int, pGe_int, pEq_int, pNe_int, pEq_str, pNe_str, pEq_bl, pNe_bl, pIn_char, pNotIn_char, pSl_tup, src_str', src_kl', src_tup', Rs.bind_ok, Rs.bind_bad, Rs.st_ok, RS.seq_next, RS.seq_ret, RS.seq_brk, RS.seq_cnt, RS.out_next, RS.out_ret, RS.out_exc, List.getElem?_cons_zero, List.getElem?_cons_succ, List.set_cons_zero, List.set_cons_succ, wipe', Bool.not_true, Bool.not_false, Bool.false_and]⟩
  | true =>
    cases s with
    | nil => simp [lenOk] at h1
    | cons c r =>
    cases h2 : restB (c :: r) with
    | false => exact ⟨t1, by simp only [e_seq, e_if, ifK_true, ifK_false, e_nil, e_set, setK_var, e_expr, e_ret, e_retN, e_brk, e_cnt, e_for, forK_mk, e_while, e_cst, e_var, e_anil, e_cons, consK_ap, e_n, e_op1, e_op2, op2K_ap, e_and, andK_true, andK_false, e_or, orK_true, orK_false, e_not, noV_ap, e_ite, iteK_true, iteK_false, e_call, e_callK, e_sl, slK_ap, e_oNone, e_oSome, e_bm, bmK_join, bmK_upper, e_tTru, e_tBoo, e_tAn, anK_true, anK_false, e_tO, oK_true, oK_false, e_tNo, noK_ap, pBool_bl, pTru_bl, e_iVal, e_iRng, e_lc, bi_len, bi_int, pLen_kl, pLen_tup, pAdd_int, pSub_int, pNeg_int, pLt_int, pGt_int, pLe_int, pGe_int, pEq_int, pNe_int, pEq_str, pNe_str, pEq_bl, pNe_bl, pIn_char, pNotIn_char, pSl_tup, src_str', src_kl', src_tup', Rs.bind_ok, Rs.bind_bad, Rs.st_ok, RS.seq_next, RS.seq_ret, RS.seq_brk, RS.seq_cnt, RS.out_next, RS.out_ret, RS.out_exc, List.getElem?_cons_zero, List.getElem?_cons_succ, List.set_cons_zero, List.set_cons_succ, wipe', Bool.not_true, Bool.not_false, Bool.true_and, Bool.and_false]⟩
    | true =>
      simp only [e_seq, e_if, ifK_true, ifK_false, e_nil, e_set, setK_var, e_expr, e_ret, e_retN, e_brk, e_cnt, e_for, forK_mk, e_while, e_cst, e_var, e_anil, e_cons, consK_ap, e_n, e_op1, e_op2, op2K_ap, e_and, andK_true, andK_false, e_or, orK_true, orK_false, e_not, noV_ap, e_ite, iteK_true, iteK_false, e_call, e_callK, e_sl, slK_ap, e_oNone, e_oSome, e_bm, bmK_join, bmK_upper, e_tTru, e_tBoo, e_tAn, anK_true, anK_false, e_tO, oK_true, oK_false, e_tNo, noK_ap, pBool_bl, pTru_bl, e_iVal, e_iRng, e_lc, bi_len, bi_int, pLen_kl, pLen_tup, pAdd_int, pSub_int, pNeg_int, pLt_int, pGt_int, pLe_int, pGe_int, pEq_int, pNe_int, pEq_str, pNe_str, pEq_bl, pNe_bl, pIn_char, pNotIn_char, pSl_tup, src_str', src_kl', src_tup', Rs.bind_ok, Rs.bind_bad, Rs.st_ok, RS.seq_next, RS.seq_ret, RS.seq_brk, RS.seq_cnt, RS.out_next, RS.out_ret, RS.out_exc, List.getElem?_cons_zero, List.getElem?_cons_succ, List.set_cons_zero, List.set_cons_succ, wipe', Bool.not_true, Bool.not_false, Bool.true_and, pIx_str (atI_head c r) hl, headIn, Bool.and_true]
      exact ⟨t1, rfl⟩
theorem asked_run (n : Nat) (s : List Char) (h : AH) (hl : s.length ≤ PySem.sizeLine) : ∃ t, callF (fbOf tab) (n + 3) 12 [.str s] h = .ok (.bl true) (h ++ t) := by
  rw [cl__law_asked]
  have p0 : pick [0] [D.str s] = [D.str s] := rfl
  simp only [b__law_asked, e_seq, e_if, ifK_true, ifK_false, e_nil, e_set, setK_var, e_expr, e_ret, e_retN, e_brk, e_cnt, e_for, forK_mk, e_while, e_cst, e_var, e_anil, e_cons, consK_ap, e_n, e_op1, e_op2, op2K_ap, e_and, andK_true, andK_false, e_or, orK_true, orK_false, e_not, noV_ap, e_ite, iteK_true, iteK_false, e_call, e_callK, e_sl, slK_ap, e_oNone, e_oSome, e_bm, bmK_join, bmK_upper, e_tTru, e_tBoo, e_tAn, anK_true, anK_false, e_tO, oK_true, oK_false, e_tNo, noK_ap, pBool_bl, pTru_bl, e_iVal, e_iRng, e_lc, bi_len, bi_int, pLen_kl, pLen_tup, pAdd_int, pSub_int, pNeg_int, pLt_int, pGt_int, pLe_int, pGe_int, pEq_int, pNe_int, pEq_str, pNe_str, pEq_bl, pNe_bl, pIn_char, pNotIn_char, pSl_tup, src_str', src_kl', src_tup', Rs.bind_ok, Rs.bind_bad, Rs.st_ok, RS.seq_next, RS.seq_ret, RS.seq_brk, RS.seq_cnt, RS.out_next, RS.out_ret, RS.out_exc, List.getElem?_cons_zero, List.getElem?_cons_succ, List.set_cons_zero, List.set_cons_succ, wipe', Bool.not_true, Bool.not_false, is_name_run n s _ hl, is_variable_name_run n s _ hl, pIsi, isTy, beq_self_eq_true, Bool.true_or, List.nil_append, p0, decide_true]
  obtain ⟨t1, e1⟩ := law_is_name_run n s h hl
  obtain ⟨t2, e2⟩ := law_is_variable_name_run n s (h ++ t1) hl
  simp only [e_seq, e_if, ifK_true, ifK_false, e_nil, e_set, setK_var, e_expr, e_ret, e_retN, e_brk, e_cnt, e_for, forK_mk, e_while, e_cst, e_var, e_anil, e_cons, consK_ap, e_n, e_op1, e_op2, op2K_ap, e_and, andK_true, andK_false, e_or, orK_true, orK_false, e_not, noV_ap, e_ite, iteK_true, iteK_false, e_call, e_callK, e_sl, slK_ap, e_oNone, e_oSome, e_bm, bmK_join, bmK_upper, e_tTru, e_tBoo, e_tAn, anK_true, anK_false, e_tO, oK_true, oK_false, e_tNo, noK_ap, pBool_bl, pTru_bl, e_iVal, e_iRng, e_lc, bi_len, bi_int, pLen_kl, pLen_tup, pAdd_int, pSub_int, pNeg_int, pLt_int, pGt_int, pLe_int, pGe_int, pEq_int, pNe_int, pEq_str, pNe_str, pEq_bl, pNe_bl, pIn_char, pNotIn_char, pSl_tup, src_str', src_kl', src_tup', Rs.bind_ok, Rs.bind_bad, Rs.st_ok, RS.seq_next, RS.seq_ret, RS.seq_brk, RS.seq_cnt, RS.out_next, RS.out_ret, RS.out_exc, List.getElem?_cons_zero, List.getElem?_cons_succ, List.set_cons_zero, List.set_cons_succ, wipe', Bool.not_true, Bool.not_false, e1, decide_true, e2]
  exact ⟨t1 ++ t2, by rw [List.append_assoc]⟩
theorem cell_run (n : Nat) (ns : List Int) (k : Int) (h : AH) (hk : 0 ≤ k ∧ k ≤ 1000) : ∃ z, callF (fbOf tab) (n + 1) 3 [.kl (ns.map D.int), .int k] h = .ok (.int z) h := by
  rw [cl__law_cell]
  simp only [b__law_cell, e_seq, e_if, ifK_true, ifK_false, e_nil, e_set, setK_var, e_expr, e_ret, e_retN, e_brk, e_cnt, e_for, forK_mk, e_while, e_cst, e_var, e_anil, e_cons, consK_ap, e_n, e_op1, e_op2, op2K_ap, e_and, andK_true, andK_false, e_or, orK_true, orK_false, e_not, noV_ap, e_ite, iteK_true, iteK_false, e_call, e_callK, e_sl, slK_ap, e_oNone, e_oSome, e_bm, bmK_join, bmK_upper, e_tTru, e_tBoo, e_tAn, anK_true, anK_false, e_tO, oK_true, oK_false, e_tNo, noK_ap, pBool_bl, pTru_bl, e_iVal, e_iRng, e_lc, bi_len, bi_int, pLen_kl, pLen_tup, pAdd_int, pSub_int, pNeg_int, pLt_int, pGt_int, pLe_int, pGe_int, pEq_int, pNe_int, pEq_str, pNe_str, pEq_bl, pNe_bl, pIn_char, pNotIn_char, pSl_tup, src_str', src_kl', src_tup', Rs.bind_ok, Rs.bind_bad, Rs.st_ok, RS.seq_next, RS.seq_ret, RS.seq_brk, RS.seq_cnt, RS.out_next, RS.out_ret, RS.out_exc, List.getElem?_cons_zero, List.getElem?_cons_succ, List.set_cons_zero, List.set_cons_succ, wipe', Bool.not_true, Bool.not_false, List.length_map]
  cases h1 : decide (k < (ns.length : Int)) with
  | true =>
    have h1 := of_decide_eq_true h1
    obtain ⟨x, e1, e2, _⟩ := atI_lt (xs := ns.map D.int) hk.1 (by rw [List.length_map]; exact h1)
    obtain ⟨z, _, rfl⟩ := List.mem_map.mp e2
    exact ⟨z, by simp only [e_seq, e_if, ifK_true, ifK_false, e_nil, e_set, setK_var, e_expr, e_ret, e_retN, e_brk, e_cnt, e_for, forK_mk, e_while, e_cst, e_var, e_anil, e_cons, consK_ap, e_n, e_op1, e_op2, op2K_ap, e_and, andK_true, andK_false, e_or, orK_true, orK_false, e_not, noV_ap, e_ite, iteK_true, iteK_false, e_call, e_callK, e_sl, slK_ap, e_oNone, e_oSome, e_bm, bmK_join, bmK_upper, e_tTru, e_tBoo, e_tAn, anK_true, anK_false, e_tO, oK_true, oK_false, e_tNo, noK_ap, pBool_bl, pTru_bl, e_iVal, e_iRng, e_lc, bi_len, bi_int, pLen_kl, pLen_tup, pAdd_int, pSub_int, pNeg_int, pLt_int, pGt_int, pLe_int, pGe_int, pEq_int, pNe_int, pEq_str, pNe_str, pEq_bl, pNe_bl, pIn_char, pNotIn_char, pSl_tup, src_str', src_kl', src_tup', Rs.bind_ok, Rs.bind_bad, Rs.st_ok, RS.seq_next, RS.seq_ret, RS.seq_brk, RS.seq_cnt, RS.out_next, RS.out_ret, RS.out_exc, List.getElem?_cons_zero, List.getElem?_cons_succ, List.set_cons_zero, List.set_cons_succ, wipe', Bool.not_true, Bool.not_false, pIx_kl e1]⟩
  | false =>
    simp only [e_seq, e_if, ifK_true, ifK_false, e_nil, e_set, setK_var, e_expr, e_ret, e_retN, e_brk, e_cnt, e_for, forK_mk, e_while, e_cst, e_var, e_anil, e_cons, consK_ap, e_n, e_op1, e_op2, op2K_ap, e_and, andK_true, andK_false, e_or, orK_true, orK_false, e_not, noV_ap, e_ite, iteK_true, iteK_false, e_call, e_callK, e_sl, slK_ap, e_oNone, e_oSome, e_bm, bmK_join, bmK_upper, e_tTru, e_tBoo, e_tAn, anK_true, anK_false, e_tO, oK_true, oK_false, e_tNo, noK_ap, pBool_bl, pTru_bl, e_iVal, e_iRng, e_lc, bi_len, bi_int, pLen_kl, pLen_tup, pAdd_int, pSub_int, pNeg_int, pLt_int, pGt_int, pLe_int, pGe_int, pEq_int, pNe_int, pEq_str, pNe_str, pEq_bl, pNe_bl, pIn_char, pNotIn_char, pSl_tup, src_str', src_kl', src_tup', Rs.bind_ok, Rs.bind_bad, Rs.st_ok, RS.seq_next, RS.seq_ret, RS.seq_brk, RS.seq_cnt, RS.out_next, RS.out_ret, RS.out_exc, List.getElem?_cons_zero, List.getElem?_cons_succ, List.set_cons_zero, List.set_cons_succ, wipe', Bool.not_true, Bool.not_false, forK_mk]
    refine forL_ind (fun xs ρ h' => h' = h ∧ ∃ zs seed v, xs = zs.map D.int ∧ 0 ≤ seed ∧ seed < 1000003 ∧ ρ = [some (.kl (ns.map D.int)), some (.int k), some (.int seed), v]) (fun z => ∃ w, (z.seq _).out = .ok (.int w) h) (fun _ _ _ _ => rfl) ?_ ?_ _ _ _ ⟨rfl, ns, 17, none, rfl, by omega, by omega, rfl⟩
    · rintro ρ h' ⟨rfl, zs, seed, v, _, s0, s1, rfl⟩
      simp (disch := omega) only [e_seq, e_if, ifK_true, ifK_false, e_nil, e_set, setK_var, e_expr, e_ret, e_retN, e_brk, e_cnt, e_for, forK_mk, e_while, e_cst, e_var, e_anil, e_cons, consK_ap, e_n, e_op1, e_op2, op2K_ap, e_and, andK_true, andK_false, e_or, orK_true, orK_false, e_not, noV_ap, e_ite, iteK_true, iteK_false, e_call, e_callK, e_sl, slK_ap, e_oNone, e_oSome, e_bm, bmK_join, bmK_upper, e_tTru, e_tBoo, e_tAn, anK_true, anK_false, e_tO, oK_true, oK_false, e_tNo, noK_ap, pBool_bl, pTru_bl, e_iVal, e_iRng, e_lc, bi_len, bi_int, pLen_kl, pLen_tup, pAdd_int, pSub_int, pNeg_int, pLt_int, pGt_int, pLe_int, pGe_int, pEq_int, pNe_int, pEq_str, pNe_str, pEq_bl, pNe_bl, pIn_char, pNotIn_char, pSl_tup, src_str', src_kl', src_tup', Rs.bind_ok, Rs.bind_bad, Rs.st_ok, RS.seq_next, RS.seq_ret, RS.seq_brk, RS.seq_cnt, RS.out_next, RS.out_ret, RS.out_exc, List.getElem?_cons_zero, List.getElem?_cons_succ, List.set_cons_zero, List.set_cons_succ, wipe', Bool.not_true, Bool.not_false, pMul_int, pMod_int]
      exact ⟨_, rfl⟩
    · rintro x xs ρ h' ⟨rfl, zs, seed, v, ex, s0, s1, rfl⟩
      cases zs with
      | nil => cases ex
      | cons z zs =>
        cases ex
        refine ⟨_, rfl, .inl ⟨[some (.kl (ns.map D.int)), some (.int k), some (.int ((seed * 31 + z % 1000003) % 1000003)), some (.int z)], h', .inl ?_, rfl, zs, _, _, rfl, by omega, by omega, rfl⟩⟩
        simp (disch := omega) only [e_seq, e_if, ifK_true, ifK_false, e_nil, e_set, setK_var, e_expr, e_ret, e_retN, e_brk, e_cnt, e_for, forK_mk, e_while, e_cst, e_var, e_anil, e_cons, consK_ap, e_n, e_op1, e_op2, op2K_ap, e_and, andK_true, andK_false, e_or, orK_true, orK_false, e_not, noV_ap, e_ite, iteK_true, iteK_false, e_call, e_callK, e_sl, slK_ap, e_oNone, e_oSome, e_bm, bmK_join, bmK_upper, e_tTru, e_tBoo, e_tAn, anK_true, anK_false, e_tO, oK_true, oK_false, e_tNo, noK_ap, pBool_bl, pTru_bl, e_iVal, e_iRng, e_lc, bi_len, bi_int, pLen_kl, pLen_tup, pAdd_int, pSub_int, pNeg_int, pLt_int, pGt_int, pLe_int, pGe_int, pEq_int, pNe_int, pEq_str, pNe_str, pEq_bl, pNe_bl, pIn_char, pNotIn_char, pSl_tup, src_str', src_kl', src_tup', Rs.bind_ok, Rs.bind_bad, Rs.st_ok, RS.seq_next, RS.seq_ret, RS.seq_brk, RS.seq_cnt, RS.out_next, RS.out_ret, RS.out_exc, List.getElem?_cons_zero, List.getElem?_cons_succ, List.set_cons_zero, List.set_cons_succ, wipe', Bool.not_true, Bool.not_false, pMul_int, pMod_int]
end Lw

set_option maxRecDepth 100000
set_option maxHeartbeats 1000000
noncomputable section
namespace Lw
open Pm PySem L2
/-- digits below their sizes -/
inductive RowOk : List Int → List Int → Prop
  | nil : RowOk [] []
  | cons {r s : Int} {rs ss : List Int} : 0 ≤ r → r < s → RowOk rs ss → RowOk (r :: rs) (s :: ss)
theorem RowOk.snoc {r s : Int} (h0 : 0 ≤ r) (h1 : r < s) : ∀ {rs ss : List Int}, RowOk rs ss → RowOk (rs ++ [r]) (ss ++ [s])
  | _, _, .nil => .cons h0 h1 .nil
  | _, _, .cons a b t => .cons a b (RowOk.snoc h0 h1 t)
theorem RowOk.len : ∀ {rs ss : List Int}, RowOk rs ss → rs.length = ss.length
  | _, _, .nil => rfl
  | _, _, .cons _ _ t => congrArg Nat.succ (RowOk.len t)
theorem RowOk.get : ∀ {rs ss : List Int} {i : Nat} {s : Int}, RowOk rs ss → ss[i]? = some s → ∃ r, rs[i]? = some r ∧ 0 ≤ r ∧ r < s
  | _, _, _, _, .nil, e => by simp at e
  | _, _, 0, _, .cons a b _, e => by simp at e; subst e; exact ⟨_, rfl, a, b⟩
  | _, _, i + 1, _, .cons _ _ t, e => by simpa using RowOk.get (i := i) t (by simpa using e)
theorem rngL_nil {i j : Int} (h : j ≤ i) : rngL i j = [] := by
  unfold rngL
  rw [show (j - i).toNat = 0 by omega]
  rfl
theorem rngL_cons {i j : Int} (h : i < j) : rngL i j = .int i :: rngL (i + 1) j := by
  unfold rngL
  rw [show (j - i).toNat = (j - (i + 1)).toNat + 1 by omega, List.range_succ_eq_map, List.map_cons, List.map_map]
  refine congr (congrArg _ (by simp)) (List.map_congr_left fun k _ => ?_)
  simp only [Function.comp, D.int.injEq]
  omega
theorem digits_run (n : Nat) (z : Int) (m : Nat) (szs : List Int) (h : AH) (hm : h[m]? = some (.lst (szs.map D.int))) (hs : ∀ s ∈ szs, 0 < s ∧ s < 1073741824) (hl : szs.length ≤ 1000) :
    ∃ row, RowOk row szs ∧ callF (fbOf tab) (n + 1) 4 [.int z, .ref m] h = .ok (.ref h.length) (h ++ [.lst (row.map D.int)]) := by
  have hsz : PySem.sizeLine = 16777216 := PySem.sizeLine_eq
  rw [cl__law_digits]
  simp only [b__law_digits, e_seq, e_if, ifK_true, ifK_false, e_nil, e_set, setK_var, e_expr, e_ret, e_retN, e_brk, e_cnt, e_for, forK_mk, e_while, e_cst, e_var, e_anil, e_cons, consK_ap, e_n, e_op1, e_op2, op2K_ap, e_and, andK_true, andK_false, e_or, orK_true, orK_false, e_not, noV_ap, e_ite, iteK_true, iteK_false, e_call, e_callK, e_sl, slK_ap, e_oNone, e_oSome, e_bm, bmK_join, bmK_upper, e_tTru, e_tBoo, e_tAn, anK_true, anK_false, e_tO, oK_true, oK_false, e_tNo, noK_ap, pBool_bl, pTru_bl, e_iVal, e_iRng, e_lc, bi_len, bi_int, pLen_kl, pLen_tup, pAdd_int, pSub_int, pNeg_int, pLt_int, pGt_int, pLe_int, pGe_int, pEq_int, pNe_int, pEq_str, pNe_str, pEq_bl, pNe_bl, pIn_char, pNotIn_char, pSl_tup, src_str', src_kl', src_tup', Rs.bind_ok, Rs.bind_bad, Rs.st_ok, RS.seq_next, RS.seq_ret, RS.seq_brk, RS.seq_cnt, RS.out_next, RS.out_ret, RS.out_exc, List.getElem?_cons_zero, List.getElem?_cons_succ, List.set_cons_zero, List.set_cons_succ, wipe', Bool.not_true, Bool.not_false]
  rw [pLst_run (by decide)]
  simp (disch := first | omega | decide) only [e_seq, e_if, ifK_true, ifK_false, e_nil, e_set, setK_var, e_expr, e_ret, e_retN, e_brk, e_cnt, e_for, forK_mk, e_while, e_cst, e_var, e_anil, e_cons, consK_ap, e_n, e_op1, e_op2, op2K_ap, e_and, andK_true, andK_false, e_or, orK_true, orK_false, e_not, noV_ap, e_ite, iteK_true, iteK_false, e_call, e_callK, e_sl, slK_ap, e_oNone, e_oSome, e_bm, bmK_join, bmK_upper, e_tTru, e_tBoo, e_tAn, anK_true, anK_false, e_tO, oK_true, oK_false, e_tNo, noK_ap, pBool_bl, pTru_bl, e_iVal, e_iRng, e_lc, bi_len, bi_int, pLen_kl, pLen_tup, pAdd_int, pSub_int, pNeg_int, pLt_int, pGt_int, pLe_int, pGe_int, pEq_int, pNe_int, pEq_str, pNe_str, pEq_bl, pNe_bl, pIn_char, pNotIn_char, pSl_tup, src_str', src_kl', src_tup', Rs.bind_ok, Rs.bind_bad, Rs.st_ok, RS.seq_next, RS.seq_ret, RS.seq_brk, RS.seq_cnt, RS.out_next, RS.out_ret, RS.out_exc, List.getElem?_cons_zero, List.getElem?_cons_succ, List.set_cons_zero, List.set_cons_succ, wipe', Bool.not_true, Bool.not_false, pPow_int]
  cases h1 : decide ((10 : Int) ^ (18 : Int).toNat ≤ z) with
  | true =>
    simp (disch := first | omega | decide) only [e_seq, e_if, ifK_true, ifK_false, e_nil, e_set, setK_var, e_expr, e_ret, e_retN, e_brk, e_cnt, e_for, forK_mk, e_while, e_cst, e_var, e_anil, e_cons, consK_ap, e_n, e_op1, e_op2, op2K_ap, e_and, andK_true, andK_false, e_or, orK_true, orK_false, e_not, noV_ap, e_ite, iteK_true, iteK_false, e_call, e_callK, e_sl, slK_ap, e_oNone, e_oSome, e_bm, bmK_join, bmK_upper, e_tTru, e_tBoo, e_tAn, anK_true, anK_false, e_tO, oK_true, oK_false, e_tNo, noK_ap, pBool_bl, pTru_bl, e_iVal, e_iRng, e_lc, bi_len, bi_int, pLen_kl, pLen_tup, pAdd_int, pSub_int, pNeg_int, pLt_int, pGt_int, pLe_int, pGe_int, pEq_int, pNe_int, pEq_str, pNe_str, pEq_bl, pNe_bl, pIn_char, pNotIn_char, pSl_tup, src_str', src_kl', src_tup', Rs.bind_ok, Rs.bind_bad, Rs.st_ok, RS.seq_next, RS.seq_ret, RS.seq_brk, RS.seq_cnt, RS.out_next, RS.out_ret, RS.out_exc, List.getElem?_cons_zero, List.getElem?_cons_succ, List.set_cons_zero, List.set_cons_succ, wipe', Bool.not_true, Bool.not_false, pPow_int, src_ref (get_app _ hm), forK_mk]
    refine forL_ind (fun xs ρ h' => ∃ done todo row rest v, szs = done ++ todo ∧ xs = todo.map D.int ∧ RowOk row done ∧ h' = h ++ [.lst (row.map D.int)] ∧ ρ = [some (.int z), some (.ref m), some (.ref h.length), some (.int rest), v, none, none, none])
      (fun r => ∃ row, RowOk row szs ∧ ((r.seq _).seq _).out = .ok (.ref h.length) (h ++ [.lst (row.map D.int)])) ?_ ?_ ?_ _ _ _ ⟨[], szs, [], _, none, rfl, rfl, .nil, rfl, rfl⟩
    · rintro xs ρ h' ⟨done, todo, row, rest, v, e1, e2, _, e3, _⟩
      subst e3
      exact stands_ref (get_app _ hm)
    · rintro ρ h' ⟨done, todo, row, rest, v, e1, e2, ro, rfl, rfl⟩
      cases todo with
      | cons _ _ => cases e2
      | nil =>
        rw [List.append_nil] at e1
        subst e1
        exact ⟨row, ro, by simp only [e_seq, e_if, ifK_true, ifK_false, e_nil, e_set, setK_var, e_expr, e_ret, e_retN, e_brk, e_cnt, e_for, forK_mk, e_while, e_cst, e_var, e_anil, e_cons, consK_ap, e_n, e_op1, e_op2, op2K_ap, e_and, andK_true, andK_false, e_or, orK_true, orK_false, e_not, noV_ap, e_ite, iteK_true, iteK_false, e_call, e_callK, e_sl, slK_ap, e_oNone, e_oSome, e_bm, bmK_join, bmK_upper, e_tTru, e_tBoo, e_tAn, anK_true, anK_false, e_tO, oK_true, oK_false, e_tNo, noK_ap, pBool_bl, pTru_bl, e_iVal, e_iRng, e_lc, bi_len, bi_int, pLen_kl, pLen_tup, pAdd_int, pSub_int, pNeg_int, pLt_int, pGt_int, pLe_int, pGe_int, pEq_int, pNe_int, pEq_str, pNe_str, pEq_bl, pNe_bl, pIn_char, pNotIn_char, pSl_tup, src_str', src_kl', src_tup', Rs.bind_ok, Rs.bind_bad, Rs.st_ok, RS.seq_next, RS.seq_ret, RS.seq_brk, RS.seq_cnt, RS.out_next, RS.out_ret, RS.out_exc, List.getElem?_cons_zero, List.getElem?_cons_succ, List.set_cons_zero, List.set_cons_succ, wipe', Bool.not_true, Bool.not_false]⟩
    · rintro x xs ρ h' ⟨done, todo, row, rest, v, e1, e2, ro, rfl, rfl⟩
      cases todo with
      | nil => cases e2
      | cons s todo =>
        cases e2
        have hss := hs s (by rw [e1]; simp)
        have hlen : row.length < 1000 := by
          have a := ro.len
          have b := congrArg List.length e1
          rw [List.length_append, List.length_cons] at b
          omega
        refine ⟨_, rfl, .inl ⟨[some (.int z), some (.ref m), some (.ref h.length), some (.int (rest / s)), some (.int s), none, none, none], h ++ [.lst ((row ++ [rest % s]).map D.int)], .inl ?_, done ++ [s], todo, row ++ [rest % s], _, _, by rw [e1]; simp, rfl, RowOk.snoc (Int.emod_nonneg _ (by omega)) (Int.emod_lt_of_pos _ (by omega)) ro, rfl, rfl⟩⟩
        simp (disch := omega) only [e_seq, e_if, ifK_true, ifK_false, e_nil, e_set, setK_var, e_expr, e_ret, e_retN, e_brk, e_cnt, e_for, forK_mk, e_while, e_cst, e_var, e_anil, e_cons, consK_ap, e_n, e_op1, e_op2, op2K_ap, e_and, andK_true, andK_false, e_or, orK_true, orK_false, e_not, noV_ap, e_ite, iteK_true, iteK_false, e_call, e_callK, e_sl, slK_ap, e_oNone, e_oSome, e_bm, bmK_join, bmK_upper, e_tTru, e_tBoo, e_tAn, anK_true, anK_false, e_tO, oK_true, oK_false, e_tNo, noK_ap, pBool_bl, pTru_bl, e_iVal, e_iRng, e_lc, bi_len, bi_int, pLen_kl, pLen_tup, pAdd_int, pSub_int, pNeg_int, pLt_int, pGt_int, pLe_int, pGe_int, pEq_int, pNe_int, pEq_str, pNe_str, pEq_bl, pNe_bl, pIn_char, pNotIn_char, pSl_tup, src_str', src_kl', src_tup', Rs.bind_ok, Rs.bind_bad, Rs.st_ok, RS.seq_next, RS.seq_ret, RS.seq_brk, RS.seq_cnt, RS.out_next, RS.out_ret, RS.out_exc, List.getElem?_cons_zero, List.getElem?_cons_succ, List.set_cons_zero, List.set_cons_succ, wipe', Bool.not_true, Bool.not_false, bmK_lst (b := .append) rfl (get_new _), pMod_int, pFdiv_int]
        rw [append_run (get_new _) (by rw [List.length_map]; omega), set_new]
        simp (disch := omega) only [e_seq, e_if, ifK_true, ifK_false, e_nil, e_set, setK_var, e_expr, e_ret, e_retN, e_brk, e_cnt, e_for, forK_mk, e_while, e_cst, e_var, e_anil, e_cons, consK_ap, e_n, e_op1, e_op2, op2K_ap, e_and, andK_true, andK_false, e_or, orK_true, orK_false, e_not, noV_ap, e_ite, iteK_true, iteK_false, e_call, e_callK, e_sl, slK_ap, e_oNone, e_oSome, e_bm, bmK_join, bmK_upper, e_tTru, e_tBoo, e_tAn, anK_true, anK_false, e_tO, oK_true, oK_false, e_tNo, noK_ap, pBool_bl, pTru_bl, e_iVal, e_iRng, e_lc, bi_len, bi_int, pLen_kl, pLen_tup, pAdd_int, pSub_int, pNeg_int, pLt_int, pGt_int, pLe_int, pGe_int, pEq_int, pNe_int, pEq_str, pNe_str, pEq_bl, pNe_bl, pIn_char, pNotIn_char, pSl_tup, src_str', src_kl', src_tup', Rs.bind_ok, Rs.bind_bad, Rs.st_ok, RS.seq_next, RS.seq_ret, RS.seq_brk, RS.seq_cnt, RS.out_next, RS.out_ret, RS.out_exc, List.getElem?_cons_zero, List.getElem?_cons_succ, List.set_cons_zero, List.set_cons_succ, wipe', Bool.not_true, Bool.not_false, pFdiv_int, List.map_append, List.map_cons, List.map_nil]
  | false =>
    simp only [e_seq, e_if, ifK_true, ifK_false, e_nil, e_set, setK_var, e_expr, e_ret, e_retN, e_brk, e_cnt, e_for, forK_mk, e_while, e_cst, e_var, e_anil, e_cons, consK_ap, e_n, e_op1, e_op2, op2K_ap, e_and, andK_true, andK_false, e_or, orK_true, orK_false, e_not, noV_ap, e_ite, iteK_true, iteK_false, e_call, e_callK, e_sl, slK_ap, e_oNone, e_oSome, e_bm, bmK_join, bmK_upper, e_tTru, e_tBoo, e_tAn, anK_true, anK_false, e_tO, oK_true, oK_false, e_tNo, noK_ap, pBool_bl, pTru_bl, e_iVal, e_iRng, e_lc, bi_len, bi_int, pLen_kl, pLen_tup, pAdd_int, pSub_int, pNeg_int, pLt_int, pGt_int, pLe_int, pGe_int, pEq_int, pNe_int, pEq_str, pNe_str, pEq_bl, pNe_bl, pIn_char, pNotIn_char, pSl_tup, src_str', src_kl', src_tup', Rs.bind_ok, Rs.bind_bad, Rs.st_ok, RS.seq_next, RS.seq_ret, RS.seq_brk, RS.seq_cnt, RS.out_next, RS.out_ret, RS.out_exc, List.getElem?_cons_zero, List.getElem?_cons_succ, List.set_cons_zero, List.set_cons_succ, wipe', Bool.not_true, Bool.not_false]
    rw [pMod_int (by omega)]
    obtain ⟨sd, esd⟩ : ∃ sd, sd = z % 2147483629 := ⟨_, rfl⟩
    have sd0 : 0 ≤ sd := by rw [esd]; exact Int.emod_nonneg _ (by omega)
    have sd1 : sd < 2147483629 := by rw [esd]; exact Int.emod_lt_of_pos _ (by omega)
    rw [← esd]
    simp only [e_seq, e_if, ifK_true, ifK_false, e_nil, e_set, setK_var, e_expr, e_ret, e_retN, e_brk, e_cnt, e_for, forK_mk, e_while, e_cst, e_var, e_anil, e_cons, consK_ap, e_n, e_op1, e_op2, op2K_ap, e_and, andK_true, andK_false, e_or, orK_true, orK_false, e_not, noV_ap, e_ite, iteK_true, iteK_false, e_call, e_callK, e_sl, slK_ap, e_oNone, e_oSome, e_bm, bmK_join, bmK_upper, e_tTru, e_tBoo, e_tAn, anK_true, anK_false, e_tO, oK_true, oK_false, e_tNo, noK_ap, pBool_bl, pTru_bl, e_iVal, e_iRng, e_lc, bi_len, bi_int, pLen_kl, pLen_tup, pAdd_int, pSub_int, pNeg_int, pLt_int, pGt_int, pLe_int, pGe_int, pEq_int, pNe_int, pEq_str, pNe_str, pEq_bl, pNe_bl, pIn_char, pNotIn_char, pSl_tup, src_str', src_kl', src_tup', Rs.bind_ok, Rs.bind_bad, Rs.st_ok, RS.seq_next, RS.seq_ret, RS.seq_brk, RS.seq_cnt, RS.out_next, RS.out_ret, RS.out_exc, List.getElem?_cons_zero, List.getElem?_cons_succ, List.set_cons_zero, List.set_cons_succ, wipe', Bool.not_true, Bool.not_false]
    rw [pLen_ref (get_app _ hm)]
    simp only [e_seq, e_if, ifK_true, ifK_false, e_nil, e_set, setK_var, e_expr, e_ret, e_retN, e_brk, e_cnt, e_for, forK_mk, e_while, e_cst, e_var, e_anil, e_cons, consK_ap, e_n, e_op1, e_op2, op2K_ap, e_and, andK_true, andK_false, e_or, orK_true, orK_false, e_not, noV_ap, e_ite, iteK_true, iteK_false, e_call, e_callK, e_sl, slK_ap, e_oNone, e_oSome, e_bm, bmK_join, bmK_upper, e_tTru, e_tBoo, e_tAn, anK_true, anK_false, e_tO, oK_true, oK_false, e_tNo, noK_ap, pBool_bl, pTru_bl, e_iVal, e_iRng, e_lc, bi_len, bi_int, pLen_kl, pLen_tup, pAdd_int, pSub_int, pNeg_int, pLt_int, pGt_int, pLe_int, pGe_int, pEq_int, pNe_int, pEq_str, pNe_str, pEq_bl, pNe_bl, pIn_char, pNotIn_char, pSl_tup, src_str', src_kl', src_tup', Rs.bind_ok, Rs.bind_bad, Rs.st_ok, RS.seq_next, RS.seq_ret, RS.seq_brk, RS.seq_cnt, RS.out_next, RS.out_ret, RS.out_exc, List.getElem?_cons_zero, List.getElem?_cons_succ, List.set_cons_zero, List.set_cons_succ, wipe', Bool.not_true, Bool.not_false, List.length_map]
    rw [srcR_1 (by omega)]
    simp only [e_seq, e_if, ifK_true, ifK_false, e_nil, e_set, setK_var, e_expr, e_ret, e_retN, e_brk, e_cnt, e_for, forK_mk, e_while, e_cst, e_var, e_anil, e_cons, consK_ap, e_n, e_op1, e_op2, op2K_ap, e_and, andK_true, andK_false, e_or, orK_true, orK_false, e_not, noV_ap, e_ite, iteK_true, iteK_false, e_call, e_callK, e_sl, slK_ap, e_oNone, e_oSome, e_bm, bmK_join, bmK_upper, e_tTru, e_tBoo, e_tAn, anK_true, anK_false, e_tO, oK_true, oK_false, e_tNo, noK_ap, pBool_bl, pTru_bl, e_iVal, e_iRng, e_lc, bi_len, bi_int, pLen_kl, pLen_tup, pAdd_int, pSub_int, pNeg_int, pLt_int, pGt_int, pLe_int, pGe_int, pEq_int, pNe_int, pEq_str, pNe_str, pEq_bl, pNe_bl, pIn_char, pNotIn_char, pSl_tup, src_str', src_kl', src_tup', Rs.bind_ok, Rs.bind_bad, Rs.st_ok, RS.seq_next, RS.seq_ret, RS.seq_brk, RS.seq_cnt, RS.out_next, RS.out_ret, RS.out_exc, List.getElem?_cons_zero, List.getElem?_cons_succ, List.set_cons_zero, List.set_cons_succ, wipe', Bool.not_true, Bool.not_false]
    refine forL_ind (fun xs ρ h' => ∃ done todo row seed v w, szs = done ++ todo ∧ xs = rngL (done.length : Nat) (szs.length : Nat) ∧ RowOk row done ∧ h' = h ++ [.lst (row.map D.int)] ∧ 0 ≤ seed ∧ seed < 2147483647 ∧
        ρ = [some (.int z), some (.ref m), some (.ref h.length), some (.int z), none, some (.int seed), v, w])
      (fun r => ∃ row, RowOk row szs ∧ (r.seq _).out = .ok (.ref h.length) (h ++ [.lst (row.map D.int)])) (fun _ _ _ _ => rfl) ?_ ?_ _ _ _ ⟨[], szs, [], sd, none, none, rfl, rfl, .nil, rfl, sd0, by omega, rfl⟩
    · rintro ρ h' ⟨done, todo, row, seed, v, w, e1, e2, ro, rfl, s0, s1, rfl⟩
      have : todo = [] := by
        have b := congrArg List.length e2
        have c := congrArg List.length e1
        simp [rngL] at b c
        exact List.eq_nil_of_length_eq_zero (by omega)
      subst this
      rw [List.append_nil] at e1
      subst e1
      exact ⟨row, ro, by simp only [e_seq, e_if, ifK_true, ifK_false, e_nil, e_set, setK_var, e_expr, e_ret, e_retN, e_brk, e_cnt, e_for, forK_mk, e_while, e_cst, e_var, e_anil, e_cons, consK_ap, e_n, e_op1, e_op2, op2K_ap, e_and, andK_true, andK_false, e_or, orK_true, orK_false, e_not, noV_ap, e_ite, iteK_true, iteK_false, e_call, e_callK, e_sl, slK_ap, e_oNone, e_oSome, e_bm, bmK_join, bmK_upper, e_tTru, e_tBoo, e_tAn, anK_true, anK_false, e_tO, oK_true, oK_false, e_tNo, noK_ap, pBool_bl, pTru_bl, e_iVal, e_iRng, e_lc, bi_len, bi_int, pLen_kl, pLen_tup, pAdd_int, pSub_int, pNeg_int, pLt_int, pGt_int, pLe_int, pGe_int, pEq_int, pNe_int, pEq_str, pNe_str, pEq_bl, pNe_bl, pIn_char, pNotIn_char, pSl_tup, src_str', src_kl', src_tup', Rs.bind_ok, Rs.bind_bad, Rs.st_ok, RS.seq_next, RS.seq_ret, RS.seq_brk, RS.seq_cnt, RS.out_next, RS.out_ret, RS.out_exc, List.getElem?_cons_zero, List.getElem?_cons_succ, List.set_cons_zero, List.set_cons_succ, wipe', Bool.not_true, Bool.not_false]⟩
    · rintro x xs ρ h' ⟨done, todo, row, seed, v, w, e1, e2, ro, rfl, s0, s1, rfl⟩
      cases todo with
      | nil =>
        exfalso
        have c := congrArg List.length e1
        rw [List.length_append, List.length_nil, Nat.add_zero] at c
        rw [rngL_nil (by omega)] at e2
        cases e2
      | cons s todo =>
        have c := congrArg List.length e1
        rw [List.length_append, List.length_cons] at c
        rw [rngL_cons (by omega)] at e2
        cases e2
        have hss := hs s (by rw [e1]; simp)
        have hlen : row.length < 1000 := by
          have a := ro.len
          omega
        have hget : atI (szs.map D.int) (done.length : Int) = some (.int s) := atI_nat (by rw [e1]; simp)
        obtain ⟨sd, esd⟩ : ∃ sd, sd = (seed * 48271 + 974711 * (done.length : Int) + 12345) % 2147483647 := ⟨_, rfl⟩
        have sd0 : 0 ≤ sd := by rw [esd]; exact Int.emod_nonneg _ (by omega)
        have sd1 : sd < 2147483647 := by rw [esd]; exact Int.emod_lt_of_pos _ (by omega)
        obtain ⟨tw, etw⟩ : ∃ tw, tw = (sd * (sd / 65537 + 3)) % 2147483629 := ⟨_, rfl⟩
        refine ⟨_, rfl, .inl ⟨[some (.int z), some (.ref m), some (.ref h.length), some (.int z), none, some (.int sd), some (.int done.length), some (.int tw)], h ++ [.lst ((row ++ [tw / 19 % s]).map D.int)], .inl ?_, done ++ [s], todo, row ++ [tw / 19 % s], sd, _, _, by rw [e1]; simp, by rw [List.length_append]; rfl, RowOk.snoc (Int.emod_nonneg _ (by omega)) (Int.emod_lt_of_pos _ (by omega)) ro, rfl, sd0, sd1, rfl⟩⟩
        simp (disch := omega) only [e_seq, e_if, ifK_true, ifK_false, e_nil, e_set, setK_var, e_expr, e_ret, e_retN, e_brk, e_cnt, e_for, forK_mk, e_while, e_cst, e_var, e_anil, e_cons, consK_ap, e_n, e_op1, e_op2, op2K_ap, e_and, andK_true, andK_false, e_or, orK_true, orK_false, e_not, noV_ap, e_ite, iteK_true, iteK_false, e_call, e_callK, e_sl, slK_ap, e_oNone, e_oSome, e_bm, bmK_join, bmK_upper, e_tTru, e_tBoo, e_tAn, anK_true, anK_false, e_tO, oK_true, oK_false, e_tNo, noK_ap, pBool_bl, pTru_bl, e_iVal, e_iRng, e_lc, bi_len, bi_int, pLen_kl, pLen_tup, pAdd_int, pSub_int, pNeg_int, pLt_int, pGt_int, pLe_int, pGe_int, pEq_int, pNe_int, pEq_str, pNe_str, pEq_bl, pNe_bl, pIn_char, pNotIn_char, pSl_tup, src_str', src_kl', src_tup', Rs.bind_ok, Rs.bind_bad, Rs.st_ok, RS.seq_next, RS.seq_ret, RS.seq_brk, RS.seq_cnt, RS.out_next, RS.out_ret, RS.out_exc, List.getElem?_cons_zero, List.getElem?_cons_succ, List.set_cons_zero, List.set_cons_succ, wipe', Bool.not_true, Bool.not_false, pMod_int, pFdiv_int, pMul_int, ← esd, bmK_lst (b := .append) rfl (get_new _)]
        simp (disch := omega) only [e_seq, e_if, ifK_true, ifK_false, e_nil, e_set, setK_var, e_expr, e_ret, e_retN, e_brk, e_cnt, e_for, forK_mk, e_while, e_cst, e_var, e_anil, e_cons, consK_ap, e_n, e_op1, e_op2, op2K_ap, e_and, andK_true, andK_false, e_or, orK_true, orK_false, e_not, noV_ap, e_ite, iteK_true, iteK_false, e_call, e_callK, e_sl, slK_ap, e_oNone, e_oSome, e_bm, bmK_join, bmK_upper, e_tTru, e_tBoo, e_tAn, anK_true, anK_false, e_tO, oK_true, oK_false, e_tNo, noK_ap, pBool_bl, pTru_bl, e_iVal, e_iRng, e_lc, bi_len, bi_int, pLen_kl, pLen_tup, pAdd_int, pSub_int, pNeg_int, pLt_int, pGt_int, pLe_int, pGe_int, pEq_int, pNe_int, pEq_str, pNe_str, pEq_bl, pNe_bl, pIn_char, pNotIn_char, pSl_tup, src_str', src_kl', src_tup', Rs.bind_ok, Rs.bind_bad, Rs.st_ok, RS.seq_next, RS.seq_ret, RS.seq_brk, RS.seq_cnt, RS.out_next, RS.out_ret, RS.out_exc, List.getElem?_cons_zero, List.getElem?_cons_succ, List.set_cons_zero, List.set_cons_succ, wipe', Bool.not_true, Bool.not_false, pMod_int, pFdiv_int, pMul_int, ← etw, pIx_ref (get_app _ hm) hget]
        rw [append_run (get_new _) (by rw [List.length_map]; omega), set_new]
        simp only [e_seq, e_if, ifK_true, ifK_false, e_nil, e_set, setK_var, e_expr, e_ret, e_retN, e_brk, e_cnt, e_for, forK_mk, e_while, e_cst, e_var, e_anil, e_cons, consK_ap, e_n, e_op1, e_op2, op2K_ap, e_and, andK_true, andK_false, e_or, orK_true, orK_false, e_not, noV_ap, e_ite, iteK_true, iteK_false, e_call, e_callK, e_sl, slK_ap, e_oNone, e_oSome, e_bm, bmK_join, bmK_upper, e_tTru, e_tBoo, e_tAn, anK_true, anK_false, e_tO, oK_true, oK_false, e_tNo, noK_ap, pBool_bl, pTru_bl, e_iVal, e_iRng, e_lc, bi_len, bi_int, pLen_kl, pLen_tup, pAdd_int, pSub_int, pNeg_int, pLt_int, pGt_int, pLe_int, pGe_int, pEq_int, pNe_int, pEq_str, pNe_str, pEq_bl, pNe_bl, pIn_char, pNotIn_char, pSl_tup, src_str', src_kl', src_tup', Rs.bind_ok, Rs.bind_bad, Rs.st_ok, RS.seq_next, RS.seq_ret, RS.seq_brk, RS.seq_cnt, RS.out_next, RS.out_ret, RS.out_exc, List.getElem?_cons_zero, List.getElem?_cons_succ, List.set_cons_zero, List.set_cons_succ, wipe', Bool.not_true, Bool.not_false, List.map_append, List.map_cons, List.map_nil]
end Lw

set_option maxRecDepth 100000
set_option maxHeartbeats 1000000
noncomputable section
namespace Lw
open Pm PySem L2
def signsA : List Char := [' ', '!', '"', '#', '$', '&', Char.ofNat 39, '(', ')', '*', '+', ',', '-', '.', '/', '0', '1', '2', '3', '4', '5', '6', '7', '8', '9', ':', ';', '<', '=', '>', '?', '@', 'A', 'B', 'C', 'D', 'E', 'F', 'G', 'H', 'I', 'J', 'K', 'L', 'M', 'N', 'O', 'P', 'Q', 'R', 'S', 'T', 'U', 'V', 'W', 'X', 'Y', 'Z', '[', Char.ofNat 92, ']', '^', '_', '`']
def signsB : List Char := ['a', 'b', 'c', 'd', 'e', 'f', 'g', 'h', 'i', 'j', 'k', 'l', 'm', 'n', 'o', 'p', 'q', 'r', 's', 't', 'u', 'v', 'w', 'x', 'y', 'z', '{', '|', '}', '~', Char.ofNat 10]
theorem sign_run (n : Nat) (k : Int) (h : AH) : ∃ ch, callF (fbOf tab) (n + 1) 5 [.int k] h = .ok (.str [ch]) h := by
  have hsz : PySem.sizeLine = 16777216 := PySem.sizeLine_eq
  rw [cl__law_sign]
  obtain ⟨A, eA⟩ : ∃ A, A = signsA := ⟨_, rfl⟩
  obtain ⟨B, eB⟩ : ∃ B, B = signsB := ⟨_, rfl⟩
  have e1 : b__law_sign = kSeq (kSet (gVar 1) (sCst (.str A))) (kSeq (kSet (gVar 1) (sOp2 pAdd (sVar 1) (sCst (.str B)))) (kSeq (kRet (sOp2 pIx (sVar 1) (sOp2 pMod (sN (pBi .int) (sCons (sVar 0) (sNil))) (sCst (.int 95))))) kNil)) := by rw [eA, eB]; rfl
  have hl : (A ++ B).length = 95 := by rw [eA, eB]; rfl
  have hl2 : A.length + B.length = 95 := by rw [← List.length_append]; exact hl
  rw [e1]
  simp only [e_seq, e_if, ifK_true, ifK_false, e_nil, e_set, setK_var, e_expr, e_ret, e_retN, e_brk, e_cnt, e_for, forK_mk, e_while, e_cst, e_var, e_anil, e_cons, consK_ap, e_n, e_op1, e_op2, op2K_ap, e_and, andK_true, andK_false, e_or, orK_true, orK_false, e_not, noV_ap, e_ite, iteK_true, iteK_false, e_call, e_callK, e_sl, slK_ap, e_oNone, e_oSome, e_bm, bmK_join, bmK_upper, e_tTru, e_tBoo, e_tAn, anK_true, anK_false, e_tO, oK_true, oK_false, e_tNo, noK_ap, pBool_bl, pTru_bl, e_iVal, e_iRng, e_lc, bi_len, bi_int, pLen_kl, pLen_tup, pAdd_int, pSub_int, pNeg_int, pLt_int, pGt_int, pLe_int, pGe_int, pEq_int, pNe_int, pEq_str, pNe_str, pEq_bl, pNe_bl, pIn_char, pNotIn_char, pSl_tup, src_str', src_kl', src_tup', Rs.bind_ok, Rs.bind_bad, Rs.st_ok, RS.seq_next, RS.seq_ret, RS.seq_brk, RS.seq_cnt, RS.out_next, RS.out_ret, RS.out_exc, List.getElem?_cons_zero, List.getElem?_cons_succ, List.set_cons_zero, List.set_cons_succ, wipe', Bool.not_true, Bool.not_false]
  rw [pAdd_str (by omega)]
  simp only [e_seq, e_if, ifK_true, ifK_false, e_nil, e_set, setK_var, e_expr, e_ret, e_retN, e_brk, e_cnt, e_for, forK_mk, e_while, e_cst, e_var, e_anil, e_cons, consK_ap, e_n, e_op1, e_op2, op2K_ap, e_and, andK_true, andK_false, e_or, orK_true, orK_false, e_not, noV_ap, e_ite, iteK_true, iteK_false, e_call, e_callK, e_sl, slK_ap, e_oNone, e_oSome, e_bm, bmK_join, bmK_upper, e_tTru, e_tBoo, e_tAn, anK_true, anK_false, e_tO, oK_true, oK_false, e_tNo, noK_ap, pBool_bl, pTru_bl, e_iVal, e_iRng, e_lc, bi_len, bi_int, pLen_kl, pLen_tup, pAdd_int, pSub_int, pNeg_int, pLt_int, pGt_int, pLe_int, pGe_int, pEq_int, pNe_int, pEq_str, pNe_str, pEq_bl, pNe_bl, pIn_char, pNotIn_char, pSl_tup, src_str', src_kl', src_tup', Rs.bind_ok, Rs.bind_bad, Rs.st_ok, RS.seq_next, RS.seq_ret, RS.seq_brk, RS.seq_cnt, RS.out_next, RS.out_ret, RS.out_exc, List.getElem?_cons_zero, List.getElem?_cons_succ, List.set_cons_zero, List.set_cons_succ, wipe', Bool.not_true, Bool.not_false]
  rw [pMod_int (by omega)]
  obtain ⟨j, ej⟩ : ∃ j, j = k % 95 := ⟨_, rfl⟩
  rw [← ej]
  obtain ⟨c, a1, _, _⟩ := atI_lt (xs := A ++ B) (i := j) (by omega) (by omega)
  simp only [e_seq, e_if, ifK_true, ifK_false, e_nil, e_set, setK_var, e_expr, e_ret, e_retN, e_brk, e_cnt, e_for, forK_mk, e_while, e_cst, e_var, e_anil, e_cons, consK_ap, e_n, e_op1, e_op2, op2K_ap, e_and, andK_true, andK_false, e_or, orK_true, orK_false, e_not, noV_ap, e_ite, iteK_true, iteK_false, e_call, e_callK, e_sl, slK_ap, e_oNone, e_oSome, e_bm, bmK_join, bmK_upper, e_tTru, e_tBoo, e_tAn, anK_true, anK_false, e_tO, oK_true, oK_false, e_tNo, noK_ap, pBool_bl, pTru_bl, e_iVal, e_iRng, e_lc, bi_len, bi_int, pLen_kl, pLen_tup, pAdd_int, pSub_int, pNeg_int, pLt_int, pGt_int, pLe_int, pGe_int, pEq_int, pNe_int, pEq_str, pNe_str, pEq_bl, pNe_bl, pIn_char, pNotIn_char, pSl_tup, src_str', src_kl', src_tup', Rs.bind_ok, Rs.bind_bad, Rs.st_ok, RS.seq_next, RS.seq_ret, RS.seq_brk, RS.seq_cnt, RS.out_next, RS.out_ret, RS.out_exc, List.getElem?_cons_zero, List.getElem?_cons_succ, List.set_cons_zero, List.set_cons_succ, wipe', Bool.not_true, Bool.not_false]
  rw [pIx_str a1 (by omega)]
  exact ⟨c, rfl⟩
theorem joinS_chars : ∀ cs : List Char, joinS [] (cs.map fun c => [c]) = cs
  | [] => rfl
  | [c] => rfl
  | c :: d :: r => congrArg (c :: ·) (joinS_chars (d :: r))
theorem joinLen_chars : ∀ cs : List Char, joinLen [] (cs.map fun c => [c]) = cs.length
  | [] => rfl
  | c :: r => by
    have := joinLen_chars r
    unfold joinLen at this ⊢
    rw [List.map_cons, List.map_cons, List.sum_cons, this]
    simp only [List.length_cons, List.length_nil]
    omega
/-- the same for each k -/
theorem lc_const {c : CallT} {ρ : Env'} {h : AH} (i n : Nat) (N : Int) (d : D) (eN : N = n) (hn : n ≤ 1000) : sLc [i] (gVar i) (iRng (sCons (sCst (.int N)) sNil)) tYesS (sCst d) c ρ h = .ok (.ref h.length) (h ++ [AO.lst (List.replicate n d)]) := by
  have hsz : PySem.sizeLine = 16777216 := PySem.sizeLine_eq
  simp only [e_seq, e_if, ifK_true, ifK_false, e_nil, e_set, setK_var, e_expr, e_ret, e_retN, e_brk, e_cnt, e_for, forK_mk, e_while, e_cst, e_var, e_anil, e_cons, consK_ap, e_n, e_op1, e_op2, op2K_ap, e_and, andK_true, andK_false, e_or, orK_true, orK_false, e_not, noV_ap, e_ite, iteK_true, iteK_false, e_call, e_callK, e_sl, slK_ap, e_oNone, e_oSome, e_bm, bmK_join, bmK_upper, e_tTru, e_tBoo, e_tAn, anK_true, anK_false, e_tO, oK_true, oK_false, e_tNo, noK_ap, pBool_bl, pTru_bl, e_iVal, e_iRng, e_lc, bi_len, bi_int, pLen_kl, pLen_tup, pAdd_int, pSub_int, pNeg_int, pLt_int, pGt_int, pLe_int, pGe_int, pEq_int, pNe_int, pEq_str, pNe_str, pEq_bl, pNe_bl, pIn_char, pNotIn_char, pSl_tup, src_str', src_kl', src_tup', Rs.bind_ok, Rs.bind_bad, Rs.st_ok, RS.seq_next, RS.seq_ret, RS.seq_brk, RS.seq_cnt, RS.out_next, RS.out_ret, RS.out_exc, List.getElem?_cons_zero, List.getElem?_cons_succ, List.set_cons_zero, List.set_cons_succ, wipe', Bool.not_true, Bool.not_false]
  rw [srcR_1 (by omega)]
  simp only [e_seq, e_if, ifK_true, ifK_false, e_nil, e_set, setK_var, e_expr, e_ret, e_retN, e_brk, e_cnt, e_for, forK_mk, e_while, e_cst, e_var, e_anil, e_cons, consK_ap, e_n, e_op1, e_op2, op2K_ap, e_and, andK_true, andK_false, e_or, orK_true, orK_false, e_not, noV_ap, e_ite, iteK_true, iteK_false, e_call, e_callK, e_sl, slK_ap, e_oNone, e_oSome, e_bm, bmK_join, bmK_upper, e_tTru, e_tBoo, e_tAn, anK_true, anK_false, e_tO, oK_true, oK_false, e_tNo, noK_ap, pBool_bl, pTru_bl, e_iVal, e_iRng, e_lc, bi_len, bi_int, pLen_kl, pLen_tup, pAdd_int, pSub_int, pNeg_int, pLt_int, pGt_int, pLe_int, pGe_int, pEq_int, pNe_int, pEq_str, pNe_str, pEq_bl, pNe_bl, pIn_char, pNotIn_char, pSl_tup, src_str', src_kl', src_tup', Rs.bind_ok, Rs.bind_bad, Rs.st_ok, RS.seq_next, RS.seq_ret, RS.seq_brk, RS.seq_cnt, RS.out_next, RS.out_ret, RS.out_exc, List.getElem?_cons_zero, List.getElem?_cons_succ, List.set_cons_zero, List.set_cons_succ, wipe', Bool.not_true, Bool.not_false]
  have key := lcL_map (st := stands none (rngL 0 N)) (i := i) (ρ := wipe' ρ [i]) (c := c) (e := sCst d c) (h := h) (fun _ => d) rfl (xs := rngL 0 N) (fun _ _ => rfl)
  have e : (rngL 0 N).map (fun _ => d) = List.replicate n d := by
    rw [List.map_const']
    unfold rngL
    rw [List.length_map, List.length_range, eN]
    congr 1
  rw [e] at key
  rw [lcK_ok key (by rw [List.length_replicate]; omega)]
/-- a list of sizes: some, then the same for each k -/
theorem sizes_run {c : CallT} {ρ : Env'} {h : AH} {es : SA} {A : List D} {i n : Nat} {N : Int} {d : D} (he : es c ρ h = .ok A h) (hA : A.length ≤ 1000) (eN : N = n) (hn : n ≤ 1000) :
    sOp2 pAdd (sN pLst es) (sLc [i] (gVar i) (iRng (sCons (sCst (.int N)) sNil)) tYesS (sCst d)) c ρ h = .ok (.ref (h.length + 2)) (h ++ [AO.lst A, AO.lst (List.replicate n d), AO.lst (A ++ List.replicate n d)]) := by
  have hsz : PySem.sizeLine = 16777216 := PySem.sizeLine_eq
  rw [e_op2, e_n, he, Rs.bind_ok, pLst_run (by omega), Rs.bind_ok, op2K_ap, lc_const i n N d eN hn, Rs.bind_ok, pAdd_lst (get_app _ (get_new _)) (get_new _) (by rw [List.length_replicate]; omega)]
  simp
def sizesT : List Int := [18, 13, 9, 12, 95, 26, 25, 95, 95, 95, 95, 95, 95, 95, 95, 95, 95, 95, 95]
def sizesS : List Int := [7, 8, 2, 26, 36, 36, 36, 36, 36, 36]
def ascii (s : List Char) : Prop := ∀ c ∈ s, c.toNat < 128
theorem ascii_alnum : ascii alnum := by
  unfold ascii
  decide
theorem ascii_words : ∀ w ∈ words ++ words2, ascii w ∧ 0 < w.length ∧ w.length ≤ 10 := by
  unfold ascii
  decide
theorem ascii_app {s t : List Char} (a : ascii s) (b : ascii t) : ascii (s ++ t) := fun c hc => (List.mem_append.mp hc).elim (a c) (b c)
theorem upC_len (s : List Char) : (s.map upC).length = s.length := List.length_map ..
theorem up1 {ch : Char} {h : AH} (hc : ch.toNat < 128) : pBm .upper (.str [ch]) [] h = .ok (.str [upC ch]) h := upper_run ⟨by simp, by simp [hc]⟩
end Lw

set_option maxRecDepth 100000
set_option maxHeartbeats 1000000
noncomputable section
namespace Lw
open Pm PySem L2
theorem RowOk.inv {row ss : List Int} {s : Int} (ro : RowOk row (s :: ss)) : ∃ r rs, row = r :: rs ∧ 0 ≤ r ∧ r < s ∧ RowOk rs ss := by
  cases ro with
  | cons a b t => exact ⟨_, _, rfl, a, b, t⟩
theorem cut_map {α β : Type} (f : α → β) (xs : List α) (lo hi : Option Int) : cut (xs.map f) lo hi = (cut xs lo hi).map f := by
  unfold cut
  rw [List.length_map, List.map_take, List.map_drop]
theorem comp_chars {own : List Nat} {i : Nat} {ρ : Env'} {c : CallT} {h : AH} {e : SE} {o : Option Nat} (ds : List Int) (f : Int → Char) (hst : stands o (ds.map D.int) h = true) (he : ∀ d ∈ ds, e c ((wipe' ρ own).set i (some (.int d))) h = .ok (.str [f d]) h) (hl : ds.length ≤ PySem.sizeLine) :
    lcK own (gVar i) tYesS e c ρ ⟨o, ds.map D.int⟩ h = .ok (.ref h.length) (h ++ [AO.lst (((ds.map f).map fun c => [c]).map D.str)]) := by
  have key := lcL_map (st := stands o (ds.map D.int)) (i := i) (ρ := wipe' ρ own) (c := c) (e := e c) (h := h) (fun x => match x with | .int d => .str [f d] | _ => .non) hst (xs := ds.map D.int) (by
    intro x hx
    obtain ⟨d, hd, rfl⟩ := List.mem_map.mp hx
    exact he d hd)
  rw [lcK_ok key (by rw [List.length_map, List.length_map]; exact hl)]
  rw [List.map_map, List.map_map, List.map_map]
  rfl
theorem join_chars {h : AH} {n : Nat} {cs : List Char} (hn : h[n]? = some (.lst ((cs.map fun c => [c]).map D.str))) (hl : cs.length ≤ PySem.sizeLine) : pBm .join (.str []) [.ref n] h = .ok (.str cs) h := by
  rw [join_run (items_ref hn) (by rw [joinLen_chars]; exact hl), joinS_chars]
theorem alnum_len : alnum.length = 36 := rfl
def alAt (d : Int) : Char := alnum.getD (d % 36).toNat 'a'
theorem alAt_ok (d : Int) : atI alnum (d % 36) = some (alAt d) ∧ (alAt d).toNat < 128 := by
  obtain ⟨j, ej⟩ : ∃ j, j = d % 36 := ⟨_, rfl⟩
  have := alnum_len
  obtain ⟨c, a1, a2, a3⟩ := atI_lt (xs := alnum) (i := j) (by omega) (by omega)
  unfold alAt
  rw [← ej, List.getD_eq_getElem?_getD, a3]
  exact ⟨a1, ascii_alnum _ a2⟩
/-- the index of a str, with what is known of it -/
theorem ix_some {s : List Char} {j : Int} {h : AH} (h0 : 0 ≤ j) (h1 : j < s.length) (hl : s.length ≤ PySem.sizeLine) : ∃ ch, ch ∈ s ∧ pIx (.str s) (.int j) h = .ok (.str [ch]) h := by
  obtain ⟨c, a1, a2, _⟩ := atI_lt h0 h1
  exact ⟨c, a2, pIx_str a1 hl⟩
theorem upC_ascii {c : Char} (h : c.toNat < 128) : (upC c).toNat < 128 := by
  unfold upC
  split
  · rename_i hc
    have : (c.toNat - 32).isValidChar := Or.inl (by omega)
    rw [Char.ofNat, dif_pos this]
    show (Char.ofNatAux _ this).toNat < 128
    have e : (Char.ofNatAux (c.toNat - 32) this).toNat = c.toNat - 32 := by
      unfold Char.ofNatAux Char.toNat
      simp
    omega
  · exact h
theorem rep_len {α : Type} (s : List α) (k : Nat) : (rep k s).length = k * s.length := by
  simp [rep]
theorem fin_str {B : Nat} {s0 : List Char} {h h' t : AH} (e : h' = h ++ t) (hl : s0.length ≤ B) : ∃ s t, s.length ≤ B ∧ (Rs.ok (D.str s0) h' : Rs D) = .ok (.str s) (h ++ t) := ⟨s0, t, hl, by rw [e]⟩
theorem upper_head {ch : Char} {r : List Char} {h : AH} (ha : ascii (ch :: r)) : pBm .upper (.str [ch]) [] h = .ok (.str [upC ch]) h := up1 (ha ch (by simp))
theorem text_run (n : Nat) (z : Int) (h : AH) : ∃ s t, s.length ≤ 2000 ∧ callF (fbOf tab) (n + 2) 7 [.int z] h = .ok (.str s) (h ++ t) := by
  have hsz : PySem.sizeLine = 16777216 := PySem.sizeLine_eq
  rw [cl__law_text]
  unfold b__law_text
  simp only [e_seq, e_set, e_call, e_cons, e_var, e_anil, consK_ap, Rs.bind_ok, List.getElem?_cons_zero]
  rw [sizes_run (A := [.int 18, .int 13, .int 9, .int 12, .int 95, .int 26, .int 25]) (n := 12) (N := 12) rfl (by decide) rfl (by decide)]
  obtain ⟨row, ro, e1⟩ := digits_run n z (h.length + 2) sizesT (h ++ [AO.lst [.int 18, .int 13, .int 9, .int 12, .int 95, .int 26, .int 25], AO.lst (List.replicate 12 (.int 95)), AO.lst ([.int 18, .int 13, .int 9, .int 12, .int 95, .int 26, .int 25] ++ List.replicate 12 (.int 95))]) (by simp [sizesT]) (by decide) (by decide)
  simp only [consK_ap, e_anil, Rs.bind_ok, e1, Rs.st_ok, setK_var, RS.seq_next, List.set_cons_succ, List.set_cons_zero]
  obtain ⟨r0, rest, rfl, a0, b0, ro⟩ := RowOk.inv ro
  obtain ⟨r1, rest, rfl, a1, b1, ro⟩ := RowOk.inv ro
  obtain ⟨r2, rest, rfl, a2, b2, ro⟩ := RowOk.inv ro
  obtain ⟨r3, rest, rfl, a3, b3, ro⟩ := RowOk.inv ro
  obtain ⟨r4, rest, rfl, a4, b4, ro⟩ := RowOk.inv ro
  obtain ⟨r5, rest, rfl, a5, b5, ro⟩ := RowOk.inv ro
  obtain ⟨r6, rest, rfl, a6, b6, ro⟩ := RowOk.inv ro
  have hrl : rest.length = 12 := ro.len
  clear ro e1
  obtain ⟨row, er⟩ : ∃ row, row = r0 :: r1 :: r2 :: r3 :: r4 :: r5 :: r6 :: rest := ⟨_, rfl⟩
  have hlr : row.length = 19 := by rw [er]; simp [hrl]
  have i0 : atI (row.map D.int) 0 = some (.int r0) := by rw [er]; exact atI_nat (j := 0) rfl
  have i1 : atI (row.map D.int) 1 = some (.int r1) := by rw [er]; exact atI_nat (j := 1) rfl
  have i2 : atI (row.map D.int) 2 = some (.int r2) := by rw [er]; exact atI_nat (j := 2) rfl
  have i3 : atI (row.map D.int) 3 = some (.int r3) := by rw [er]; exact atI_nat (j := 3) rfl
  have i4 : atI (row.map D.int) 4 = some (.int r4) := by rw [er]; exact atI_nat (j := 4) rfl
  have i5 : atI (row.map D.int) 5 = some (.int r5) := by rw [er]; exact atI_nat (j := 5) rfl
  have i6 : atI (row.map D.int) 6 = some (.int r6) := by rw [er]; exact atI_nat (j := 6) rfl
  rw [← er]
  clear er
  generalize hR : (h ++ [AO.lst [.int 18, .int 13, .int 9, .int 12, .int 95, .int 26, .int 25], AO.lst (List.replicate 12 (.int 95)), AO.lst ([.int 18, .int 13, .int 9, .int 12, .int 95, .int 26, .int 25] ++ List.replicate 12 (.int 95))]).length = R
  obtain ⟨h1, eh1⟩ : ∃ h1, h1 = h ++ [AO.lst [.int 18, .int 13, .int 9, .int 12, .int 95, .int 26, .int 25], AO.lst (List.replicate 12 (.int 95)), AO.lst ([.int 18, .int 13, .int 9, .int 12, .int 95, .int 26, .int 25] ++ List.replicate 12 (.int 95))] ++ [AO.lst (row.map D.int)] := ⟨_, rfl⟩
  have hr : h1[R]? = some (.lst (row.map D.int)) := by rw [eh1, ← hR]; exact get_new _
  rw [← eh1]
  obtain ⟨t1, et1⟩ : ∃ t1, h1 = h ++ t1 := ⟨_, by rw [eh1, List.append_assoc]⟩
  clear eh1 hR
  simp only [e_seq, e_if, ifK_true, ifK_false, e_nil, e_set, setK_var, e_expr, e_ret, e_retN, e_brk, e_cnt, e_for, forK_mk, e_while, e_cst, e_var, e_anil, e_cons, consK_ap, e_n, e_op1, e_op2, op2K_ap, e_and, andK_true, andK_false, e_or, orK_true, orK_false, e_not, noV_ap, e_ite, iteK_true, iteK_false, e_call, e_callK, e_sl, slK_ap, e_oNone, e_oSome, e_bm, bmK_join, bmK_upper, e_tTru, e_tBoo, e_tAn, anK_true, anK_false, e_tO, oK_true, oK_false, e_tNo, noK_ap, pBool_bl, pTru_bl, e_iVal, e_iRng, e_lc, bi_len, bi_int, pLen_kl, pLen_tup, pAdd_int, pSub_int, pNeg_int, pLt_int, pGt_int, pLe_int, pGe_int, pEq_int, pNe_int, pEq_str, pNe_str, pEq_bl, pNe_bl, pIn_char, pNotIn_char, pSl_tup, src_str', src_kl', src_tup', Rs.bind_ok, Rs.bind_bad, Rs.st_ok, RS.seq_next, RS.seq_ret, RS.seq_brk, RS.seq_cnt, RS.out_next, RS.out_ret, RS.out_exc, List.getElem?_cons_zero, List.getElem?_cons_succ, List.set_cons_zero, List.set_cons_succ, wipe', Bool.not_true, Bool.not_false, alnum_eq, pIx_ref hr i0]
  cases c1 : decide (r0 < 3) with
  | true =>
    simp only [e_seq, e_if, ifK_true, ifK_false, e_nil, e_set, setK_var, e_expr, e_ret, e_retN, e_brk, e_cnt, e_for, forK_mk, e_while, e_cst, e_var, e_anil, e_cons, consK_ap, e_n, e_op1, e_op2, op2K_ap, e_and, andK_true, andK_false, e_or, orK_true, orK_false, e_not, noV_ap, e_ite, iteK_true, iteK_false, e_call, e_callK, e_sl, slK_ap, e_oNone, e_oSome, e_bm, bmK_join, bmK_upper, e_tTru, e_tBoo, e_tAn, anK_true, anK_false, e_tO, oK_true, oK_false, e_tNo, noK_ap, pBool_bl, pTru_bl, e_iVal, e_iRng, e_lc, bi_len, bi_int, pLen_kl, pLen_tup, pAdd_int, pSub_int, pNeg_int, pLt_int, pGt_int, pLe_int, pGe_int, pEq_int, pNe_int, pEq_str, pNe_str, pEq_bl, pNe_bl, pIn_char, pNotIn_char, pSl_tup, src_str', src_kl', src_tup', Rs.bind_ok, Rs.bind_bad, Rs.st_ok, RS.seq_next, RS.seq_ret, RS.seq_brk, RS.seq_cnt, RS.out_next, RS.out_ret, RS.out_exc, List.getElem?_cons_zero, List.getElem?_cons_succ, List.set_cons_zero, List.set_cons_succ, wipe', Bool.not_true, Bool.not_false, alnum_eq, pIx_ref hr i1, pSl_ref hr]
    obtain ⟨f, hf⟩ := Classical.axiomOfChoice (r := fun k ch => callF (fbOf tab) (n + 1) 5 [.int k] (h1 ++ [AO.lst (cut (row.map D.int) (some 7) (some (7 + r1)))]) = .ok (.str [ch]) (h1 ++ [AO.lst (cut (row.map D.int) (some 7) (some (7 + r1)))])) (fun k => sign_run n k _)
    rw [src_ref (get_new _)]
    simp only [Rs.bind_ok]
    rw [cut_map] at hf ⊢
    have hl : (cut row (some 7) (some (7 + r1))).length ≤ 19 := by rw [← hlr]; exact cut_len ..
    rw [comp_chars _ f (stands_ref (get_new _)) (fun d _ => by
      simp only [e_seq, e_if, ifK_true, ifK_false, e_nil, e_set, setK_var, e_expr, e_ret, e_retN, e_brk, e_cnt, e_for, forK_mk, e_while, e_cst, e_var, e_anil, e_cons, consK_ap, e_n, e_op1, e_op2, op2K_ap, e_and, andK_true, andK_false, e_or, orK_true, orK_false, e_not, noV_ap, e_ite, iteK_true, iteK_false, e_call, e_callK, e_sl, slK_ap, e_oNone, e_oSome, e_bm, bmK_join, bmK_upper, e_tTru, e_tBoo, e_tAn, anK_true, anK_false, e_tO, oK_true, oK_false, e_tNo, noK_ap, pBool_bl, pTru_bl, e_iVal, e_iRng, e_lc, bi_len, bi_int, pLen_kl, pLen_tup, pAdd_int, pSub_int, pNeg_int, pLt_int, pGt_int, pLe_int, pGe_int, pEq_int, pNe_int, pEq_str, pNe_str, pEq_bl, pNe_bl, pIn_char, pNotIn_char, pSl_tup, src_str', src_kl', src_tup', Rs.bind_ok, Rs.bind_bad, Rs.st_ok, RS.seq_next, RS.seq_ret, RS.seq_brk, RS.seq_cnt, RS.out_next, RS.out_ret, RS.out_exc, List.getElem?_cons_zero, List.getElem?_cons_succ, List.set_cons_zero, List.set_cons_succ, wipe', Bool.not_true, Bool.not_false, hf]) (by omega)]
    simp only [e_seq, e_if, ifK_true, ifK_false, e_nil, e_set, setK_var, e_expr, e_ret, e_retN, e_brk, e_cnt, e_for, forK_mk, e_while, e_cst, e_var, e_anil, e_cons, consK_ap, e_n, e_op1, e_op2, op2K_ap, e_and, andK_true, andK_false, e_or, orK_true, orK_false, e_not, noV_ap, e_ite, iteK_true, iteK_false, e_call, e_callK, e_sl, slK_ap, e_oNone, e_oSome, e_bm, bmK_join, bmK_upper, e_tTru, e_tBoo, e_tAn, anK_true, anK_false, e_tO, oK_true, oK_false, e_tNo, noK_ap, pBool_bl, pTru_bl, e_iVal, e_iRng, e_lc, bi_len, bi_int, pLen_kl, pLen_tup, pAdd_int, pSub_int, pNeg_int, pLt_int, pGt_int, pLe_int, pGe_int, pEq_int, pNe_int, pEq_str, pNe_str, pEq_bl, pNe_bl, pIn_char, pNotIn_char, pSl_tup, src_str', src_kl', src_tup', Rs.bind_ok, Rs.bind_bad, Rs.st_ok, RS.seq_next, RS.seq_ret, RS.seq_brk, RS.seq_cnt, RS.out_next, RS.out_ret, RS.out_exc, List.getElem?_cons_zero, List.getElem?_cons_succ, List.set_cons_zero, List.set_cons_succ, wipe', Bool.not_true, Bool.not_false]
    rw [join_chars (get_new _) (by rw [List.length_map]; omega)]
    simp only [e_seq, e_if, ifK_true, ifK_false, e_nil, e_set, setK_var, e_expr, e_ret, e_retN, e_brk, e_cnt, e_for, forK_mk, e_while, e_cst, e_var, e_anil, e_cons, consK_ap, e_n, e_op1, e_op2, op2K_ap, e_and, andK_true, andK_false, e_or, orK_true, orK_false, e_not, noV_ap, e_ite, iteK_true, iteK_false, e_call, e_callK, e_sl, slK_ap, e_oNone, e_oSome, e_bm, bmK_join, bmK_upper, e_tTru, e_tBoo, e_tAn, anK_true, anK_false, e_tO, oK_true, oK_false, e_tNo, noK_ap, pBool_bl, pTru_bl, e_iVal, e_iRng, e_lc, bi_len, bi_int, pLen_kl, pLen_tup, pAdd_int, pSub_int, pNeg_int, pLt_int, pGt_int, pLe_int, pGe_int, pEq_int, pNe_int, pEq_str, pNe_str, pEq_bl, pNe_bl, pIn_char, pNotIn_char, pSl_tup, src_str', src_kl', src_tup', Rs.bind_ok, Rs.bind_bad, Rs.st_ok, RS.seq_next, RS.seq_ret, RS.seq_brk, RS.seq_cnt, RS.out_next, RS.out_ret, RS.out_exc, List.getElem?_cons_zero, List.getElem?_cons_succ, List.set_cons_zero, List.set_cons_succ, wipe', Bool.not_true, Bool.not_false]
    exact fin_str (by rw [et1, List.append_assoc, List.append_assoc]) (by rw [List.length_map]; omega)
  | false =>
    obtain ⟨c5, m5, q5⟩ := ix_some (s := alnum) (j := r5) (h := h1) a5 (by rw [alnum_len]; omega) (by rw [alnum_len]; omega)
    have la : alnum.length ≤ PySem.sizeLine := by rw [alnum_len]; omega
    simp only [e_seq, ifK_true, ifK_false, e_nil, e_set, setK_var, e_expr, e_ret, e_retN, e_brk, e_cnt, e_for, forK_mk, e_while, e_cst, e_var, e_anil, e_cons, consK_ap, e_n, e_op1, e_op2, op2K_ap, e_and, andK_true, andK_false, e_or, orK_true, orK_false, e_not, noV_ap, e_ite, iteK_true, iteK_false, e_call, e_callK, e_sl, slK_ap, e_oNone, e_oSome, e_bm, bmK_join, bmK_upper, e_tTru, e_tBoo, e_tAn, anK_true, anK_false, e_tO, oK_true, oK_false, e_tNo, noK_ap, pBool_bl, pTru_bl, e_iVal, e_iRng, e_lc, bi_len, bi_int, pLen_kl, pLen_tup, pAdd_int, pSub_int, pNeg_int, pLt_int, pGt_int, pLe_int, pGe_int, pEq_int, pNe_int, pEq_str, pNe_str, pEq_bl, pNe_bl, pIn_char, pNotIn_char, pSl_tup, src_str', src_kl', src_tup', Rs.bind_ok, Rs.bind_bad, Rs.st_ok, RS.seq_next, RS.seq_ret, RS.seq_brk, RS.seq_cnt, RS.out_next, RS.out_ret, RS.out_exc, List.getElem?_cons_zero, List.getElem?_cons_succ, List.set_cons_zero, List.set_cons_succ, wipe', Bool.not_true, Bool.not_false, alnum_eq, pIx_ref hr i5, q5, pIx_ref hr i2, pSl_ref hr, src_ref (get_new _)]
    rw [cut_map]
    have hl : (cut row (some 7) (some (7 + r2))).length ≤ 19 := by rw [← hlr]; exact cut_len ..
    rw [comp_chars _ alAt (stands_ref (get_new _)) (fun d _ => by
      simp only [e_seq, e_if, ifK_true, ifK_false, e_nil, e_set, setK_var, e_expr, e_ret, e_retN, e_brk, e_cnt, e_for, forK_mk, e_while, e_cst, e_var, e_anil, e_cons, consK_ap, e_n, e_op1, e_op2, op2K_ap, e_and, andK_true, andK_false, e_or, orK_true, orK_false, e_not, noV_ap, e_ite, iteK_true, iteK_false, e_call, e_callK, e_sl, slK_ap, e_oNone, e_oSome, e_bm, bmK_join, bmK_upper, e_tTru, e_tBoo, e_tAn, anK_true, anK_false, e_tO, oK_true, oK_false, e_tNo, noK_ap, pBool_bl, pTru_bl, e_iVal, e_iRng, e_lc, bi_len, bi_int, pLen_kl, pLen_tup, pAdd_int, pSub_int, pNeg_int, pLt_int, pGt_int, pLe_int, pGe_int, pEq_int, pNe_int, pEq_str, pNe_str, pEq_bl, pNe_bl, pIn_char, pNotIn_char, pSl_tup, src_str', src_kl', src_tup', Rs.bind_ok, Rs.bind_bad, Rs.st_ok, RS.seq_next, RS.seq_ret, RS.seq_brk, RS.seq_cnt, RS.out_next, RS.out_ret, RS.out_exc, List.getElem?_cons_zero, List.getElem?_cons_succ, List.set_cons_zero, List.set_cons_succ, wipe', Bool.not_true, Bool.not_false]
      rw [pMod_int (by omega)]
      simp only [e_seq, e_if, ifK_true, ifK_false, e_nil, e_set, setK_var, e_expr, e_ret, e_retN, e_brk, e_cnt, e_for, forK_mk, e_while, e_cst, e_var, e_anil, e_cons, consK_ap, e_n, e_op1, e_op2, op2K_ap, e_and, andK_true, andK_false, e_or, orK_true, orK_false, e_not, noV_ap, e_ite, iteK_true, iteK_false, e_call, e_callK, e_sl, slK_ap, e_oNone, e_oSome, e_bm, bmK_join, bmK_upper, e_tTru, e_tBoo, e_tAn, anK_true, anK_false, e_tO, oK_true, oK_false, e_tNo, noK_ap, pBool_bl, pTru_bl, e_iVal, e_iRng, e_lc, bi_len, bi_int, pLen_kl, pLen_tup, pAdd_int, pSub_int, pNeg_int, pLt_int, pGt_int, pLe_int, pGe_int, pEq_int, pNe_int, pEq_str, pNe_str, pEq_bl, pNe_bl, pIn_char, pNotIn_char, pSl_tup, src_str', src_kl', src_tup', Rs.bind_ok, Rs.bind_bad, Rs.st_ok, RS.seq_next, RS.seq_ret, RS.seq_brk, RS.seq_cnt, RS.out_next, RS.out_ret, RS.out_exc, List.getElem?_cons_zero, List.getElem?_cons_succ, List.set_cons_zero, List.set_cons_succ, wipe', Bool.not_true, Bool.not_false]
      rw [pIx_str (alAt_ok d).1 la]) (by omega)]
    simp only [e_seq, ifK_true, ifK_false, e_nil, e_set, setK_var, e_expr, e_ret, e_retN, e_brk, e_cnt, e_for, forK_mk, e_while, e_cst, e_var, e_anil, e_cons, consK_ap, e_n, e_op1, e_op2, op2K_ap, e_and, andK_true, andK_false, e_or, orK_true, orK_false, e_not, noV_ap, e_ite, iteK_true, iteK_false, e_call, e_callK, e_sl, slK_ap, e_oNone, e_oSome, e_bm, bmK_join, bmK_upper, e_tTru, e_tBoo, e_tAn, anK_true, anK_false, e_tO, oK_true, oK_false, e_tNo, noK_ap, pBool_bl, pTru_bl, e_iVal, e_iRng, e_lc, bi_len, bi_int, pLen_kl, pLen_tup, pAdd_int, pSub_int, pNeg_int, pLt_int, pGt_int, pLe_int, pGe_int, pEq_int, pNe_int, pEq_str, pNe_str, pEq_bl, pNe_bl, pIn_char, pNotIn_char, pSl_tup, src_str', src_kl', src_tup', Rs.bind_ok, Rs.bind_bad, Rs.st_ok, RS.seq_next, RS.seq_ret, RS.seq_brk, RS.seq_cnt, RS.out_next, RS.out_ret, RS.out_exc, List.getElem?_cons_zero, List.getElem?_cons_succ, List.set_cons_zero, List.set_cons_succ, wipe', Bool.not_true, Bool.not_false]
    rw [join_chars (get_new _) (by rw [List.length_map]; omega)]
    simp only [e_seq, ifK_true, ifK_false, e_nil, e_set, setK_var, e_expr, e_ret, e_retN, e_brk, e_cnt, e_for, forK_mk, e_while, e_cst, e_var, e_anil, e_cons, consK_ap, e_n, e_op1, e_op2, op2K_ap, e_and, andK_true, andK_false, e_or, orK_true, orK_false, e_not, noV_ap, e_ite, iteK_true, iteK_false, e_call, e_callK, e_sl, slK_ap, e_oNone, e_oSome, e_bm, bmK_join, bmK_upper, e_tTru, e_tBoo, e_tAn, anK_true, anK_false, e_tO, oK_true, oK_false, e_tNo, noK_ap, pBool_bl, pTru_bl, e_iVal, e_iRng, e_lc, bi_len, bi_int, pLen_kl, pLen_tup, pAdd_int, pSub_int, pNeg_int, pLt_int, pGt_int, pLe_int, pGe_int, pEq_int, pNe_int, pEq_str, pNe_str, pEq_bl, pNe_bl, pIn_char, pNotIn_char, pSl_tup, src_str', src_kl', src_tup', Rs.bind_ok, Rs.bind_bad, Rs.st_ok, RS.seq_next, RS.seq_ret, RS.seq_brk, RS.seq_cnt, RS.out_next, RS.out_ret, RS.out_exc, List.getElem?_cons_zero, List.getElem?_cons_succ, List.set_cons_zero, List.set_cons_succ, wipe', Bool.not_true, Bool.not_false]
    rw [pAdd_str (by rw [List.length_map, List.length_singleton]; omega)]
    simp only [e_seq, ifK_true, ifK_false, e_nil, e_set, setK_var, e_expr, e_ret, e_retN, e_brk, e_cnt, e_for, forK_mk, e_while, e_cst, e_var, e_anil, e_cons, consK_ap, e_n, e_op1, e_op2, op2K_ap, e_and, andK_true, andK_false, e_or, orK_true, orK_false, e_not, noV_ap, e_ite, iteK_true, iteK_false, e_call, e_callK, e_sl, slK_ap, e_oNone, e_oSome, e_bm, bmK_join, bmK_upper, e_tTru, e_tBoo, e_tAn, anK_true, anK_false, e_tO, oK_true, oK_false, e_tNo, noK_ap, pBool_bl, pTru_bl, e_iVal, e_iRng, e_lc, bi_len, bi_int, pLen_kl, pLen_tup, pAdd_int, pSub_int, pNeg_int, pLt_int, pGt_int, pLe_int, pGe_int, pEq_int, pNe_int, pEq_str, pNe_str, pEq_bl, pNe_bl, pIn_char, pNotIn_char, pSl_tup, src_str', src_kl', src_tup', Rs.bind_ok, Rs.bind_bad, Rs.st_ok, RS.seq_next, RS.seq_ret, RS.seq_brk, RS.seq_cnt, RS.out_next, RS.out_ret, RS.out_exc, List.getElem?_cons_zero, List.getElem?_cons_succ, List.set_cons_zero, List.set_cons_succ, wipe', Bool.not_true, Bool.not_false]
    obtain ⟨g, eg⟩ : ∃ g, g = [c5] ++ (cut row (some 7) (some (7 + r2))).map alAt := ⟨_, rfl⟩
    have g0 : 0 < g.length := by rw [eg]; simp
    have g1 : g.length ≤ 20 := by rw [eg]; simp; omega
    have ga : ascii g := by
      rw [eg]
      refine ascii_app (fun c hc => ascii_alnum c ?_) (fun c hc => ?_)
      · rw [List.mem_singleton] at hc; rw [hc]; exact m5
      · obtain ⟨d, _, rfl⟩ := List.mem_map.mp hc
        exact (alAt_ok d).2
    rw [← eg]
    clear eg
    obtain ⟨h2, eh2⟩ : ∃ h2, h2 = h1 ++ [AO.lst ((cut row (some 7) (some (7 + r2))).map D.int)] ++ [AO.lst ((((cut row (some 7) (some (7 + r2))).map alAt).map fun c => [c]).map D.str)] := ⟨_, rfl⟩
    have hr2 : h2[R]? = some (.lst (row.map D.int)) := by rw [eh2]; exact get_app _ (get_app _ hr)
    obtain ⟨t2, et2⟩ : ∃ t2, h2 = h ++ t2 := ⟨_, by rw [eh2, et1, List.append_assoc, List.append_assoc]⟩
    rw [← eh2]
    clear eh2
    obtain ⟨g', g0', g1', ga', e3⟩ : ∃ g' : List Char, 0 < g'.length ∧ g'.length ≤ 20 ∧ ascii g' ∧ kIf (tBoo (sOp2 pEq (sOp2 pMod (sOp2 pIx (sVar 1) (sCst (.int 0))) (sCst (.int 2))) (sCst (.int 0))))
      (kSeq (kSet (gVar 3) (sOp2 pAdd (sBm .upper (sOp2 pIx (sVar 3) (sCst (.int 0))) (sNil)) (sSl (sVar 3) (oSome (sCst (.int 1))) oNone))) (kNil)) (kNil) (callF (fbOf tab) (n + 1)) [some (.int z), some (.ref R), some (.str alnum), some (.str g), none, none, none, none] h2
        = .next [some (.int z), some (.ref R), some (.str alnum), some (.str g'), none, none, none, none] h2 := by
      simp only [e_seq, e_if, ifK_true, ifK_false, e_nil, e_set, setK_var, e_expr, e_ret, e_retN, e_brk, e_cnt, e_for, forK_mk, e_while, e_cst, e_var, e_anil, e_cons, consK_ap, e_n, e_op1, e_op2, op2K_ap, e_and, andK_true, andK_false, e_or, orK_true, orK_false, e_not, noV_ap, e_ite, iteK_true, iteK_false, e_call, e_callK, e_sl, slK_ap, e_oNone, e_oSome, e_bm, bmK_join, bmK_upper, e_tTru, e_tBoo, e_tAn, anK_true, anK_false, e_tO, oK_true, oK_false, e_tNo, noK_ap, pBool_bl, pTru_bl, e_iVal, e_iRng, e_lc, bi_len, bi_int, pLen_kl, pLen_tup, pAdd_int, pSub_int, pNeg_int, pLt_int, pGt_int, pLe_int, pGe_int, pEq_int, pNe_int, pEq_str, pNe_str, pEq_bl, pNe_bl, pIn_char, pNotIn_char, pSl_tup, src_str', src_kl', src_tup', Rs.bind_ok, Rs.bind_bad, Rs.st_ok, RS.seq_next, RS.seq_ret, RS.seq_brk, RS.seq_cnt, RS.out_next, RS.out_ret, RS.out_exc, List.getElem?_cons_zero, List.getElem?_cons_succ, List.set_cons_zero, List.set_cons_succ, wipe', Bool.not_true, Bool.not_false, pIx_ref hr2 i0]
      rw [pMod_int (by omega)]
      simp only [e_seq, e_if, ifK_true, ifK_false, e_nil, e_set, setK_var, e_expr, e_ret, e_retN, e_brk, e_cnt, e_for, forK_mk, e_while, e_cst, e_var, e_anil, e_cons, consK_ap, e_n, e_op1, e_op2, op2K_ap, e_and, andK_true, andK_false, e_or, orK_true, orK_false, e_not, noV_ap, e_ite, iteK_true, iteK_false, e_call, e_callK, e_sl, slK_ap, e_oNone, e_oSome, e_bm, bmK_join, bmK_upper, e_tTru, e_tBoo, e_tAn, anK_true, anK_false, e_tO, oK_true, oK_false, e_tNo, noK_ap, pBool_bl, pTru_bl, e_iVal, e_iRng, e_lc, bi_len, bi_int, pLen_kl, pLen_tup, pAdd_int, pSub_int, pNeg_int, pLt_int, pGt_int, pLe_int, pGe_int, pEq_int, pNe_int, pEq_str, pNe_str, pEq_bl, pNe_bl, pIn_char, pNotIn_char, pSl_tup, src_str', src_kl', src_tup', Rs.bind_ok, Rs.bind_bad, Rs.st_ok, RS.seq_next, RS.seq_ret, RS.seq_brk, RS.seq_cnt, RS.out_next, RS.out_ret, RS.out_exc, List.getElem?_cons_zero, List.getElem?_cons_succ, List.set_cons_zero, List.set_cons_succ, wipe', Bool.not_true, Bool.not_false]
      cases c2 : decide (r0 % 2 = 0) with
      | false => exact ⟨g, g0, g1, ga, by simp only [e_seq, e_if, ifK_true, ifK_false, e_nil, e_set, setK_var, e_expr, e_ret, e_retN, e_brk, e_cnt, e_for, forK_mk, e_while, e_cst, e_var, e_anil, e_cons, consK_ap, e_n, e_op1, e_op2, op2K_ap, e_and, andK_true, andK_false, e_or, orK_true, orK_false, e_not, noV_ap, e_ite, iteK_true, iteK_false, e_call, e_callK, e_sl, slK_ap, e_oNone, e_oSome, e_bm, bmK_join, bmK_upper, e_tTru, e_tBoo, e_tAn, anK_true, anK_false, e_tO, oK_true, oK_false, e_tNo, noK_ap, pBool_bl, pTru_bl, e_iVal, e_iRng, e_lc, bi_len, bi_int, pLen_kl, pLen_tup, pAdd_int, pSub_int, pNeg_int, pLt_int, pGt_int, pLe_int, pGe_int, pEq_int, pNe_int, pEq_str, pNe_str, pEq_bl, pNe_bl, pIn_char, pNotIn_char, pSl_tup, src_str', src_kl', src_tup', Rs.bind_ok, Rs.bind_bad, Rs.st_ok, RS.seq_next, RS.seq_ret, RS.seq_brk, RS.seq_cnt, RS.out_next, RS.out_ret, RS.out_exc, List.getElem?_cons_zero, List.getElem?_cons_succ, List.set_cons_zero, List.set_cons_succ, wipe', Bool.not_true, Bool.not_false]⟩
      | true =>
        cases g with
        | nil => simp at g0
        | cons ch r =>
          simp only [e_seq, e_if, ifK_true, ifK_false, e_nil, e_set, setK_var, e_expr, e_ret, e_retN, e_brk, e_cnt, e_for, forK_mk, e_while, e_cst, e_var, e_anil, e_cons, consK_ap, e_n, e_op1, e_op2, op2K_ap, e_and, andK_true, andK_false, e_or, orK_true, orK_false, e_not, noV_ap, e_ite, iteK_true, iteK_false, e_call, e_callK, e_sl, slK_ap, e_oNone, e_oSome, e_bm, bmK_join, bmK_upper, e_tTru, e_tBoo, e_tAn, anK_true, anK_false, e_tO, oK_true, oK_false, e_tNo, noK_ap, pBool_bl, pTru_bl, e_iVal, e_iRng, e_lc, bi_len, bi_int, pLen_kl, pLen_tup, pAdd_int, pSub_int, pNeg_int, pLt_int, pGt_int, pLe_int, pGe_int, pEq_int, pNe_int, pEq_str, pNe_str, pEq_bl, pNe_bl, pIn_char, pNotIn_char, pSl_tup, src_str', src_kl', src_tup', Rs.bind_ok, Rs.bind_bad, Rs.st_ok, RS.seq_next, RS.seq_ret, RS.seq_brk, RS.seq_cnt, RS.out_next, RS.out_ret, RS.out_exc, List.getElem?_cons_zero, List.getElem?_cons_succ, List.set_cons_zero, List.set_cons_succ, wipe', Bool.not_true, Bool.not_false]
          rw [pIx_str (atI_head _ _) (by omega)]
          simp only [e_seq, e_if, ifK_true, ifK_false, e_nil, e_set, setK_var, e_expr, e_ret, e_retN, e_brk, e_cnt, e_for, forK_mk, e_while, e_cst, e_var, e_anil, e_cons, consK_ap, e_n, e_op1, e_op2, op2K_ap, e_and, andK_true, andK_false, e_or, orK_true, orK_false, e_not, noV_ap, e_ite, iteK_true, iteK_false, e_call, e_callK, e_sl, slK_ap, e_oNone, e_oSome, e_bm, bmK_join, bmK_upper, e_tTru, e_tBoo, e_tAn, anK_true, anK_false, e_tO, oK_true, oK_false, e_tNo, noK_ap, pBool_bl, pTru_bl, e_iVal, e_iRng, e_lc, bi_len, bi_int, pLen_kl, pLen_tup, pAdd_int, pSub_int, pNeg_int, pLt_int, pGt_int, pLe_int, pGe_int, pEq_int, pNe_int, pEq_str, pNe_str, pEq_bl, pNe_bl, pIn_char, pNotIn_char, pSl_tup, src_str', src_kl', src_tup', Rs.bind_ok, Rs.bind_bad, Rs.st_ok, RS.seq_next, RS.seq_ret, RS.seq_brk, RS.seq_cnt, RS.out_next, RS.out_ret, RS.out_exc, List.getElem?_cons_zero, List.getElem?_cons_succ, List.set_cons_zero, List.set_cons_succ, wipe', Bool.not_true, Bool.not_false]
          rw [upper_head ga]
          simp only [e_seq, e_if, ifK_true, ifK_false, e_nil, e_set, setK_var, e_expr, e_ret, e_retN, e_brk, e_cnt, e_for, forK_mk, e_while, e_cst, e_var, e_anil, e_cons, consK_ap, e_n, e_op1, e_op2, op2K_ap, e_and, andK_true, andK_false, e_or, orK_true, orK_false, e_not, noV_ap, e_ite, iteK_true, iteK_false, e_call, e_callK, e_sl, slK_ap, e_oNone, e_oSome, e_bm, bmK_join, bmK_upper, e_tTru, e_tBoo, e_tAn, anK_true, anK_false, e_tO, oK_true, oK_false, e_tNo, noK_ap, pBool_bl, pTru_bl, e_iVal, e_iRng, e_lc, bi_len, bi_int, pLen_kl, pLen_tup, pAdd_int, pSub_int, pNeg_int, pLt_int, pGt_int, pLe_int, pGe_int, pEq_int, pNe_int, pEq_str, pNe_str, pEq_bl, pNe_bl, pIn_char, pNotIn_char, pSl_tup, src_str', src_kl', src_tup', Rs.bind_ok, Rs.bind_bad, Rs.st_ok, RS.seq_next, RS.seq_ret, RS.seq_brk, RS.seq_cnt, RS.out_next, RS.out_ret, RS.out_exc, List.getElem?_cons_zero, List.getElem?_cons_succ, List.set_cons_zero, List.set_cons_succ, wipe', Bool.not_true, Bool.not_false]
          rw [pSl_str (by omega), cut_tail]
          simp only [e_seq, e_if, ifK_true, ifK_false, e_nil, e_set, setK_var, e_expr, e_ret, e_retN, e_brk, e_cnt, e_for, forK_mk, e_while, e_cst, e_var, e_anil, e_cons, consK_ap, e_n, e_op1, e_op2, op2K_ap, e_and, andK_true, andK_false, e_or, orK_true, orK_false, e_not, noV_ap, e_ite, iteK_true, iteK_false, e_call, e_callK, e_sl, slK_ap, e_oNone, e_oSome, e_bm, bmK_join, bmK_upper, e_tTru, e_tBoo, e_tAn, anK_true, anK_false, e_tO, oK_true, oK_false, e_tNo, noK_ap, pBool_bl, pTru_bl, e_iVal, e_iRng, e_lc, bi_len, bi_int, pLen_kl, pLen_tup, pAdd_int, pSub_int, pNeg_int, pLt_int, pGt_int, pLe_int, pGe_int, pEq_int, pNe_int, pEq_str, pNe_str, pEq_bl, pNe_bl, pIn_char, pNotIn_char, pSl_tup, src_str', src_kl', src_tup', Rs.bind_ok, Rs.bind_bad, Rs.st_ok, RS.seq_next, RS.seq_ret, RS.seq_brk, RS.seq_cnt, RS.out_next, RS.out_ret, RS.out_exc, List.getElem?_cons_zero, List.getElem?_cons_succ, List.set_cons_zero, List.set_cons_succ, wipe', Bool.not_true, Bool.not_false, List.drop_succ_cons, List.drop_zero]
          rw [pAdd_str (by simp at g1 ⊢; omega)]
          exact ⟨upC ch :: r, by simp, by simpa using g1, fun c hc => by
            rcases List.mem_cons.mp hc with rfl | hc
            · exact upC_ascii (ga ch (by simp))
            · exact ga c (by simp [hc]), by simp only [e_seq, e_if, ifK_true, ifK_false, e_nil, e_set, setK_var, e_expr, e_ret, e_retN, e_brk, e_cnt, e_for, forK_mk, e_while, e_cst, e_var, e_anil, e_cons, consK_ap, e_n, e_op1, e_op2, op2K_ap, e_and, andK_true, andK_false, e_or, orK_true, orK_false, e_not, noV_ap, e_ite, iteK_true, iteK_false, e_call, e_callK, e_sl, slK_ap, e_oNone, e_oSome, e_bm, bmK_join, bmK_upper, e_tTru, e_tBoo, e_tAn, anK_true, anK_false, e_tO, oK_true, oK_false, e_tNo, noK_ap, pBool_bl, pTru_bl, e_iVal, e_iRng, e_lc, bi_len, bi_int, pLen_kl, pLen_tup, pAdd_int, pSub_int, pNeg_int, pLt_int, pGt_int, pLe_int, pGe_int, pEq_int, pNe_int, pEq_str, pNe_str, pEq_bl, pNe_bl, pIn_char, pNotIn_char, pSl_tup, src_str', src_kl', src_tup', Rs.bind_ok, Rs.bind_bad, Rs.st_ok, RS.seq_next, RS.seq_ret, RS.seq_brk, RS.seq_cnt, RS.out_next, RS.out_ret, RS.out_exc, List.getElem?_cons_zero, List.getElem?_cons_succ, List.set_cons_zero, List.set_cons_succ, wipe', Bool.not_true, Bool.not_false]; rfl⟩
    rw [e3]
    clear e3 g0 g1 ga
    simp only [e_seq, e_if, ifK_true, ifK_false, e_nil, e_set, setK_var, e_expr, e_ret, e_retN, e_brk, e_cnt, e_for, forK_mk, e_while, e_cst, e_var, e_anil, e_cons, consK_ap, e_n, e_op1, e_op2, op2K_ap, e_and, andK_true, andK_false, e_or, orK_true, orK_false, e_not, noV_ap, e_ite, iteK_true, iteK_false, e_call, e_callK, e_sl, slK_ap, e_oNone, e_oSome, e_bm, bmK_join, bmK_upper, e_tTru, e_tBoo, e_tAn, anK_true, anK_false, e_tO, oK_true, oK_false, e_tNo, noK_ap, pBool_bl, pTru_bl, e_iVal, e_iRng, e_lc, bi_len, bi_int, pLen_kl, pLen_tup, pAdd_int, pSub_int, pNeg_int, pLt_int, pGt_int, pLe_int, pGe_int, pEq_int, pNe_int, pEq_str, pNe_str, pEq_bl, pNe_bl, pIn_char, pNotIn_char, pSl_tup, src_str', src_kl', src_tup', Rs.bind_ok, Rs.bind_bad, Rs.st_ok, RS.seq_next, RS.seq_ret, RS.seq_brk, RS.seq_cnt, RS.out_next, RS.out_ret, RS.out_exc, List.getElem?_cons_zero, List.getElem?_cons_succ, List.set_cons_zero, List.set_cons_succ, wipe', Bool.not_true, Bool.not_false, pIx_ref hr2 i0]
    cases c3 : decide (r0 < 6) with
    | true =>
      simp only [e_seq, e_if, ifK_true, ifK_false, e_nil, e_set, setK_var, e_expr, e_ret, e_retN, e_brk, e_cnt, e_for, forK_mk, e_while, e_cst, e_var, e_anil, e_cons, consK_ap, e_n, e_op1, e_op2, op2K_ap, e_and, andK_true, andK_false, e_or, orK_true, orK_false, e_not, noV_ap, e_ite, iteK_true, iteK_false, e_call, e_callK, e_sl, slK_ap, e_oNone, e_oSome, e_bm, bmK_join, bmK_upper, e_tTru, e_tBoo, e_tAn, anK_true, anK_false, e_tO, oK_true, oK_false, e_tNo, noK_ap, pBool_bl, pTru_bl, e_iVal, e_iRng, e_lc, bi_len, bi_int, pLen_kl, pLen_tup, pAdd_int, pSub_int, pNeg_int, pLt_int, pGt_int, pLe_int, pGe_int, pEq_int, pNe_int, pEq_str, pNe_str, pEq_bl, pNe_bl, pIn_char, pNotIn_char, pSl_tup, src_str', src_kl', src_tup', Rs.bind_ok, Rs.bind_bad, Rs.st_ok, RS.seq_next, RS.seq_ret, RS.seq_brk, RS.seq_cnt, RS.out_next, RS.out_ret, RS.out_exc, List.getElem?_cons_zero, List.getElem?_cons_succ, List.set_cons_zero, List.set_cons_succ, wipe', Bool.not_true, Bool.not_false]
      exact fin_str et2 (by omega)
    | false =>
      simp only [e_seq, e_if, ifK_true, ifK_false, e_nil, e_set, setK_var, e_expr, e_ret, e_retN, e_brk, e_cnt, e_for, forK_mk, e_while, e_cst, e_var, e_anil, e_cons, consK_ap, e_n, e_op1, e_op2, op2K_ap, e_and, andK_true, andK_false, e_or, orK_true, orK_false, e_not, noV_ap, e_ite, iteK_true, iteK_false, e_call, e_callK, e_sl, slK_ap, e_oNone, e_oSome, e_bm, bmK_join, bmK_upper, e_tTru, e_tBoo, e_tAn, anK_true, anK_false, e_tO, oK_true, oK_false, e_tNo, noK_ap, pBool_bl, pTru_bl, e_iVal, e_iRng, e_lc, bi_len, bi_int, pLen_kl, pLen_tup, pAdd_int, pSub_int, pNeg_int, pLt_int, pGt_int, pLe_int, pGe_int, pEq_int, pNe_int, pEq_str, pNe_str, pEq_bl, pNe_bl, pIn_char, pNotIn_char, pSl_tup, src_str', src_kl', src_tup', Rs.bind_ok, Rs.bind_bad, Rs.st_ok, RS.seq_next, RS.seq_ret, RS.seq_brk, RS.seq_cnt, RS.out_next, RS.out_ret, RS.out_exc, List.getElem?_cons_zero, List.getElem?_cons_succ, List.set_cons_zero, List.set_cons_succ, wipe', Bool.not_true, Bool.not_false, pIx_ref hr2 i3, pLen_str (show g'.length ≤ PySem.sizeLine by omega)]
      rw [pMod_int (by omega)]
      obtain ⟨j, ej⟩ : ∃ j, j = r3 % ((g'.length : Int) + 1) := ⟨_, rfl⟩
      rw [← ej]
      have hcut : ∀ lo hi, (cut g' lo hi).length ≤ 20 := fun lo hi => Nat.le_trans (cut_len ..) g1'
      simp only [e_seq, e_if, ifK_true, ifK_false, e_nil, e_set, setK_var, e_expr, e_ret, e_retN, e_brk, e_cnt, e_for, forK_mk, e_while, e_cst, e_var, e_anil, e_cons, consK_ap, e_n, e_op1, e_op2, op2K_ap, e_and, andK_true, andK_false, e_or, orK_true, orK_false, e_not, noV_ap, e_ite, iteK_true, iteK_false, e_call, e_callK, e_sl, slK_ap, e_oNone, e_oSome, e_bm, bmK_join, bmK_upper, e_tTru, e_tBoo, e_tAn, anK_true, anK_false, e_tO, oK_true, oK_false, e_tNo, noK_ap, pBool_bl, pTru_bl, e_iVal, e_iRng, e_lc, bi_len, bi_int, pLen_kl, pLen_tup, pAdd_int, pSub_int, pNeg_int, pLt_int, pGt_int, pLe_int, pGe_int, pEq_int, pNe_int, pEq_str, pNe_str, pEq_bl, pNe_bl, pIn_char, pNotIn_char, pSl_tup, src_str', src_kl', src_tup', Rs.bind_ok, Rs.bind_bad, Rs.st_ok, RS.seq_next, RS.seq_ret, RS.seq_brk, RS.seq_cnt, RS.out_next, RS.out_ret, RS.out_exc, List.getElem?_cons_zero, List.getElem?_cons_succ, List.set_cons_zero, List.set_cons_succ, wipe', Bool.not_true, Bool.not_false, pIx_ref hr2 i0]
      cases c4 : decide (r0 < 10) with
      | true =>
        obtain ⟨ch, q⟩ := sign_run n r4 h2
        simp only [e_seq, e_if, ifK_true, ifK_false, e_nil, e_set, setK_var, e_expr, e_ret, e_retN, e_brk, e_cnt, e_for, forK_mk, e_while, e_cst, e_var, e_anil, e_cons, consK_ap, e_n, e_op1, e_op2, op2K_ap, e_and, andK_true, andK_false, e_or, orK_true, orK_false, e_not, noV_ap, e_ite, iteK_true, iteK_false, e_call, e_callK, e_sl, slK_ap, e_oNone, e_oSome, e_bm, bmK_join, bmK_upper, e_tTru, e_tBoo, e_tAn, anK_true, anK_false, e_tO, oK_true, oK_false, e_tNo, noK_ap, pBool_bl, pTru_bl, e_iVal, e_iRng, e_lc, bi_len, bi_int, pLen_kl, pLen_tup, pAdd_int, pSub_int, pNeg_int, pLt_int, pGt_int, pLe_int, pGe_int, pEq_int, pNe_int, pEq_str, pNe_str, pEq_bl, pNe_bl, pIn_char, pNotIn_char, pSl_tup, src_str', src_kl', src_tup', Rs.bind_ok, Rs.bind_bad, Rs.st_ok, RS.seq_next, RS.seq_ret, RS.seq_brk, RS.seq_cnt, RS.out_next, RS.out_ret, RS.out_exc, List.getElem?_cons_zero, List.getElem?_cons_succ, List.set_cons_zero, List.set_cons_succ, wipe', Bool.not_true, Bool.not_false, pIx_ref hr2 i4, q, pSl_str (show g'.length ≤ PySem.sizeLine by omega)]
        have := hcut none (some j)
        have := hcut (some (j + 1)) none
        rw [pAdd_str (by simp; omega)]
        simp only [e_seq, e_if, ifK_true, ifK_false, e_nil, e_set, setK_var, e_expr, e_ret, e_retN, e_brk, e_cnt, e_for, forK_mk, e_while, e_cst, e_var, e_anil, e_cons, consK_ap, e_n, e_op1, e_op2, op2K_ap, e_and, andK_true, andK_false, e_or, orK_true, orK_false, e_not, noV_ap, e_ite, iteK_true, iteK_false, e_call, e_callK, e_sl, slK_ap, e_oNone, e_oSome, e_bm, bmK_join, bmK_upper, e_tTru, e_tBoo, e_tAn, anK_true, anK_false, e_tO, oK_true, oK_false, e_tNo, noK_ap, pBool_bl, pTru_bl, e_iVal, e_iRng, e_lc, bi_len, bi_int, pLen_kl, pLen_tup, pAdd_int, pSub_int, pNeg_int, pLt_int, pGt_int, pLe_int, pGe_int, pEq_int, pNe_int, pEq_str, pNe_str, pEq_bl, pNe_bl, pIn_char, pNotIn_char, pSl_tup, src_str', src_kl', src_tup', Rs.bind_ok, Rs.bind_bad, Rs.st_ok, RS.seq_next, RS.seq_ret, RS.seq_brk, RS.seq_cnt, RS.out_next, RS.out_ret, RS.out_exc, List.getElem?_cons_zero, List.getElem?_cons_succ, List.set_cons_zero, List.set_cons_succ, wipe', Bool.not_true, Bool.not_false, pSl_str (show g'.length ≤ PySem.sizeLine by omega)]
        rw [pAdd_str (by simp; omega)]
        simp only [e_seq, e_if, ifK_true, ifK_false, e_nil, e_set, setK_var, e_expr, e_ret, e_retN, e_brk, e_cnt, e_for, forK_mk, e_while, e_cst, e_var, e_anil, e_cons, consK_ap, e_n, e_op1, e_op2, op2K_ap, e_and, andK_true, andK_false, e_or, orK_true, orK_false, e_not, noV_ap, e_ite, iteK_true, iteK_false, e_call, e_callK, e_sl, slK_ap, e_oNone, e_oSome, e_bm, bmK_join, bmK_upper, e_tTru, e_tBoo, e_tAn, anK_true, anK_false, e_tO, oK_true, oK_false, e_tNo, noK_ap, pBool_bl, pTru_bl, e_iVal, e_iRng, e_lc, bi_len, bi_int, pLen_kl, pLen_tup, pAdd_int, pSub_int, pNeg_int, pLt_int, pGt_int, pLe_int, pGe_int, pEq_int, pNe_int, pEq_str, pNe_str, pEq_bl, pNe_bl, pIn_char, pNotIn_char, pSl_tup, src_str', src_kl', src_tup', Rs.bind_ok, Rs.bind_bad, Rs.st_ok, RS.seq_next, RS.seq_ret, RS.seq_brk, RS.seq_cnt, RS.out_next, RS.out_ret, RS.out_exc, List.getElem?_cons_zero, List.getElem?_cons_succ, List.set_cons_zero, List.set_cons_succ, wipe', Bool.not_true, Bool.not_false]
        exact fin_str et2 (by simp; omega)
      | false =>
      simp only [e_seq, e_if, ifK_true, ifK_false, e_nil, e_set, setK_var, e_expr, e_ret, e_retN, e_brk, e_cnt, e_for, forK_mk, e_while, e_cst, e_var, e_anil, e_cons, consK_ap, e_n, e_op1, e_op2, op2K_ap, e_and, andK_true, andK_false, e_or, orK_true, orK_false, e_not, noV_ap, e_ite, iteK_true, iteK_false, e_call, e_callK, e_sl, slK_ap, e_oNone, e_oSome, e_bm, bmK_join, bmK_upper, e_tTru, e_tBoo, e_tAn, anK_true, anK_false, e_tO, oK_true, oK_false, e_tNo, noK_ap, pBool_bl, pTru_bl, e_iVal, e_iRng, e_lc, bi_len, bi_int, pLen_kl, pLen_tup, pAdd_int, pSub_int, pNeg_int, pLt_int, pGt_int, pLe_int, pGe_int, pEq_int, pNe_int, pEq_str, pNe_str, pEq_bl, pNe_bl, pIn_char, pNotIn_char, pSl_tup, src_str', src_kl', src_tup', Rs.bind_ok, Rs.bind_bad, Rs.st_ok, RS.seq_next, RS.seq_ret, RS.seq_brk, RS.seq_cnt, RS.out_next, RS.out_ret, RS.out_exc, List.getElem?_cons_zero, List.getElem?_cons_succ, List.set_cons_zero, List.set_cons_succ, wipe', Bool.not_true, Bool.not_false, pIx_ref hr2 i0]
      cases c4 : decide (r0 < 12) with
      | true =>
        obtain ⟨ch, q⟩ := sign_run n r4 h2
        simp only [e_seq, e_if, ifK_true, ifK_false, e_nil, e_set, setK_var, e_expr, e_ret, e_retN, e_brk, e_cnt, e_for, forK_mk, e_while, e_cst, e_var, e_anil, e_cons, consK_ap, e_n, e_op1, e_op2, op2K_ap, e_and, andK_true, andK_false, e_or, orK_true, orK_false, e_not, noV_ap, e_ite, iteK_true, iteK_false, e_call, e_callK, e_sl, slK_ap, e_oNone, e_oSome, e_bm, bmK_join, bmK_upper, e_tTru, e_tBoo, e_tAn, anK_true, anK_false, e_tO, oK_true, oK_false, e_tNo, noK_ap, pBool_bl, pTru_bl, e_iVal, e_iRng, e_lc, bi_len, bi_int, pLen_kl, pLen_tup, pAdd_int, pSub_int, pNeg_int, pLt_int, pGt_int, pLe_int, pGe_int, pEq_int, pNe_int, pEq_str, pNe_str, pEq_bl, pNe_bl, pIn_char, pNotIn_char, pSl_tup, src_str', src_kl', src_tup', Rs.bind_ok, Rs.bind_bad, Rs.st_ok, RS.seq_next, RS.seq_ret, RS.seq_brk, RS.seq_cnt, RS.out_next, RS.out_ret, RS.out_exc, List.getElem?_cons_zero, List.getElem?_cons_succ, List.set_cons_zero, List.set_cons_succ, wipe', Bool.not_true, Bool.not_false, pIx_ref hr2 i4, q, pSl_str (show g'.length ≤ PySem.sizeLine by omega)]
        have := hcut none (some j)
        have := hcut (some j) none
        rw [pAdd_str (by simp; omega)]
        simp only [e_seq, e_if, ifK_true, ifK_false, e_nil, e_set, setK_var, e_expr, e_ret, e_retN, e_brk, e_cnt, e_for, forK_mk, e_while, e_cst, e_var, e_anil, e_cons, consK_ap, e_n, e_op1, e_op2, op2K_ap, e_and, andK_true, andK_false, e_or, orK_true, orK_false, e_not, noV_ap, e_ite, iteK_true, iteK_false, e_call, e_callK, e_sl, slK_ap, e_oNone, e_oSome, e_bm, bmK_join, bmK_upper, e_tTru, e_tBoo, e_tAn, anK_true, anK_false, e_tO, oK_true, oK_false, e_tNo, noK_ap, pBool_bl, pTru_bl, e_iVal, e_iRng, e_lc, bi_len, bi_int, pLen_kl, pLen_tup, pAdd_int, pSub_int, pNeg_int, pLt_int, pGt_int, pLe_int, pGe_int, pEq_int, pNe_int, pEq_str, pNe_str, pEq_bl, pNe_bl, pIn_char, pNotIn_char, pSl_tup, src_str', src_kl', src_tup', Rs.bind_ok, Rs.bind_bad, Rs.st_ok, RS.seq_next, RS.seq_ret, RS.seq_brk, RS.seq_cnt, RS.out_next, RS.out_ret, RS.out_exc, List.getElem?_cons_zero, List.getElem?_cons_succ, List.set_cons_zero, List.set_cons_succ, wipe', Bool.not_true, Bool.not_false, pSl_str (show g'.length ≤ PySem.sizeLine by omega)]
        rw [pAdd_str (by simp; omega)]
        simp only [e_seq, e_if, ifK_true, ifK_false, e_nil, e_set, setK_var, e_expr, e_ret, e_retN, e_brk, e_cnt, e_for, forK_mk, e_while, e_cst, e_var, e_anil, e_cons, consK_ap, e_n, e_op1, e_op2, op2K_ap, e_and, andK_true, andK_false, e_or, orK_true, orK_false, e_not, noV_ap, e_ite, iteK_true, iteK_false, e_call, e_callK, e_sl, slK_ap, e_oNone, e_oSome, e_bm, bmK_join, bmK_upper, e_tTru, e_tBoo, e_tAn, anK_true, anK_false, e_tO, oK_true, oK_false, e_tNo, noK_ap, pBool_bl, pTru_bl, e_iVal, e_iRng, e_lc, bi_len, bi_int, pLen_kl, pLen_tup, pAdd_int, pSub_int, pNeg_int, pLt_int, pGt_int, pLe_int, pGe_int, pEq_int, pNe_int, pEq_str, pNe_str, pEq_bl, pNe_bl, pIn_char, pNotIn_char, pSl_tup, src_str', src_kl', src_tup', Rs.bind_ok, Rs.bind_bad, Rs.st_ok, RS.seq_next, RS.seq_ret, RS.seq_brk, RS.seq_cnt, RS.out_next, RS.out_ret, RS.out_exc, List.getElem?_cons_zero, List.getElem?_cons_succ, List.set_cons_zero, List.set_cons_succ, wipe', Bool.not_true, Bool.not_false]
        exact fin_str et2 (by simp; omega)
      | false =>
      simp only [e_seq, e_if, ifK_true, ifK_false, e_nil, e_set, setK_var, e_expr, e_ret, e_retN, e_brk, e_cnt, e_for, forK_mk, e_while, e_cst, e_var, e_anil, e_cons, consK_ap, e_n, e_op1, e_op2, op2K_ap, e_and, andK_true, andK_false, e_or, orK_true, orK_false, e_not, noV_ap, e_ite, iteK_true, iteK_false, e_call, e_callK, e_sl, slK_ap, e_oNone, e_oSome, e_bm, bmK_join, bmK_upper, e_tTru, e_tBoo, e_tAn, anK_true, anK_false, e_tO, oK_true, oK_false, e_tNo, noK_ap, pBool_bl, pTru_bl, e_iVal, e_iRng, e_lc, bi_len, bi_int, pLen_kl, pLen_tup, pAdd_int, pSub_int, pNeg_int, pLt_int, pGt_int, pLe_int, pGe_int, pEq_int, pNe_int, pEq_str, pNe_str, pEq_bl, pNe_bl, pIn_char, pNotIn_char, pSl_tup, src_str', src_kl', src_tup', Rs.bind_ok, Rs.bind_bad, Rs.st_ok, RS.seq_next, RS.seq_ret, RS.seq_brk, RS.seq_cnt, RS.out_next, RS.out_ret, RS.out_exc, List.getElem?_cons_zero, List.getElem?_cons_succ, List.set_cons_zero, List.set_cons_succ, wipe', Bool.not_true, Bool.not_false, pIx_ref hr2 i0]
      cases c5 : decide (r0 = 12) with
      | true =>
        simp only [e_seq, e_if, ifK_true, ifK_false, e_nil, e_set, setK_var, e_expr, e_ret, e_retN, e_brk, e_cnt, e_for, forK_mk, e_while, e_cst, e_var, e_anil, e_cons, consK_ap, e_n, e_op1, e_op2, op2K_ap, e_and, andK_true, andK_false, e_or, orK_true, orK_false, e_not, noV_ap, e_ite, iteK_true, iteK_false, e_call, e_callK, e_sl, slK_ap, e_oNone, e_oSome, e_bm, bmK_join, bmK_upper, e_tTru, e_tBoo, e_tAn, anK_true, anK_false, e_tO, oK_true, oK_false, e_tNo, noK_ap, pBool_bl, pTru_bl, e_iVal, e_iRng, e_lc, bi_len, bi_int, pLen_kl, pLen_tup, pAdd_int, pSub_int, pNeg_int, pLt_int, pGt_int, pLe_int, pGe_int, pEq_int, pNe_int, pEq_str, pNe_str, pEq_bl, pNe_bl, pIn_char, pNotIn_char, pSl_tup, src_str', src_kl', src_tup', Rs.bind_ok, Rs.bind_bad, Rs.st_ok, RS.seq_next, RS.seq_ret, RS.seq_brk, RS.seq_cnt, RS.out_next, RS.out_ret, RS.out_exc, List.getElem?_cons_zero, List.getElem?_cons_succ, List.set_cons_zero, List.set_cons_succ, wipe', Bool.not_true, Bool.not_false, pSl_str (show g'.length ≤ PySem.sizeLine by omega)]
        have := hcut none (some j)
        have := hcut (some (j + 1)) none
        rw [pAdd_str (by omega)]
        simp only [e_seq, e_if, ifK_true, ifK_false, e_nil, e_set, setK_var, e_expr, e_ret, e_retN, e_brk, e_cnt, e_for, forK_mk, e_while, e_cst, e_var, e_anil, e_cons, consK_ap, e_n, e_op1, e_op2, op2K_ap, e_and, andK_true, andK_false, e_or, orK_true, orK_false, e_not, noV_ap, e_ite, iteK_true, iteK_false, e_call, e_callK, e_sl, slK_ap, e_oNone, e_oSome, e_bm, bmK_join, bmK_upper, e_tTru, e_tBoo, e_tAn, anK_true, anK_false, e_tO, oK_true, oK_false, e_tNo, noK_ap, pBool_bl, pTru_bl, e_iVal, e_iRng, e_lc, bi_len, bi_int, pLen_kl, pLen_tup, pAdd_int, pSub_int, pNeg_int, pLt_int, pGt_int, pLe_int, pGe_int, pEq_int, pNe_int, pEq_str, pNe_str, pEq_bl, pNe_bl, pIn_char, pNotIn_char, pSl_tup, src_str', src_kl', src_tup', Rs.bind_ok, Rs.bind_bad, Rs.st_ok, RS.seq_next, RS.seq_ret, RS.seq_brk, RS.seq_cnt, RS.out_next, RS.out_ret, RS.out_exc, List.getElem?_cons_zero, List.getElem?_cons_succ, List.set_cons_zero, List.set_cons_succ, wipe', Bool.not_true, Bool.not_false]
        exact fin_str et2 (by rw [List.length_append]; omega)
      | false =>
      simp only [e_seq, e_if, ifK_true, ifK_false, e_nil, e_set, setK_var, e_expr, e_ret, e_retN, e_brk, e_cnt, e_for, forK_mk, e_while, e_cst, e_var, e_anil, e_cons, consK_ap, e_n, e_op1, e_op2, op2K_ap, e_and, andK_true, andK_false, e_or, orK_true, orK_false, e_not, noV_ap, e_ite, iteK_true, iteK_false, e_call, e_callK, e_sl, slK_ap, e_oNone, e_oSome, e_bm, bmK_join, bmK_upper, e_tTru, e_tBoo, e_tAn, anK_true, anK_false, e_tO, oK_true, oK_false, e_tNo, noK_ap, pBool_bl, pTru_bl, e_iVal, e_iRng, e_lc, bi_len, bi_int, pLen_kl, pLen_tup, pAdd_int, pSub_int, pNeg_int, pLt_int, pGt_int, pLe_int, pGe_int, pEq_int, pNe_int, pEq_str, pNe_str, pEq_bl, pNe_bl, pIn_char, pNotIn_char, pSl_tup, src_str', src_kl', src_tup', Rs.bind_ok, Rs.bind_bad, Rs.st_ok, RS.seq_next, RS.seq_ret, RS.seq_brk, RS.seq_cnt, RS.out_next, RS.out_ret, RS.out_exc, List.getElem?_cons_zero, List.getElem?_cons_succ, List.set_cons_zero, List.set_cons_succ, wipe', Bool.not_true, Bool.not_false, pIx_ref hr2 i0]
      cases c6 : decide (r0 = 13) with
      | true =>
        simp only [e_seq, e_if, ifK_true, ifK_false, e_nil, e_set, setK_var, e_expr, e_ret, e_retN, e_brk, e_cnt, e_for, forK_mk, e_while, e_cst, e_var, e_anil, e_cons, consK_ap, e_n, e_op1, e_op2, op2K_ap, e_and, andK_true, andK_false, e_or, orK_true, orK_false, e_not, noV_ap, e_ite, iteK_true, iteK_false, e_call, e_callK, e_sl, slK_ap, e_oNone, e_oSome, e_bm, bmK_join, bmK_upper, e_tTru, e_tBoo, e_tAn, anK_true, anK_false, e_tO, oK_true, oK_false, e_tNo, noK_ap, pBool_bl, pTru_bl, e_iVal, e_iRng, e_lc, bi_len, bi_int, pLen_kl, pLen_tup, pAdd_int, pSub_int, pNeg_int, pLt_int, pGt_int, pLe_int, pGe_int, pEq_int, pNe_int, pEq_str, pNe_str, pEq_bl, pNe_bl, pIn_char, pNotIn_char, pSl_tup, src_str', src_kl', src_tup', Rs.bind_ok, Rs.bind_bad, Rs.st_ok, RS.seq_next, RS.seq_ret, RS.seq_brk, RS.seq_cnt, RS.out_next, RS.out_ret, RS.out_exc, List.getElem?_cons_zero, List.getElem?_cons_succ, List.set_cons_zero, List.set_cons_succ, wipe', Bool.not_true, Bool.not_false, pIx_ref hr2 i4]
        rw [pMul_str (by omega)]
        simp only [e_seq, e_if, ifK_true, ifK_false, e_nil, e_set, setK_var, e_expr, e_ret, e_retN, e_brk, e_cnt, e_for, forK_mk, e_while, e_cst, e_var, e_anil, e_cons, consK_ap, e_n, e_op1, e_op2, op2K_ap, e_and, andK_true, andK_false, e_or, orK_true, orK_false, e_not, noV_ap, e_ite, iteK_true, iteK_false, e_call, e_callK, e_sl, slK_ap, e_oNone, e_oSome, e_bm, bmK_join, bmK_upper, e_tTru, e_tBoo, e_tAn, anK_true, anK_false, e_tO, oK_true, oK_false, e_tNo, noK_ap, pBool_bl, pTru_bl, e_iVal, e_iRng, e_lc, bi_len, bi_int, pLen_kl, pLen_tup, pAdd_int, pSub_int, pNeg_int, pLt_int, pGt_int, pLe_int, pGe_int, pEq_int, pNe_int, pEq_str, pNe_str, pEq_bl, pNe_bl, pIn_char, pNotIn_char, pSl_tup, src_str', src_kl', src_tup', Rs.bind_ok, Rs.bind_bad, Rs.st_ok, RS.seq_next, RS.seq_ret, RS.seq_brk, RS.seq_cnt, RS.out_next, RS.out_ret, RS.out_exc, List.getElem?_cons_zero, List.getElem?_cons_succ, List.set_cons_zero, List.set_cons_succ, wipe', Bool.not_true, Bool.not_false, pIx_ref hr2 i4]
        rw [pMod_int (by omega)]
        simp only [e_seq, e_if, ifK_true, ifK_false, e_nil, e_set, setK_var, e_expr, e_ret, e_retN, e_brk, e_cnt, e_for, forK_mk, e_while, e_cst, e_var, e_anil, e_cons, consK_ap, e_n, e_op1, e_op2, op2K_ap, e_and, andK_true, andK_false, e_or, orK_true, orK_false, e_not, noV_ap, e_ite, iteK_true, iteK_false, e_call, e_callK, e_sl, slK_ap, e_oNone, e_oSome, e_bm, bmK_join, bmK_upper, e_tTru, e_tBoo, e_tAn, anK_true, anK_false, e_tO, oK_true, oK_false, e_tNo, noK_ap, pBool_bl, pTru_bl, e_iVal, e_iRng, e_lc, bi_len, bi_int, pLen_kl, pLen_tup, pAdd_int, pSub_int, pNeg_int, pLt_int, pGt_int, pLe_int, pGe_int, pEq_int, pNe_int, pEq_str, pNe_str, pEq_bl, pNe_bl, pIn_char, pNotIn_char, pSl_tup, src_str', src_kl', src_tup', Rs.bind_ok, Rs.bind_bad, Rs.st_ok, RS.seq_next, RS.seq_ret, RS.seq_brk, RS.seq_cnt, RS.out_next, RS.out_ret, RS.out_exc, List.getElem?_cons_zero, List.getElem?_cons_succ, List.set_cons_zero, List.set_cons_succ, wipe', Bool.not_true, Bool.not_false]
        have hrep : (rep (60 : Int).toNat g').length ≤ 1200 := by rw [rep_len]; show 60 * _ ≤ _; omega
        rw [pSl_str (by omega)]
        simp only [e_seq, e_if, ifK_true, ifK_false, e_nil, e_set, setK_var, e_expr, e_ret, e_retN, e_brk, e_cnt, e_for, forK_mk, e_while, e_cst, e_var, e_anil, e_cons, consK_ap, e_n, e_op1, e_op2, op2K_ap, e_and, andK_true, andK_false, e_or, orK_true, orK_false, e_not, noV_ap, e_ite, iteK_true, iteK_false, e_call, e_callK, e_sl, slK_ap, e_oNone, e_oSome, e_bm, bmK_join, bmK_upper, e_tTru, e_tBoo, e_tAn, anK_true, anK_false, e_tO, oK_true, oK_false, e_tNo, noK_ap, pBool_bl, pTru_bl, e_iVal, e_iRng, e_lc, bi_len, bi_int, pLen_kl, pLen_tup, pAdd_int, pSub_int, pNeg_int, pLt_int, pGt_int, pLe_int, pGe_int, pEq_int, pNe_int, pEq_str, pNe_str, pEq_bl, pNe_bl, pIn_char, pNotIn_char, pSl_tup, src_str', src_kl', src_tup', Rs.bind_ok, Rs.bind_bad, Rs.st_ok, RS.seq_next, RS.seq_ret, RS.seq_brk, RS.seq_cnt, RS.out_next, RS.out_ret, RS.out_exc, List.getElem?_cons_zero, List.getElem?_cons_succ, List.set_cons_zero, List.set_cons_succ, wipe', Bool.not_true, Bool.not_false]
        exact fin_str et2 (Nat.le_trans (cut_len ..) (by omega))
      | false =>
        obtain ⟨t3, e3, q3⟩ := words_run n h2
        have hww : (words ++ words2).length = 25 := rfl
        obtain ⟨w, w1, w2, _⟩ := atI_lt (xs := (words ++ words2).map D.str) (i := r6) a6 (by rw [List.length_map, hww]; omega)
        obtain ⟨w, w3, rfl⟩ := List.mem_map.mp w2
        obtain ⟨wa, w0, wl⟩ := ascii_words w w3
        obtain ⟨c9, m9, q9⟩ := ix_some (s := alnum) (j := r5) (h := h2 ++ t3) a5 (by rw [alnum_len]; omega) la
        cases w with
        | nil => simp at w0
        | cons ch r =>
        have hc := hcut
        have hws : (ch :: r).length ≤ PySem.sizeLine := by omega
        simp only [e_seq, e_if, ifK_true, ifK_false, e_nil, e_set, setK_var, e_expr, e_ret, e_retN, e_brk, e_cnt, e_for, forK_mk, e_while, e_cst, e_var, e_anil, e_cons, consK_ap, e_n, e_op1, e_op2, op2K_ap, e_and, andK_true, andK_false, e_or, orK_true, orK_false, e_not, noV_ap, e_ite, iteK_true, iteK_false, e_call, e_callK, e_sl, slK_ap, e_oNone, e_oSome, e_bm, bmK_join, bmK_upper, e_tTru, e_tBoo, e_tAn, anK_true, anK_false, e_tO, oK_true, oK_false, e_tNo, noK_ap, pBool_bl, pTru_bl, e_iVal, e_iRng, e_lc, bi_len, bi_int, pLen_kl, pLen_tup, pAdd_int, pSub_int, pNeg_int, pLt_int, pGt_int, pLe_int, pGe_int, pEq_int, pNe_int, pEq_str, pNe_str, pEq_bl, pNe_bl, pIn_char, pNotIn_char, pSl_tup, src_str', src_kl', src_tup', Rs.bind_ok, Rs.bind_bad, Rs.st_ok, RS.seq_next, RS.seq_ret, RS.seq_brk, RS.seq_cnt, RS.out_next, RS.out_ret, RS.out_exc, List.getElem?_cons_zero, List.getElem?_cons_succ, List.set_cons_zero, List.set_cons_succ, wipe', Bool.not_true, Bool.not_false, e3, pIx_ref (get_app _ hr2) i6, pIx_ref (get_app _ hr2) i5, pIx_ref (get_app _ hr2) i0, pIx_ref q3 w1, pSl_str hws, q9, pIx_str (atI_head _ _) hws]
        rw [pAdd_str (by rw [List.length_singleton]; omega)]
        simp only [e_seq, e_if, ifK_true, ifK_false, e_nil, e_set, setK_var, e_expr, e_ret, e_retN, e_brk, e_cnt, e_for, forK_mk, e_while, e_cst, e_var, e_anil, e_cons, consK_ap, e_n, e_op1, e_op2, op2K_ap, e_and, andK_true, andK_false, e_or, orK_true, orK_false, e_not, noV_ap, e_ite, iteK_true, iteK_false, e_call, e_callK, e_sl, slK_ap, e_oNone, e_oSome, e_bm, bmK_join, bmK_upper, e_tTru, e_tBoo, e_tAn, anK_true, anK_false, e_tO, oK_true, oK_false, e_tNo, noK_ap, pBool_bl, pTru_bl, e_iVal, e_iRng, e_lc, bi_len, bi_int, pLen_kl, pLen_tup, pAdd_int, pSub_int, pNeg_int, pLt_int, pGt_int, pLe_int, pGe_int, pEq_int, pNe_int, pEq_str, pNe_str, pEq_bl, pNe_bl, pIn_char, pNotIn_char, pSl_tup, src_str', src_kl', src_tup', Rs.bind_ok, Rs.bind_bad, Rs.st_ok, RS.seq_next, RS.seq_ret, RS.seq_brk, RS.seq_cnt, RS.out_next, RS.out_ret, RS.out_exc, List.getElem?_cons_zero, List.getElem?_cons_succ, List.set_cons_zero, List.set_cons_succ, wipe', Bool.not_true, Bool.not_false, pIx_str (atI_head _ _) hws]
        rw [upper_head wa]
        simp only [e_seq, e_if, ifK_true, ifK_false, e_nil, e_set, setK_var, e_expr, e_ret, e_retN, e_brk, e_cnt, e_for, forK_mk, e_while, e_cst, e_var, e_anil, e_cons, consK_ap, e_n, e_op1, e_op2, op2K_ap, e_and, andK_true, andK_false, e_or, orK_true, orK_false, e_not, noV_ap, e_ite, iteK_true, iteK_false, e_call, e_callK, e_sl, slK_ap, e_oNone, e_oSome, e_bm, bmK_join, bmK_upper, e_tTru, e_tBoo, e_tAn, anK_true, anK_false, e_tO, oK_true, oK_false, e_tNo, noK_ap, pBool_bl, pTru_bl, e_iVal, e_iRng, e_lc, bi_len, bi_int, pLen_kl, pLen_tup, pAdd_int, pSub_int, pNeg_int, pLt_int, pGt_int, pLe_int, pGe_int, pEq_int, pNe_int, pEq_str, pNe_str, pEq_bl, pNe_bl, pIn_char, pNotIn_char, pSl_tup, src_str', src_kl', src_tup', Rs.bind_ok, Rs.bind_bad, Rs.st_ok, RS.seq_next, RS.seq_ret, RS.seq_brk, RS.seq_cnt, RS.out_next, RS.out_ret, RS.out_exc, List.getElem?_cons_zero, List.getElem?_cons_succ, List.set_cons_zero, List.set_cons_succ, wipe', Bool.not_true, Bool.not_false, pSl_str hws, cut_tail, List.drop_succ_cons, List.drop_zero]
        rw [pAdd_str (by simp at wl ⊢; omega)]
        simp only [e_seq, e_if, ifK_true, ifK_false, e_nil, e_set, setK_var, e_expr, e_ret, e_retN, e_brk, e_cnt, e_for, forK_mk, e_while, e_cst, e_var, e_anil, e_cons, consK_ap, e_n, e_op1, e_op2, op2K_ap, e_and, andK_true, andK_false, e_or, orK_true, orK_false, e_not, noV_ap, e_ite, iteK_true, iteK_false, e_call, e_callK, e_sl, slK_ap, e_oNone, e_oSome, e_bm, bmK_join, bmK_upper, e_tTru, e_tBoo, e_tAn, anK_true, anK_false, e_tO, oK_true, oK_false, e_tNo, noK_ap, pBool_bl, pTru_bl, e_iVal, e_iRng, e_lc, bi_len, bi_int, pLen_kl, pLen_tup, pAdd_int, pSub_int, pNeg_int, pLt_int, pGt_int, pLe_int, pGe_int, pEq_int, pNe_int, pEq_str, pNe_str, pEq_bl, pNe_bl, pIn_char, pNotIn_char, pSl_tup, src_str', src_kl', src_tup', Rs.bind_ok, Rs.bind_bad, Rs.st_ok, RS.seq_next, RS.seq_ret, RS.seq_brk, RS.seq_cnt, RS.out_next, RS.out_ret, RS.out_exc, List.getElem?_cons_zero, List.getElem?_cons_succ, List.set_cons_zero, List.set_cons_succ, wipe', Bool.not_true, Bool.not_false]
        rw [pLst_run (by simp; omega)]
        simp only [e_seq, e_if, ifK_true, ifK_false, e_nil, e_set, setK_var, e_expr, e_ret, e_retN, e_brk, e_cnt, e_for, forK_mk, e_while, e_cst, e_var, e_anil, e_cons, consK_ap, e_n, e_op1, e_op2, op2K_ap, e_and, andK_true, andK_false, e_or, orK_true, orK_false, e_not, noV_ap, e_ite, iteK_true, iteK_false, e_call, e_callK, e_sl, slK_ap, e_oNone, e_oSome, e_bm, bmK_join, bmK_upper, e_tTru, e_tBoo, e_tAn, anK_true, anK_false, e_tO, oK_true, oK_false, e_tNo, noK_ap, pBool_bl, pTru_bl, e_iVal, e_iRng, e_lc, bi_len, bi_int, pLen_kl, pLen_tup, pAdd_int, pSub_int, pNeg_int, pLt_int, pGt_int, pLe_int, pGe_int, pEq_int, pNe_int, pEq_str, pNe_str, pEq_bl, pNe_bl, pIn_char, pNotIn_char, pSl_tup, src_str', src_kl', src_tup', Rs.bind_ok, Rs.bind_bad, Rs.st_ok, RS.seq_next, RS.seq_ret, RS.seq_brk, RS.seq_cnt, RS.out_next, RS.out_ret, RS.out_exc, List.getElem?_cons_zero, List.getElem?_cons_succ, List.set_cons_zero, List.set_cons_succ, wipe', Bool.not_true, Bool.not_false]
        rw [pIx_ref (get_app _ (get_app _ hr2)) i0]
        simp only [e_seq, e_if, ifK_true, ifK_false, e_nil, e_set, setK_var, e_expr, e_ret, e_retN, e_brk, e_cnt, e_for, forK_mk, e_while, e_cst, e_var, e_anil, e_cons, consK_ap, e_n, e_op1, e_op2, op2K_ap, e_and, andK_true, andK_false, e_or, orK_true, orK_false, e_not, noV_ap, e_ite, iteK_true, iteK_false, e_call, e_callK, e_sl, slK_ap, e_oNone, e_oSome, e_bm, bmK_join, bmK_upper, e_tTru, e_tBoo, e_tAn, anK_true, anK_false, e_tO, oK_true, oK_false, e_tNo, noK_ap, pBool_bl, pTru_bl, e_iVal, e_iRng, e_lc, bi_len, bi_int, pLen_kl, pLen_tup, pAdd_int, pSub_int, pNeg_int, pLt_int, pGt_int, pLe_int, pGe_int, pEq_int, pNe_int, pEq_str, pNe_str, pEq_bl, pNe_bl, pIn_char, pNotIn_char, pSl_tup, src_str', src_kl', src_tup', Rs.bind_ok, Rs.bind_bad, Rs.st_ok, RS.seq_next, RS.seq_ret, RS.seq_brk, RS.seq_cnt, RS.out_next, RS.out_ret, RS.out_exc, List.getElem?_cons_zero, List.getElem?_cons_succ, List.set_cons_zero, List.set_cons_succ, wipe', Bool.not_true, Bool.not_false]
        rw [pMod_int (by omega)]
        simp only [e_seq, e_if, ifK_true, ifK_false, e_nil, e_set, setK_var, e_expr, e_ret, e_retN, e_brk, e_cnt, e_for, forK_mk, e_while, e_cst, e_var, e_anil, e_cons, consK_ap, e_n, e_op1, e_op2, op2K_ap, e_and, andK_true, andK_false, e_or, orK_true, orK_false, e_not, noV_ap, e_ite, iteK_true, iteK_false, e_call, e_callK, e_sl, slK_ap, e_oNone, e_oSome, e_bm, bmK_join, bmK_upper, e_tTru, e_tBoo, e_tAn, anK_true, anK_false, e_tO, oK_true, oK_false, e_tNo, noK_ap, pBool_bl, pTru_bl, e_iVal, e_iRng, e_lc, bi_len, bi_int, pLen_kl, pLen_tup, pAdd_int, pSub_int, pNeg_int, pLt_int, pGt_int, pLe_int, pGe_int, pEq_int, pNe_int, pEq_str, pNe_str, pEq_bl, pNe_bl, pIn_char, pNotIn_char, pSl_tup, src_str', src_kl', src_tup', Rs.bind_ok, Rs.bind_bad, Rs.st_ok, RS.seq_next, RS.seq_ret, RS.seq_brk, RS.seq_cnt, RS.out_next, RS.out_ret, RS.out_exc, List.getElem?_cons_zero, List.getElem?_cons_succ, List.set_cons_zero, List.set_cons_succ, wipe', Bool.not_true, Bool.not_false]
        have hcw : (cut (ch :: r) none (some (-1))).length ≤ 10 := Nat.le_trans (cut_len ..) wl
        obtain ⟨x, x1, x2⟩ : ∃ x : List Char, atI [D.str (ch :: r), D.str (cut (ch :: r) none (some (-1))), D.str (ch :: r ++ [c9]), D.str ([upC ch] ++ r)] (r0 % 4) = some (.str x) ∧ x.length ≤ 2000 := by
          obtain ⟨x, x1, x2, _⟩ := atI_lt (xs := [D.str (ch :: r), D.str (cut (ch :: r) none (some (-1))), D.str (ch :: r ++ [c9]), D.str ([upC ch] ++ r)]) (i := r0 % 4) (by omega) (by simp; omega)
          simp only [List.mem_cons, List.not_mem_nil, or_false] at x2
          rcases x2 with rfl | rfl | rfl | rfl
          · exact ⟨_, x1, by omega⟩
          · exact ⟨_, x1, by omega⟩
          · exact ⟨_, x1, by rw [List.length_append, List.length_singleton]; omega⟩
          · exact ⟨_, x1, by simp at wl ⊢; omega⟩
        rw [pIx_ref (get_new _) x1]
        simp only [e_seq, e_if, ifK_true, ifK_false, e_nil, e_set, setK_var, e_expr, e_ret, e_retN, e_brk, e_cnt, e_for, forK_mk, e_while, e_cst, e_var, e_anil, e_cons, consK_ap, e_n, e_op1, e_op2, op2K_ap, e_and, andK_true, andK_false, e_or, orK_true, orK_false, e_not, noV_ap, e_ite, iteK_true, iteK_false, e_call, e_callK, e_sl, slK_ap, e_oNone, e_oSome, e_bm, bmK_join, bmK_upper, e_tTru, e_tBoo, e_tAn, anK_true, anK_false, e_tO, oK_true, oK_false, e_tNo, noK_ap, pBool_bl, pTru_bl, e_iVal, e_iRng, e_lc, bi_len, bi_int, pLen_kl, pLen_tup, pAdd_int, pSub_int, pNeg_int, pLt_int, pGt_int, pLe_int, pGe_int, pEq_int, pNe_int, pEq_str, pNe_str, pEq_bl, pNe_bl, pIn_char, pNotIn_char, pSl_tup, src_str', src_kl', src_tup', Rs.bind_ok, Rs.bind_bad, Rs.st_ok, RS.seq_next, RS.seq_ret, RS.seq_brk, RS.seq_cnt, RS.out_next, RS.out_ret, RS.out_exc, List.getElem?_cons_zero, List.getElem?_cons_succ, List.set_cons_zero, List.set_cons_succ, wipe', Bool.not_true, Bool.not_false]
        exact fin_str (t := t2 ++ (t3 ++ [AO.lst [D.str (ch :: r), D.str (cut (ch :: r) none (some (-1))), D.str (ch :: r ++ [c9]), D.str ([upC ch] ++ r)]])) (by rw [et2]; simp) x2
end Lw

set_option maxRecDepth 100000
set_option maxHeartbeats 1000000
noncomputable section
namespace Lw
open Pm PySem L2
theorem RowOk.all {row ss : List Int} (ro : RowOk row ss) : ∀ r ∈ row, ∃ s ∈ ss, 0 ≤ r ∧ r < s := by
  induction ro with
  | nil => intro r hr; cases hr
  | cons a b t ih =>
    intro r hr
    rcases List.mem_cons.mp hr with rfl | hr
    · exact ⟨_, by simp, a, b⟩
    · obtain ⟨s, hs, q⟩ := ih r hr
      exact ⟨s, by simp [hs], q⟩
def rngI (i j : Int) : List Int := (List.range (j - i).toNat).map fun k => i + (k : Nat)
theorem rngL_I (i j : Int) : rngL i j = (rngI i j).map D.int := by
  unfold rngL rngI
  rw [List.map_map]
  rfl
theorem rngI_len (i j : Int) : (rngI i j).length = (j - i).toNat := by simp [rngI]
/-- a comprehension of strings, nothing changed -/
theorem comp_strs {own : List Nat} {i : Nat} {ρ : Env'} {c : CallT} {h : AH} {e : SE} {o : Option Nat} (ds : List Int) (f : Int → List Char) (hst : stands o (ds.map D.int) h = true) (he : ∀ d ∈ ds, e c ((wipe' ρ own).set i (some (.int d))) h = .ok (.str (f d)) h) (hl : ds.length ≤ PySem.sizeLine) :
    lcK own (gVar i) tYesS e c ρ ⟨o, ds.map D.int⟩ h = .ok (.ref h.length) (h ++ [AO.lst ((ds.map f).map D.str)]) := by
  have key := lcL_map (st := stands o (ds.map D.int)) (i := i) (ρ := wipe' ρ own) (c := c) (e := e c) (h := h) (fun x => match x with | .int d => .str (f d) | _ => .non) hst (xs := ds.map D.int) (by
    intro x hx
    obtain ⟨d, hd, rfl⟩ := List.mem_map.mp hx
    exact he d hd)
  rw [lcK_ok key (by rw [List.length_map, List.length_map]; exact hl)]
  rw [List.map_map, List.map_map]
  rfl
theorem fin_lst {h h2 t2 : AH} (e : h2 = h ++ t2) {a b : AO} {xs : List D} {ss : List (List Char)} (ex : xs = ss.map D.str) (h1 : ∀ s ∈ ss, s.length ≤ 2000) (h97 : ss.length ≤ 97) :
    ∃ (ss : List (List Char)) (m : Nat) (t : AH), (∀ s ∈ ss, s.length ≤ 2000) ∧ ss.length ≤ 97 ∧ (Rs.ok (D.ref (h2 ++ [a] ++ [b]).length) (h2 ++ [a] ++ [b] ++ [AO.lst xs]) : Rs D) = .ok (.ref m) (h ++ t) ∧ (h ++ t)[m]? = some (.lst (ss.map D.str)) := by
  refine ⟨ss, (h2 ++ [a] ++ [b]).length, t2 ++ [a] ++ [b] ++ [AO.lst xs], h1, h97, ?_, ?_⟩
  · rw [e]
    simp only [List.append_assoc]
  · rw [e, ex]
    simp only [← List.append_assoc]
    exact get_new _
theorem each_sign_run (n : Nat) (z : Int) (h : AH) : ∃ (ss : List (List Char)) (m : Nat) (t : AH), (∀ s ∈ ss, s.length ≤ 2000) ∧ ss.length ≤ 97 ∧ callF (fbOf tab) (n + 2) 8 [.int z] h = .ok (.ref m) (h ++ t) ∧ (h ++ t)[m]? = some (.lst (ss.map D.str)) := by
  have hsz : PySem.sizeLine = 16777216 := PySem.sizeLine_eq
  rw [cl__law_each_sign]
  unfold b__law_each_sign
  simp only [e_seq, e_set, e_call, e_cons, e_var, e_anil, consK_ap, Rs.bind_ok, List.getElem?_cons_zero]
  rw [sizes_run (A := [.int 7, .int 8, .int 2, .int 26]) (n := 6) (N := 6) rfl (by decide) rfl (by decide)]
  obtain ⟨row, ro, e1⟩ := digits_run n z (h.length + 2) sizesS (h ++ [AO.lst [.int 7, .int 8, .int 2, .int 26], AO.lst (List.replicate 6 (.int 36)), AO.lst ([.int 7, .int 8, .int 2, .int 26] ++ List.replicate 6 (.int 36))]) (by simp [sizesS]) (by decide) (by decide)
  simp only [consK_ap, e_anil, Rs.bind_ok, e1, Rs.st_ok, setK_var, RS.seq_next, List.set_cons_succ, List.set_cons_zero]
  have hall : ∀ r ∈ row, 0 ≤ r ∧ r < 36 := by
    intro r hr
    obtain ⟨s, hs, q0, q1⟩ := ro.all r hr
    have : s ≤ 36 := (show ∀ s ∈ sizesS, s ≤ 36 by decide) s hs
    omega
  obtain ⟨r0, rest, rfl, a0, b0, ro⟩ := RowOk.inv ro
  obtain ⟨r1, rest, rfl, a1, b1, ro⟩ := RowOk.inv ro
  obtain ⟨r2, rest, rfl, a2, b2, ro⟩ := RowOk.inv ro
  obtain ⟨r3, rest, rfl, a3, b3, ro⟩ := RowOk.inv ro
  have hrl : rest.length = 6 := ro.len
  clear ro e1
  obtain ⟨row, er⟩ : ∃ row, row = r0 :: r1 :: r2 :: r3 :: rest := ⟨_, rfl⟩
  have hlr : row.length = 10 := by rw [er]; simp [hrl]
  have i0 : atI (row.map D.int) 0 = some (.int r0) := by rw [er]; exact atI_nat (j := 0) rfl
  have i1 : atI (row.map D.int) 1 = some (.int r1) := by rw [er]; exact atI_nat (j := 1) rfl
  have i2 : atI (row.map D.int) 2 = some (.int r2) := by rw [er]; exact atI_nat (j := 2) rfl
  have i3 : atI (row.map D.int) 3 = some (.int r3) := by rw [er]; exact atI_nat (j := 3) rfl
  rw [← er] at hall ⊢
  clear er
  generalize hR : (h ++ [AO.lst [.int 7, .int 8, .int 2, .int 26], AO.lst (List.replicate 6 (.int 36)), AO.lst ([.int 7, .int 8, .int 2, .int 26] ++ List.replicate 6 (.int 36))]).length = R
  obtain ⟨h1, eh1⟩ : ∃ h1, h1 = h ++ [AO.lst [.int 7, .int 8, .int 2, .int 26], AO.lst (List.replicate 6 (.int 36)), AO.lst ([.int 7, .int 8, .int 2, .int 26] ++ List.replicate 6 (.int 36))] ++ [AO.lst (row.map D.int)] := ⟨_, rfl⟩
  have hr : h1[R]? = some (.lst (row.map D.int)) := by rw [eh1, ← hR]; exact get_new _
  rw [← eh1]
  obtain ⟨t1, et1⟩ : ∃ t1, h1 = h ++ t1 := ⟨_, by rw [eh1, List.append_assoc]⟩
  clear eh1 hR
  obtain ⟨c5, m5, q5⟩ := ix_some (s := alnum) (j := r3) (h := h1) a3 (by rw [alnum_len]; omega) (by rw [alnum_len]; omega)
  have la : alnum.length ≤ PySem.sizeLine := by rw [alnum_len]; omega
  simp only [e_seq, ifK_true, ifK_false, e_nil, e_set, setK_var, e_expr, e_ret, e_retN, e_brk, e_cnt, e_for, forK_mk, e_while, e_cst, e_var, e_anil, e_cons, consK_ap, e_n, e_op1, e_op2, op2K_ap, e_and, andK_true, andK_false, e_or, orK_true, orK_false, e_not, noV_ap, e_ite, iteK_true, iteK_false, e_call, e_callK, e_sl, slK_ap, e_oNone, e_oSome, e_bm, bmK_join, bmK_upper, e_tTru, e_tBoo, e_tAn, anK_true, anK_false, e_tO, oK_true, oK_false, e_tNo, noK_ap, pBool_bl, pTru_bl, e_iVal, e_iRng, e_lc, bi_len, bi_int, pLen_kl, pLen_tup, pAdd_int, pSub_int, pNeg_int, pLt_int, pGt_int, pLe_int, pGe_int, pEq_int, pNe_int, pEq_str, pNe_str, pEq_bl, pNe_bl, pIn_char, pNotIn_char, pSl_tup, src_str', src_kl', src_tup', Rs.bind_ok, Rs.bind_bad, Rs.st_ok, RS.seq_next, RS.seq_ret, RS.seq_brk, RS.seq_cnt, RS.out_next, RS.out_ret, RS.out_exc, List.getElem?_cons_zero, List.getElem?_cons_succ, List.set_cons_zero, List.set_cons_succ, wipe', Bool.not_true, Bool.not_false, alnum_eq, pIx_ref hr i3, q5, pIx_ref hr i0, pSl_ref hr, src_ref (get_new _)]
  rw [cut_map]
  have hl : (cut row (some 4) (some (4 + r0))).length ≤ 10 := by rw [← hlr]; exact cut_len ..
  rw [comp_chars _ alAt (stands_ref (get_new _)) (fun d hd => by
    have hd := hall d (cut_mem hd)
    have e := (alAt_ok d).1
    rw [show d % 36 = d by omega] at e
    simp only [e_seq, e_if, ifK_true, ifK_false, e_nil, e_set, setK_var, e_expr, e_ret, e_retN, e_brk, e_cnt, e_for, forK_mk, e_while, e_cst, e_var, e_anil, e_cons, consK_ap, e_n, e_op1, e_op2, op2K_ap, e_and, andK_true, andK_false, e_or, orK_true, orK_false, e_not, noV_ap, e_ite, iteK_true, iteK_false, e_call, e_callK, e_sl, slK_ap, e_oNone, e_oSome, e_bm, bmK_join, bmK_upper, e_tTru, e_tBoo, e_tAn, anK_true, anK_false, e_tO, oK_true, oK_false, e_tNo, noK_ap, pBool_bl, pTru_bl, e_iVal, e_iRng, e_lc, bi_len, bi_int, pLen_kl, pLen_tup, pAdd_int, pSub_int, pNeg_int, pLt_int, pGt_int, pLe_int, pGe_int, pEq_int, pNe_int, pEq_str, pNe_str, pEq_bl, pNe_bl, pIn_char, pNotIn_char, pSl_tup, src_str', src_kl', src_tup', Rs.bind_ok, Rs.bind_bad, Rs.st_ok, RS.seq_next, RS.seq_ret, RS.seq_brk, RS.seq_cnt, RS.out_next, RS.out_ret, RS.out_exc, List.getElem?_cons_zero, List.getElem?_cons_succ, List.set_cons_zero, List.set_cons_succ, wipe', Bool.not_true, Bool.not_false]
    rw [pIx_str e la]) (by omega)]
  simp only [e_seq, ifK_true, ifK_false, e_nil, e_set, setK_var, e_expr, e_ret, e_retN, e_brk, e_cnt, e_for, forK_mk, e_while, e_cst, e_var, e_anil, e_cons, consK_ap, e_n, e_op1, e_op2, op2K_ap, e_and, andK_true, andK_false, e_or, orK_true, orK_false, e_not, noV_ap, e_ite, iteK_true, iteK_false, e_call, e_callK, e_sl, slK_ap, e_oNone, e_oSome, e_bm, bmK_join, bmK_upper, e_tTru, e_tBoo, e_tAn, anK_true, anK_false, e_tO, oK_true, oK_false, e_tNo, noK_ap, pBool_bl, pTru_bl, e_iVal, e_iRng, e_lc, bi_len, bi_int, pLen_kl, pLen_tup, pAdd_int, pSub_int, pNeg_int, pLt_int, pGt_int, pLe_int, pGe_int, pEq_int, pNe_int, pEq_str, pNe_str, pEq_bl, pNe_bl, pIn_char, pNotIn_char, pSl_tup, src_str', src_kl', src_tup', Rs.bind_ok, Rs.bind_bad, Rs.st_ok, RS.seq_next, RS.seq_ret, RS.seq_brk, RS.seq_cnt, RS.out_next, RS.out_ret, RS.out_exc, List.getElem?_cons_zero, List.getElem?_cons_succ, List.set_cons_zero, List.set_cons_succ, wipe', Bool.not_true, Bool.not_false]
  rw [join_chars (get_new _) (by rw [List.length_map]; omega)]
  simp only [e_seq, ifK_true, ifK_false, e_nil, e_set, setK_var, e_expr, e_ret, e_retN, e_brk, e_cnt, e_for, forK_mk, e_while, e_cst, e_var, e_anil, e_cons, consK_ap, e_n, e_op1, e_op2, op2K_ap, e_and, andK_true, andK_false, e_or, orK_true, orK_false, e_not, noV_ap, e_ite, iteK_true, iteK_false, e_call, e_callK, e_sl, slK_ap, e_oNone, e_oSome, e_bm, bmK_join, bmK_upper, e_tTru, e_tBoo, e_tAn, anK_true, anK_false, e_tO, oK_true, oK_false, e_tNo, noK_ap, pBool_bl, pTru_bl, e_iVal, e_iRng, e_lc, bi_len, bi_int, pLen_kl, pLen_tup, pAdd_int, pSub_int, pNeg_int, pLt_int, pGt_int, pLe_int, pGe_int, pEq_int, pNe_int, pEq_str, pNe_str, pEq_bl, pNe_bl, pIn_char, pNotIn_char, pSl_tup, src_str', src_kl', src_tup', Rs.bind_ok, Rs.bind_bad, Rs.st_ok, RS.seq_next, RS.seq_ret, RS.seq_brk, RS.seq_cnt, RS.out_next, RS.out_ret, RS.out_exc, List.getElem?_cons_zero, List.getElem?_cons_succ, List.set_cons_zero, List.set_cons_succ, wipe', Bool.not_true, Bool.not_false]
  rw [pAdd_str (by rw [List.length_map, List.length_singleton]; omega)]
  simp only [e_seq, ifK_true, ifK_false, e_nil, e_set, setK_var, e_expr, e_ret, e_retN, e_brk, e_cnt, e_for, forK_mk, e_while, e_cst, e_var, e_anil, e_cons, consK_ap, e_n, e_op1, e_op2, op2K_ap, e_and, andK_true, andK_false, e_or, orK_true, orK_false, e_not, noV_ap, e_ite, iteK_true, iteK_false, e_call, e_callK, e_sl, slK_ap, e_oNone, e_oSome, e_bm, bmK_join, bmK_upper, e_tTru, e_tBoo, e_tAn, anK_true, anK_false, e_tO, oK_true, oK_false, e_tNo, noK_ap, pBool_bl, pTru_bl, e_iVal, e_iRng, e_lc, bi_len, bi_int, pLen_kl, pLen_tup, pAdd_int, pSub_int, pNeg_int, pLt_int, pGt_int, pLe_int, pGe_int, pEq_int, pNe_int, pEq_str, pNe_str, pEq_bl, pNe_bl, pIn_char, pNotIn_char, pSl_tup, src_str', src_kl', src_tup', Rs.bind_ok, Rs.bind_bad, Rs.st_ok, RS.seq_next, RS.seq_ret, RS.seq_brk, RS.seq_cnt, RS.out_next, RS.out_ret, RS.out_exc, List.getElem?_cons_zero, List.getElem?_cons_succ, List.set_cons_zero, List.set_cons_succ, wipe', Bool.not_true, Bool.not_false]
  obtain ⟨g, eg⟩ : ∃ g, g = [c5] ++ (cut row (some 4) (some (4 + r0))).map alAt := ⟨_, rfl⟩
  have g0 : 0 < g.length := by rw [eg]; simp
  have g1 : g.length ≤ 20 := by rw [eg]; simp; omega
  have ga : ascii g := by
    rw [eg]
    refine ascii_app (fun c hc => ascii_alnum c ?_) (fun c hc => ?_)
    · rw [List.mem_singleton] at hc; rw [hc]; exact m5
    · obtain ⟨d, _, rfl⟩ := List.mem_map.mp hc
      exact (alAt_ok d).2
  rw [← eg]
  clear eg
  obtain ⟨h2, eh2⟩ : ∃ h2, h2 = h1 ++ [AO.lst ((cut row (some 4) (some (4 + r0))).map D.int)] ++ [AO.lst ((((cut row (some 4) (some (4 + r0))).map alAt).map fun c => [c]).map D.str)] := ⟨_, rfl⟩
  have hr2 : h2[R]? = some (.lst (row.map D.int)) := by rw [eh2]; exact get_app _ (get_app _ hr)
  obtain ⟨t2, et2⟩ : ∃ t2, h2 = h ++ t2 := ⟨_, by rw [eh2, et1, List.append_assoc, List.append_assoc]⟩
  rw [← eh2]
  clear eh2
  obtain ⟨g', g0', g1', ga', e3⟩ : ∃ g' : List Char, 0 < g'.length ∧ g'.length ≤ 20 ∧ ascii g' ∧ kIf (tBoo (sOp2 pEq (sOp2 pIx (sVar 1) (sCst (.int 2))) (sCst (.int 1))))
    (kSeq (kSet (gVar 3) (sOp2 pAdd (sBm .upper (sOp2 pIx (sVar 3) (sCst (.int 0))) (sNil)) (sSl (sVar 3) (oSome (sCst (.int 1))) oNone))) (kNil)) (kNil) (callF (fbOf tab) (n + 1)) [some (.int z), some (.ref R), some (.str alnum), some (.str g), none, none, none, none] h2
      = .next [some (.int z), some (.ref R), some (.str alnum), some (.str g'), none, none, none, none] h2 := by
    simp only [e_seq, e_if, ifK_true, ifK_false, e_nil, e_set, setK_var, e_expr, e_ret, e_retN, e_brk, e_cnt, e_for, forK_mk, e_while, e_cst, e_var, e_anil, e_cons, consK_ap, e_n, e_op1, e_op2, op2K_ap, e_and, andK_true, andK_false, e_or, orK_true, orK_false, e_not, noV_ap, e_ite, iteK_true, iteK_false, e_call, e_callK, e_sl, slK_ap, e_oNone, e_oSome, e_bm, bmK_join, bmK_upper, e_tTru, e_tBoo, e_tAn, anK_true, anK_false, e_tO, oK_true, oK_false, e_tNo, noK_ap, pBool_bl, pTru_bl, e_iVal, e_iRng, e_lc, bi_len, bi_int, pLen_kl, pLen_tup, pAdd_int, pSub_int, pNeg_int, pLt_int, pGt_int, pLe_int, pGe_int, pEq_int, pNe_int, pEq_str, pNe_str, pEq_bl, pNe_bl, pIn_char, pNotIn_char, pSl_tup, src_str', src_kl', src_tup', Rs.bind_ok, Rs.bind_bad, Rs.st_ok, RS.seq_next, RS.seq_ret, RS.seq_brk, RS.seq_cnt, RS.out_next, RS.out_ret, RS.out_exc, List.getElem?_cons_zero, List.getElem?_cons_succ, List.set_cons_zero, List.set_cons_succ, wipe', Bool.not_true, Bool.not_false, pIx_ref hr2 i2]
    cases c2 : decide (r2 = 1) with
    | false => exact ⟨g, g0, g1, ga, by simp only [e_seq, e_if, ifK_true, ifK_false, e_nil, e_set, setK_var, e_expr, e_ret, e_retN, e_brk, e_cnt, e_for, forK_mk, e_while, e_cst, e_var, e_anil, e_cons, consK_ap, e_n, e_op1, e_op2, op2K_ap, e_and, andK_true, andK_false, e_or, orK_true, orK_false, e_not, noV_ap, e_ite, iteK_true, iteK_false, e_call, e_callK, e_sl, slK_ap, e_oNone, e_oSome, e_bm, bmK_join, bmK_upper, e_tTru, e_tBoo, e_tAn, anK_true, anK_false, e_tO, oK_true, oK_false, e_tNo, noK_ap, pBool_bl, pTru_bl, e_iVal, e_iRng, e_lc, bi_len, bi_int, pLen_kl, pLen_tup, pAdd_int, pSub_int, pNeg_int, pLt_int, pGt_int, pLe_int, pGe_int, pEq_int, pNe_int, pEq_str, pNe_str, pEq_bl, pNe_bl, pIn_char, pNotIn_char, pSl_tup, src_str', src_kl', src_tup', Rs.bind_ok, Rs.bind_bad, Rs.st_ok, RS.seq_next, RS.seq_ret, RS.seq_brk, RS.seq_cnt, RS.out_next, RS.out_ret, RS.out_exc, List.getElem?_cons_zero, List.getElem?_cons_succ, List.set_cons_zero, List.set_cons_succ, wipe', Bool.not_true, Bool.not_false]⟩
    | true =>
      cases g with
      | nil => simp at g0
      | cons ch r =>
        simp only [e_seq, e_if, ifK_true, ifK_false, e_nil, e_set, setK_var, e_expr, e_ret, e_retN, e_brk, e_cnt, e_for, forK_mk, e_while, e_cst, e_var, e_anil, e_cons, consK_ap, e_n, e_op1, e_op2, op2K_ap, e_and, andK_true, andK_false, e_or, orK_true, orK_false, e_not, noV_ap, e_ite, iteK_true, iteK_false, e_call, e_callK, e_sl, slK_ap, e_oNone, e_oSome, e_bm, bmK_join, bmK_upper, e_tTru, e_tBoo, e_tAn, anK_true, anK_false, e_tO, oK_true, oK_false, e_tNo, noK_ap, pBool_bl, pTru_bl, e_iVal, e_iRng, e_lc, bi_len, bi_int, pLen_kl, pLen_tup, pAdd_int, pSub_int, pNeg_int, pLt_int, pGt_int, pLe_int, pGe_int, pEq_int, pNe_int, pEq_str, pNe_str, pEq_bl, pNe_bl, pIn_char, pNotIn_char, pSl_tup, src_str', src_kl', src_tup', Rs.bind_ok, Rs.bind_bad, Rs.st_ok, RS.seq_next, RS.seq_ret, RS.seq_brk, RS.seq_cnt, RS.out_next, RS.out_ret, RS.out_exc, List.getElem?_cons_zero, List.getElem?_cons_succ, List.set_cons_zero, List.set_cons_succ, wipe', Bool.not_true, Bool.not_false]
        rw [pIx_str (atI_head _ _) (by omega)]
        simp only [e_seq, e_if, ifK_true, ifK_false, e_nil, e_set, setK_var, e_expr, e_ret, e_retN, e_brk, e_cnt, e_for, forK_mk, e_while, e_cst, e_var, e_anil, e_cons, consK_ap, e_n, e_op1, e_op2, op2K_ap, e_and, andK_true, andK_false, e_or, orK_true, orK_false, e_not, noV_ap, e_ite, iteK_true, iteK_false, e_call, e_callK, e_sl, slK_ap, e_oNone, e_oSome, e_bm, bmK_join, bmK_upper, e_tTru, e_tBoo, e_tAn, anK_true, anK_false, e_tO, oK_true, oK_false, e_tNo, noK_ap, pBool_bl, pTru_bl, e_iVal, e_iRng, e_lc, bi_len, bi_int, pLen_kl, pLen_tup, pAdd_int, pSub_int, pNeg_int, pLt_int, pGt_int, pLe_int, pGe_int, pEq_int, pNe_int, pEq_str, pNe_str, pEq_bl, pNe_bl, pIn_char, pNotIn_char, pSl_tup, src_str', src_kl', src_tup', Rs.bind_ok, Rs.bind_bad, Rs.st_ok, RS.seq_next, RS.seq_ret, RS.seq_brk, RS.seq_cnt, RS.out_next, RS.out_ret, RS.out_exc, List.getElem?_cons_zero, List.getElem?_cons_succ, List.set_cons_zero, List.set_cons_succ, wipe', Bool.not_true, Bool.not_false]
        rw [upper_head ga]
        simp only [e_seq, e_if, ifK_true, ifK_false, e_nil, e_set, setK_var, e_expr, e_ret, e_retN, e_brk, e_cnt, e_for, forK_mk, e_while, e_cst, e_var, e_anil, e_cons, consK_ap, e_n, e_op1, e_op2, op2K_ap, e_and, andK_true, andK_false, e_or, orK_true, orK_false, e_not, noV_ap, e_ite, iteK_true, iteK_false, e_call, e_callK, e_sl, slK_ap, e_oNone, e_oSome, e_bm, bmK_join, bmK_upper, e_tTru, e_tBoo, e_tAn, anK_true, anK_false, e_tO, oK_true, oK_false, e_tNo, noK_ap, pBool_bl, pTru_bl, e_iVal, e_iRng, e_lc, bi_len, bi_int, pLen_kl, pLen_tup, pAdd_int, pSub_int, pNeg_int, pLt_int, pGt_int, pLe_int, pGe_int, pEq_int, pNe_int, pEq_str, pNe_str, pEq_bl, pNe_bl, pIn_char, pNotIn_char, pSl_tup, src_str', src_kl', src_tup', Rs.bind_ok, Rs.bind_bad, Rs.st_ok, RS.seq_next, RS.seq_ret, RS.seq_brk, RS.seq_cnt, RS.out_next, RS.out_ret, RS.out_exc, List.getElem?_cons_zero, List.getElem?_cons_succ, List.set_cons_zero, List.set_cons_succ, wipe', Bool.not_true, Bool.not_false]
        rw [pSl_str (by omega), cut_tail]
        simp only [e_seq, e_if, ifK_true, ifK_false, e_nil, e_set, setK_var, e_expr, e_ret, e_retN, e_brk, e_cnt, e_for, forK_mk, e_while, e_cst, e_var, e_anil, e_cons, consK_ap, e_n, e_op1, e_op2, op2K_ap, e_and, andK_true, andK_false, e_or, orK_true, orK_false, e_not, noV_ap, e_ite, iteK_true, iteK_false, e_call, e_callK, e_sl, slK_ap, e_oNone, e_oSome, e_bm, bmK_join, bmK_upper, e_tTru, e_tBoo, e_tAn, anK_true, anK_false, e_tO, oK_true, oK_false, e_tNo, noK_ap, pBool_bl, pTru_bl, e_iVal, e_iRng, e_lc, bi_len, bi_int, pLen_kl, pLen_tup, pAdd_int, pSub_int, pNeg_int, pLt_int, pGt_int, pLe_int, pGe_int, pEq_int, pNe_int, pEq_str, pNe_str, pEq_bl, pNe_bl, pIn_char, pNotIn_char, pSl_tup, src_str', src_kl', src_tup', Rs.bind_ok, Rs.bind_bad, Rs.st_ok, RS.seq_next, RS.seq_ret, RS.seq_brk, RS.seq_cnt, RS.out_next, RS.out_ret, RS.out_exc, List.getElem?_cons_zero, List.getElem?_cons_succ, List.set_cons_zero, List.set_cons_succ, wipe', Bool.not_true, Bool.not_false, List.drop_succ_cons, List.drop_zero]
        rw [pAdd_str (by simp at g1 ⊢; omega)]
        exact ⟨upC ch :: r, by simp, by simpa using g1, fun c hc => by
          rcases List.mem_cons.mp hc with rfl | hc
          · exact upC_ascii (ga ch (by simp))
          · exact ga c (by simp [hc]), by simp only [e_seq, e_if, ifK_true, ifK_false, e_nil, e_set, setK_var, e_expr, e_ret, e_retN, e_brk, e_cnt, e_for, forK_mk, e_while, e_cst, e_var, e_anil, e_cons, consK_ap, e_n, e_op1, e_op2, op2K_ap, e_and, andK_true, andK_false, e_or, orK_true, orK_false, e_not, noV_ap, e_ite, iteK_true, iteK_false, e_call, e_callK, e_sl, slK_ap, e_oNone, e_oSome, e_bm, bmK_join, bmK_upper, e_tTru, e_tBoo, e_tAn, anK_true, anK_false, e_tO, oK_true, oK_false, e_tNo, noK_ap, pBool_bl, pTru_bl, e_iVal, e_iRng, e_lc, bi_len, bi_int, pLen_kl, pLen_tup, pAdd_int, pSub_int, pNeg_int, pLt_int, pGt_int, pLe_int, pGe_int, pEq_int, pNe_int, pEq_str, pNe_str, pEq_bl, pNe_bl, pIn_char, pNotIn_char, pSl_tup, src_str', src_kl', src_tup', Rs.bind_ok, Rs.bind_bad, Rs.st_ok, RS.seq_next, RS.seq_ret, RS.seq_brk, RS.seq_cnt, RS.out_next, RS.out_ret, RS.out_exc, List.getElem?_cons_zero, List.getElem?_cons_succ, List.set_cons_zero, List.set_cons_succ, wipe', Bool.not_true, Bool.not_false]; rfl⟩
  rw [e3]
  clear e3 g0 g1 ga
  have hg : g'.length ≤ PySem.sizeLine := by omega
  have hcut : ∀ lo hi, (cut g' lo hi).length ≤ 20 := fun lo hi => Nat.le_trans (cut_len ..) g1'
  simp only [e_seq, e_if, ifK_true, ifK_false, e_nil, e_set, setK_var, e_expr, e_ret, e_retN, e_brk, e_cnt, e_for, forK_mk, e_while, e_cst, e_var, e_anil, e_cons, consK_ap, e_n, e_op1, e_op2, op2K_ap, e_and, andK_true, andK_false, e_or, orK_true, orK_false, e_not, noV_ap, e_ite, iteK_true, iteK_false, e_call, e_callK, e_sl, slK_ap, e_oNone, e_oSome, e_bm, bmK_join, bmK_upper, e_tTru, e_tBoo, e_tAn, anK_true, anK_false, e_tO, oK_true, oK_false, e_tNo, noK_ap, pBool_bl, pTru_bl, e_iVal, e_iRng, e_lc, bi_len, bi_int, pLen_kl, pLen_tup, pAdd_int, pSub_int, pNeg_int, pLt_int, pGt_int, pLe_int, pGe_int, pEq_int, pNe_int, pEq_str, pNe_str, pEq_bl, pNe_bl, pIn_char, pNotIn_char, pSl_tup, src_str', src_kl', src_tup', Rs.bind_ok, Rs.bind_bad, Rs.st_ok, RS.seq_next, RS.seq_ret, RS.seq_brk, RS.seq_cnt, RS.out_next, RS.out_ret, RS.out_exc, List.getElem?_cons_zero, List.getElem?_cons_succ, List.set_cons_zero, List.set_cons_succ, wipe', Bool.not_true, Bool.not_false, pIx_ref hr2 i1, pLen_str hg]
  rw [pMod_int (by omega)]
  obtain ⟨j, ej⟩ : ∃ j, j = r1 % ((g'.length : Int) + 1) := ⟨_, rfl⟩
  rw [← ej]
  simp only [e_seq, e_if, ifK_true, ifK_false, e_nil, e_set, setK_var, e_expr, e_ret, e_retN, e_brk, e_cnt, e_for, forK_mk, e_while, e_cst, e_var, e_anil, e_cons, consK_ap, e_n, e_op1, e_op2, op2K_ap, e_and, andK_true, andK_false, e_or, orK_true, orK_false, e_not, noV_ap, e_ite, iteK_true, iteK_false, e_call, e_callK, e_sl, slK_ap, e_oNone, e_oSome, e_bm, bmK_join, bmK_upper, e_tTru, e_tBoo, e_tAn, anK_true, anK_false, e_tO, oK_true, oK_false, e_tNo, noK_ap, pBool_bl, pTru_bl, e_iVal, e_iRng, e_lc, bi_len, bi_int, pLen_kl, pLen_tup, pAdd_int, pSub_int, pNeg_int, pLt_int, pGt_int, pLe_int, pGe_int, pEq_int, pNe_int, pEq_str, pNe_str, pEq_bl, pNe_bl, pIn_char, pNotIn_char, pSl_tup, src_str', src_kl', src_tup', Rs.bind_ok, Rs.bind_bad, Rs.st_ok, RS.seq_next, RS.seq_ret, RS.seq_brk, RS.seq_cnt, RS.out_next, RS.out_ret, RS.out_exc, List.getElem?_cons_zero, List.getElem?_cons_succ, List.set_cons_zero, List.set_cons_succ, wipe', Bool.not_true, Bool.not_false, pLen_str hg]
  rw [pSl_str (by simp; omega)]
  obtain ⟨q, eq⟩ : ∃ q, q = cut ['b', '7', 'k', '0', 'q', '2', 'x', 'w'] (some ((g'.length : Int) - 1)) none := ⟨_, rfl⟩
  have hq : q.length ≤ 8 := by rw [eq]; exact cut_len ..
  rw [← eq]
  simp only [e_seq, e_if, ifK_true, ifK_false, e_nil, e_set, setK_var, e_expr, e_ret, e_retN, e_brk, e_cnt, e_for, forK_mk, e_while, e_cst, e_var, e_anil, e_cons, consK_ap, e_n, e_op1, e_op2, op2K_ap, e_and, andK_true, andK_false, e_or, orK_true, orK_false, e_not, noV_ap, e_ite, iteK_true, iteK_false, e_call, e_callK, e_sl, slK_ap, e_oNone, e_oSome, e_bm, bmK_join, bmK_upper, e_tTru, e_tBoo, e_tAn, anK_true, anK_false, e_tO, oK_true, oK_false, e_tNo, noK_ap, pBool_bl, pTru_bl, e_iVal, e_iRng, e_lc, bi_len, bi_int, pLen_kl, pLen_tup, pAdd_int, pSub_int, pNeg_int, pLt_int, pGt_int, pLe_int, pGe_int, pEq_int, pNe_int, pEq_str, pNe_str, pEq_bl, pNe_bl, pIn_char, pNotIn_char, pSl_tup, src_str', src_kl', src_tup', Rs.bind_ok, Rs.bind_bad, Rs.st_ok, RS.seq_next, RS.seq_ret, RS.seq_brk, RS.seq_cnt, RS.out_next, RS.out_ret, RS.out_exc, List.getElem?_cons_zero, List.getElem?_cons_succ, List.set_cons_zero, List.set_cons_succ, wipe', Bool.not_true, Bool.not_false]
  rw [pAdd_str (by omega)]
  obtain ⟨lg, elg⟩ : ∃ lg, lg = g' ++ q := ⟨_, rfl⟩
  have hlg : lg.length ≤ 28 := by rw [elg, List.length_append]; omega
  rw [← elg]
  simp only [e_seq, e_if, ifK_true, ifK_false, e_nil, e_set, setK_var, e_expr, e_ret, e_retN, e_brk, e_cnt, e_for, forK_mk, e_while, e_cst, e_var, e_anil, e_cons, consK_ap, e_n, e_op1, e_op2, op2K_ap, e_and, andK_true, andK_false, e_or, orK_true, orK_false, e_not, noV_ap, e_ite, iteK_true, iteK_false, e_call, e_callK, e_sl, slK_ap, e_oNone, e_oSome, e_bm, bmK_join, bmK_upper, e_tTru, e_tBoo, e_tAn, anK_true, anK_false, e_tO, oK_true, oK_false, e_tNo, noK_ap, pBool_bl, pTru_bl, e_iVal, e_iRng, e_lc, bi_len, bi_int, pLen_kl, pLen_tup, pAdd_int, pSub_int, pNeg_int, pLt_int, pGt_int, pLe_int, pGe_int, pEq_int, pNe_int, pEq_str, pNe_str, pEq_bl, pNe_bl, pIn_char, pNotIn_char, pSl_tup, src_str', src_kl', src_tup', Rs.bind_ok, Rs.bind_bad, Rs.st_ok, RS.seq_next, RS.seq_ret, RS.seq_brk, RS.seq_cnt, RS.out_next, RS.out_ret, RS.out_exc, List.getElem?_cons_zero, List.getElem?_cons_succ, List.set_cons_zero, List.set_cons_succ, wipe', Bool.not_true, Bool.not_false]
  rw [srcR_1 (by omega)]
  simp only [e_seq, e_if, ifK_true, ifK_false, e_nil, e_set, setK_var, e_expr, e_ret, e_retN, e_brk, e_cnt, e_for, forK_mk, e_while, e_cst, e_var, e_anil, e_cons, consK_ap, e_n, e_op1, e_op2, op2K_ap, e_and, andK_true, andK_false, e_or, orK_true, orK_false, e_not, noV_ap, e_ite, iteK_true, iteK_false, e_call, e_callK, e_sl, slK_ap, e_oNone, e_oSome, e_bm, bmK_join, bmK_upper, e_tTru, e_tBoo, e_tAn, anK_true, anK_false, e_tO, oK_true, oK_false, e_tNo, noK_ap, pBool_bl, pTru_bl, e_iVal, e_iRng, e_lc, bi_len, bi_int, pLen_kl, pLen_tup, pAdd_int, pSub_int, pNeg_int, pLt_int, pGt_int, pLe_int, pGe_int, pEq_int, pNe_int, pEq_str, pNe_str, pEq_bl, pNe_bl, pIn_char, pNotIn_char, pSl_tup, src_str', src_kl', src_tup', Rs.bind_ok, Rs.bind_bad, Rs.st_ok, RS.seq_next, RS.seq_ret, RS.seq_brk, RS.seq_cnt, RS.out_next, RS.out_ret, RS.out_exc, List.getElem?_cons_zero, List.getElem?_cons_succ, List.set_cons_zero, List.set_cons_succ, wipe', Bool.not_true, Bool.not_false]
  obtain ⟨f, hf⟩ := Classical.axiomOfChoice (r := fun k ch => callF (fbOf tab) (n + 1) 5 [.int k] h2 = .ok (.str [ch]) h2) (fun k => sign_run n k _)
  rw [rngL_I, comp_strs (rngI 0 95) (fun k => cut g' none (some j) ++ [f k] ++ cut g' (some j) none) rfl (fun d _ => by
    have := hcut none (some j)
    have := hcut (some j) none
    simp only [e_seq, e_if, ifK_true, ifK_false, e_nil, e_set, setK_var, e_expr, e_ret, e_retN, e_brk, e_cnt, e_for, forK_mk, e_while, e_cst, e_var, e_anil, e_cons, consK_ap, e_n, e_op1, e_op2, op2K_ap, e_and, andK_true, andK_false, e_or, orK_true, orK_false, e_not, noV_ap, e_ite, iteK_true, iteK_false, e_call, e_callK, e_sl, slK_ap, e_oNone, e_oSome, e_bm, bmK_join, bmK_upper, e_tTru, e_tBoo, e_tAn, anK_true, anK_false, e_tO, oK_true, oK_false, e_tNo, noK_ap, pBool_bl, pTru_bl, e_iVal, e_iRng, e_lc, bi_len, bi_int, pLen_kl, pLen_tup, pAdd_int, pSub_int, pNeg_int, pLt_int, pGt_int, pLe_int, pGe_int, pEq_int, pNe_int, pEq_str, pNe_str, pEq_bl, pNe_bl, pIn_char, pNotIn_char, pSl_tup, src_str', src_kl', src_tup', Rs.bind_ok, Rs.bind_bad, Rs.st_ok, RS.seq_next, RS.seq_ret, RS.seq_brk, RS.seq_cnt, RS.out_next, RS.out_ret, RS.out_exc, List.getElem?_cons_zero, List.getElem?_cons_succ, List.set_cons_zero, List.set_cons_succ, wipe', Bool.not_true, Bool.not_false, pSl_str hg, hf]
    rw [pAdd_str (by simp; omega)]
    simp only [e_seq, e_if, ifK_true, ifK_false, e_nil, e_set, setK_var, e_expr, e_ret, e_retN, e_brk, e_cnt, e_for, forK_mk, e_while, e_cst, e_var, e_anil, e_cons, consK_ap, e_n, e_op1, e_op2, op2K_ap, e_and, andK_true, andK_false, e_or, orK_true, orK_false, e_not, noV_ap, e_ite, iteK_true, iteK_false, e_call, e_callK, e_sl, slK_ap, e_oNone, e_oSome, e_bm, bmK_join, bmK_upper, e_tTru, e_tBoo, e_tAn, anK_true, anK_false, e_tO, oK_true, oK_false, e_tNo, noK_ap, pBool_bl, pTru_bl, e_iVal, e_iRng, e_lc, bi_len, bi_int, pLen_kl, pLen_tup, pAdd_int, pSub_int, pNeg_int, pLt_int, pGt_int, pLe_int, pGe_int, pEq_int, pNe_int, pEq_str, pNe_str, pEq_bl, pNe_bl, pIn_char, pNotIn_char, pSl_tup, src_str', src_kl', src_tup', Rs.bind_ok, Rs.bind_bad, Rs.st_ok, RS.seq_next, RS.seq_ret, RS.seq_brk, RS.seq_cnt, RS.out_next, RS.out_ret, RS.out_exc, List.getElem?_cons_zero, List.getElem?_cons_succ, List.set_cons_zero, List.set_cons_succ, wipe', Bool.not_true, Bool.not_false, pSl_str hg]
    rw [pAdd_str (by simp; omega)]) (by rw [rngI_len]; omega)]
  simp only [e_seq, e_if, ifK_true, ifK_false, e_nil, e_set, setK_var, e_expr, e_ret, e_retN, e_brk, e_cnt, e_for, forK_mk, e_while, e_cst, e_var, e_anil, e_cons, consK_ap, e_n, e_op1, e_op2, op2K_ap, e_and, andK_true, andK_false, e_or, orK_true, orK_false, e_not, noV_ap, e_ite, iteK_true, iteK_false, e_call, e_callK, e_sl, slK_ap, e_oNone, e_oSome, e_bm, bmK_join, bmK_upper, e_tTru, e_tBoo, e_tAn, anK_true, anK_false, e_tO, oK_true, oK_false, e_tNo, noK_ap, pBool_bl, pTru_bl, e_iVal, e_iRng, e_lc, bi_len, bi_int, pLen_kl, pLen_tup, pAdd_int, pSub_int, pNeg_int, pLt_int, pGt_int, pLe_int, pGe_int, pEq_int, pNe_int, pEq_str, pNe_str, pEq_bl, pNe_bl, pIn_char, pNotIn_char, pSl_tup, src_str', src_kl', src_tup', Rs.bind_ok, Rs.bind_bad, Rs.st_ok, RS.seq_next, RS.seq_ret, RS.seq_brk, RS.seq_cnt, RS.out_next, RS.out_ret, RS.out_exc, List.getElem?_cons_zero, List.getElem?_cons_succ, List.set_cons_zero, List.set_cons_succ, wipe', Bool.not_true, Bool.not_false, pSl_str (show lg.length ≤ PySem.sizeLine by omega)]
  rw [pLst_run (by simp; omega)]
  simp only [e_seq, e_if, ifK_true, ifK_false, e_nil, e_set, setK_var, e_expr, e_ret, e_retN, e_brk, e_cnt, e_for, forK_mk, e_while, e_cst, e_var, e_anil, e_cons, consK_ap, e_n, e_op1, e_op2, op2K_ap, e_and, andK_true, andK_false, e_or, orK_true, orK_false, e_not, noV_ap, e_ite, iteK_true, iteK_false, e_call, e_callK, e_sl, slK_ap, e_oNone, e_oSome, e_bm, bmK_join, bmK_upper, e_tTru, e_tBoo, e_tAn, anK_true, anK_false, e_tO, oK_true, oK_false, e_tNo, noK_ap, pBool_bl, pTru_bl, e_iVal, e_iRng, e_lc, bi_len, bi_int, pLen_kl, pLen_tup, pAdd_int, pSub_int, pNeg_int, pLt_int, pGt_int, pLe_int, pGe_int, pEq_int, pNe_int, pEq_str, pNe_str, pEq_bl, pNe_bl, pIn_char, pNotIn_char, pSl_tup, src_str', src_kl', src_tup', Rs.bind_ok, Rs.bind_bad, Rs.st_ok, RS.seq_next, RS.seq_ret, RS.seq_brk, RS.seq_cnt, RS.out_next, RS.out_ret, RS.out_exc, List.getElem?_cons_zero, List.getElem?_cons_succ, List.set_cons_zero, List.set_cons_succ, wipe', Bool.not_true, Bool.not_false]
  rw [pAdd_lst (get_app _ (get_new _)) (get_new _) (by rw [List.length_map, List.length_map, rngI_len]; simp; omega)]
  simp only [e_seq, e_if, ifK_true, ifK_false, e_nil, e_set, setK_var, e_expr, e_ret, e_retN, e_brk, e_cnt, e_for, forK_mk, e_while, e_cst, e_var, e_anil, e_cons, consK_ap, e_n, e_op1, e_op2, op2K_ap, e_and, andK_true, andK_false, e_or, orK_true, orK_false, e_not, noV_ap, e_ite, iteK_true, iteK_false, e_call, e_callK, e_sl, slK_ap, e_oNone, e_oSome, e_bm, bmK_join, bmK_upper, e_tTru, e_tBoo, e_tAn, anK_true, anK_false, e_tO, oK_true, oK_false, e_tNo, noK_ap, pBool_bl, pTru_bl, e_iVal, e_iRng, e_lc, bi_len, bi_int, pLen_kl, pLen_tup, pAdd_int, pSub_int, pNeg_int, pLt_int, pGt_int, pLe_int, pGe_int, pEq_int, pNe_int, pEq_str, pNe_str, pEq_bl, pNe_bl, pIn_char, pNotIn_char, pSl_tup, src_str', src_kl', src_tup', Rs.bind_ok, Rs.bind_bad, Rs.st_ok, RS.seq_next, RS.seq_ret, RS.seq_brk, RS.seq_cnt, RS.out_next, RS.out_ret, RS.out_exc, List.getElem?_cons_zero, List.getElem?_cons_succ, List.set_cons_zero, List.set_cons_succ, wipe', Bool.not_true, Bool.not_false]
  refine fin_lst et2 (ss := (rngI 0 95).map (fun k => cut g' none (some j) ++ [f k] ++ cut g' (some j) none) ++ [cut lg none (some 8), lg]) (by rw [List.map_append]; rfl) ?_ ?_
  · intro s hs
    rcases List.mem_append.mp hs with hs | hs
    · obtain ⟨k, _, rfl⟩ := List.mem_map.mp hs
      have := hcut none (some j)
      have := hcut (some j) none
      simp; omega
    · simp at hs
      rcases hs with rfl | rfl
      · exact Nat.le_trans (cut_len ..) (by omega)
      · omega
  · rw [List.length_append, List.length_map, rngI_len]
    simp
end Lw

set_option maxRecDepth 100000
set_option maxHeartbeats 1000000
noncomputable section
namespace Lw
open Pm PySem L2
theorem law_runs : LawRuns tab 40 13 := by
  intro ns hns
  have hsz : PySem.sizeLine = 16777216 := PySem.sizeLine_eq
  rw [cl_law]
  obtain ⟨z0, q0⟩ := cell_run 38 ns 0 [] (by omega)
  simp only [b_law, e_seq, e_if, ifK_true, ifK_false, e_nil, e_set, setK_var, e_expr, e_ret, e_retN, e_brk, e_cnt, e_for, forK_mk, e_while, e_cst, e_var, e_anil, e_cons, consK_ap, e_n, e_op1, e_op2, op2K_ap, e_and, andK_true, andK_false, e_or, orK_true, orK_false, e_not, noV_ap, e_ite, iteK_true, iteK_false, e_call, e_callK, e_sl, slK_ap, e_oNone, e_oSome, e_bm, bmK_join, bmK_upper, e_tTru, e_tBoo, e_tAn, anK_true, anK_false, e_tO, oK_true, oK_false, e_tNo, noK_ap, pBool_bl, pTru_bl, e_iVal, e_iRng, e_lc, bi_len, bi_int, pLen_kl, pLen_tup, pAdd_int, pSub_int, pNeg_int, pLt_int, pGt_int, pLe_int, pGe_int, pEq_int, pNe_int, pEq_str, pNe_str, pEq_bl, pNe_bl, pIn_char, pNotIn_char, pSl_tup, src_str', src_kl', src_tup', Rs.bind_ok, Rs.bind_bad, Rs.st_ok, RS.seq_next, RS.seq_ret, RS.seq_brk, RS.seq_cnt, RS.out_next, RS.out_ret, RS.out_exc, List.getElem?_cons_zero, List.getElem?_cons_succ, List.set_cons_zero, List.set_cons_succ, wipe', Bool.not_true, Bool.not_false, q0]
  rw [pMod_int (by omega)]
  obtain ⟨N, eN⟩ : ∃ N, N = 2 + z0 % 40 := ⟨_, rfl⟩
  have hN : 2 ≤ N ∧ N ≤ 41 := by omega
  simp only [e_seq, e_if, ifK_true, ifK_false, e_nil, e_set, setK_var, e_expr, e_ret, e_retN, e_brk, e_cnt, e_for, forK_mk, e_while, e_cst, e_var, e_anil, e_cons, consK_ap, e_n, e_op1, e_op2, op2K_ap, e_and, andK_true, andK_false, e_or, orK_true, orK_false, e_not, noV_ap, e_ite, iteK_true, iteK_false, e_call, e_callK, e_sl, slK_ap, e_oNone, e_oSome, e_bm, bmK_join, bmK_upper, e_tTru, e_tBoo, e_tAn, anK_true, anK_false, e_tO, oK_true, oK_false, e_tNo, noK_ap, pBool_bl, pTru_bl, e_iVal, e_iRng, e_lc, bi_len, bi_int, pLen_kl, pLen_tup, pAdd_int, pSub_int, pNeg_int, pLt_int, pGt_int, pLe_int, pGe_int, pEq_int, pNe_int, pEq_str, pNe_str, pEq_bl, pNe_bl, pIn_char, pNotIn_char, pSl_tup, src_str', src_kl', src_tup', Rs.bind_ok, Rs.bind_bad, Rs.st_ok, RS.seq_next, RS.seq_ret, RS.seq_brk, RS.seq_cnt, RS.out_next, RS.out_ret, RS.out_exc, List.getElem?_cons_zero, List.getElem?_cons_succ, List.set_cons_zero, List.set_cons_succ, wipe', Bool.not_true, Bool.not_false]
  rw [← eN, srcR_2 (by omega)]
  simp only [e_seq, e_if, ifK_true, ifK_false, e_nil, e_set, setK_var, e_expr, e_ret, e_retN, e_brk, e_cnt, e_for, forK_mk, e_while, e_cst, e_var, e_anil, e_cons, consK_ap, e_n, e_op1, e_op2, op2K_ap, e_and, andK_true, andK_false, e_or, orK_true, orK_false, e_not, noV_ap, e_ite, iteK_true, iteK_false, e_call, e_callK, e_sl, slK_ap, e_oNone, e_oSome, e_bm, bmK_join, bmK_upper, e_tTru, e_tBoo, e_tAn, anK_true, anK_false, e_tO, oK_true, oK_false, e_tNo, noK_ap, pBool_bl, pTru_bl, e_iVal, e_iRng, e_lc, bi_len, bi_int, pLen_kl, pLen_tup, pAdd_int, pSub_int, pNeg_int, pLt_int, pGt_int, pLe_int, pGe_int, pEq_int, pNe_int, pEq_str, pNe_str, pEq_bl, pNe_bl, pIn_char, pNotIn_char, pSl_tup, src_str', src_kl', src_tup', Rs.bind_ok, Rs.bind_bad, Rs.st_ok, RS.seq_next, RS.seq_ret, RS.seq_brk, RS.seq_cnt, RS.out_next, RS.out_ret, RS.out_exc, List.getElem?_cons_zero, List.getElem?_cons_succ, List.set_cons_zero, List.set_cons_succ, wipe', Bool.not_true, Bool.not_false]
  obtain ⟨ys, h1, e1, ss, k, ey, hs, ek, k1, k2, k3⟩ := lcL_ind (st := stands none (rngL 1 N)) (g := gVar 3) (ρ := wipe' [some (.kl (ns.map D.int)), none, none, none] [3]) (t := tYesS (callF (fbOf tab) 39)) (e := sCall 7 (sCons (sCall 3 (sCons (sVar 0) (sCons (sVar 3) (sNil)))) (sNil)) (callF (fbOf tab) 39))
    (fun xs acc h' => ∃ (ss : List (List Char)) (k : Int), acc = ss.map D.str ∧ (∀ s ∈ ss, s.length ≤ 2000) ∧ xs = rngL k N ∧ 1 ≤ k ∧ k ≤ N ∧ k = 1 + ss.length) (fun _ _ _ _ => rfl) (by
      rintro x xs acc h' ⟨ss, k, rfl, hs, ex, k1, k2, k3⟩
      by_cases hk : k < N
      · rw [rngL_cons hk] at ex
        cases ex
        obtain ⟨z, q⟩ := cell_run 38 ns k h' (by omega)
        obtain ⟨s, t2, hs2, q2⟩ := text_run 37 z h'
        refine ⟨_, rfl, .inl ⟨_, .str s, h' ++ t2, rfl, ?_, ss ++ [s], k + 1, by simp, ?_, rfl, by omega, by omega, by simp; omega⟩⟩
        · simp only [e_seq, e_if, ifK_true, ifK_false, e_nil, e_set, setK_var, e_expr, e_ret, e_retN, e_brk, e_cnt, e_for, forK_mk, e_while, e_cst, e_var, e_anil, e_cons, consK_ap, e_n, e_op1, e_op2, op2K_ap, e_and, andK_true, andK_false, e_or, orK_true, orK_false, e_not, noV_ap, e_ite, iteK_true, iteK_false, e_call, e_callK, e_sl, slK_ap, e_oNone, e_oSome, e_bm, bmK_join, bmK_upper, e_tTru, e_tBoo, e_tAn, anK_true, anK_false, e_tO, oK_true, oK_false, e_tNo, noK_ap, pBool_bl, pTru_bl, e_iVal, e_iRng, e_lc, bi_len, bi_int, pLen_kl, pLen_tup, pAdd_int, pSub_int, pNeg_int, pLt_int, pGt_int, pLe_int, pGe_int, pEq_int, pNe_int, pEq_str, pNe_str, pEq_bl, pNe_bl, pIn_char, pNotIn_char, pSl_tup, src_str', src_kl', src_tup', Rs.bind_ok, Rs.bind_bad, Rs.st_ok, RS.seq_next, RS.seq_ret, RS.seq_brk, RS.seq_cnt, RS.out_next, RS.out_ret, RS.out_exc, List.getElem?_cons_zero, List.getElem?_cons_succ, List.set_cons_zero, List.set_cons_succ, wipe', Bool.not_true, Bool.not_false, q, q2]
        · intro s' hs'
          rcases List.mem_append.mp hs' with h | h
          · exact hs s' h
          · simp at h; rw [h]; exact hs2
      · rw [rngL_nil (by omega)] at ex
        cases ex) (rngL 1 N) [] [] ⟨[], 1, rfl, by simp, rfl, by omega, by omega, by simp⟩
  rw [List.nil_append] at ey
  subst ey
  have hk : N ≤ k := by
    by_cases h : k < N
    · rw [rngL_cons h] at ek; cases ek
    · omega
  cases ss with
  | nil => simp at k3; omega
  | cons s0 ss =>
  have hlen : (s0 :: ss).length ≤ 40 := by omega
  rw [lcK_ok e1 (by rw [List.length_map]; omega)]
  have hs0 := hs s0 (by simp)
  have i0 : atI ((s0 :: ss).map D.str) 0 = some (.str s0) := atI_head _ _
  simp only [e_seq, e_if, ifK_true, ifK_false, e_nil, e_set, setK_var, e_expr, e_ret, e_retN, e_brk, e_cnt, e_for, forK_mk, e_while, e_cst, e_var, e_anil, e_cons, consK_ap, e_n, e_op1, e_op2, op2K_ap, e_and, andK_true, andK_false, e_or, orK_true, orK_false, e_not, noV_ap, e_ite, iteK_true, iteK_false, e_call, e_callK, e_sl, slK_ap, e_oNone, e_oSome, e_bm, bmK_join, bmK_upper, e_tTru, e_tBoo, e_tAn, anK_true, anK_false, e_tO, oK_true, oK_false, e_tNo, noK_ap, pBool_bl, pTru_bl, e_iVal, e_iRng, e_lc, bi_len, bi_int, pLen_kl, pLen_tup, pAdd_int, pSub_int, pNeg_int, pLt_int, pGt_int, pLe_int, pGe_int, pEq_int, pNe_int, pEq_str, pNe_str, pEq_bl, pNe_bl, pIn_char, pNotIn_char, pSl_tup, src_str', src_kl', src_tup', Rs.bind_ok, Rs.bind_bad, Rs.st_ok, RS.seq_next, RS.seq_ret, RS.seq_brk, RS.seq_cnt, RS.out_next, RS.out_ret, RS.out_exc, List.getElem?_cons_zero, List.getElem?_cons_succ, List.set_cons_zero, List.set_cons_succ, wipe', Bool.not_true, Bool.not_false, pIx_ref (get_new _) i0, pSl_str (show s0.length ≤ PySem.sizeLine by omega)]
  obtain ⟨L1, eL1⟩ : ∃ L1, L1 = s0 :: ss := ⟨_, rfl⟩
  rw [← eL1] at hs hlen ⊢
  rw [pLst_run (by simp; omega)]
  simp only [e_seq, e_if, ifK_true, ifK_false, e_nil, e_set, setK_var, e_expr, e_ret, e_retN, e_brk, e_cnt, e_for, forK_mk, e_while, e_cst, e_var, e_anil, e_cons, consK_ap, e_n, e_op1, e_op2, op2K_ap, e_and, andK_true, andK_false, e_or, orK_true, orK_false, e_not, noV_ap, e_ite, iteK_true, iteK_false, e_call, e_callK, e_sl, slK_ap, e_oNone, e_oSome, e_bm, bmK_join, bmK_upper, e_tTru, e_tBoo, e_tAn, anK_true, anK_false, e_tO, oK_true, oK_false, e_tNo, noK_ap, pBool_bl, pTru_bl, e_iVal, e_iRng, e_lc, bi_len, bi_int, pLen_kl, pLen_tup, pAdd_int, pSub_int, pNeg_int, pLt_int, pGt_int, pLe_int, pGe_int, pEq_int, pNe_int, pEq_str, pNe_str, pEq_bl, pNe_bl, pIn_char, pNotIn_char, pSl_tup, src_str', src_kl', src_tup', Rs.bind_ok, Rs.bind_bad, Rs.st_ok, RS.seq_next, RS.seq_ret, RS.seq_brk, RS.seq_cnt, RS.out_next, RS.out_ret, RS.out_exc, List.getElem?_cons_zero, List.getElem?_cons_succ, List.set_cons_zero, List.set_cons_succ, wipe', Bool.not_true, Bool.not_false]
  rw [pAdd_lst (get_app _ (get_new _)) (get_new _) (by rw [List.length_map]; simp; omega)]
  obtain ⟨s1, es1⟩ : ∃ s1, s1 = cut s0 none (some 1) := ⟨_, rfl⟩
  have hs1 : s1.length ≤ 2000 := by rw [es1]; exact Nat.le_trans (cut_len ..) hs0
  rw [← es1]
  obtain ⟨h2, eh2⟩ : ∃ h2, h2 = h1 ++ [AO.lst (L1.map D.str)] ++ [AO.lst [D.str [], D.str s1]] := ⟨_, rfl⟩
  rw [← eh2]
  have eA : L1.map D.str ++ [D.str [], D.str s1] = (L1 ++ [[], s1]).map D.str := by simp
  rw [eA]
  obtain ⟨L2, eL2⟩ : ∃ L2, L2 = L1 ++ [[], s1] := ⟨_, rfl⟩
  have hs2 : ∀ s ∈ L2, s.length ≤ 2000 := by
    rw [eL2]
    intro s h
    rcases List.mem_append.mp h with h | h
    · exact hs s h
    · simp at h
      rcases h with rfl | rfl
      · simp
      · exact hs1
  have hl2 : L2.length ≤ 42 := by rw [eL2]; simp; omega
  rw [← eL2]
  obtain ⟨t3, e3, g3⟩ := words_run 38 (h2 ++ [AO.lst (L2.map D.str)])
  simp only [e_seq, e_if, ifK_true, ifK_false, e_nil, e_set, setK_var, e_expr, e_ret, e_retN, e_brk, e_cnt, e_for, forK_mk, e_while, e_cst, e_var, e_anil, e_cons, consK_ap, e_n, e_op1, e_op2, op2K_ap, e_and, andK_true, andK_false, e_or, orK_true, orK_false, e_not, noV_ap, e_ite, iteK_true, iteK_false, e_call, e_callK, e_sl, slK_ap, e_oNone, e_oSome, e_bm, bmK_join, bmK_upper, e_tTru, e_tBoo, e_tAn, anK_true, anK_false, e_tO, oK_true, oK_false, e_tNo, noK_ap, pBool_bl, pTru_bl, e_iVal, e_iRng, e_lc, bi_len, bi_int, pLen_kl, pLen_tup, pAdd_int, pSub_int, pNeg_int, pLt_int, pGt_int, pLe_int, pGe_int, pEq_int, pNe_int, pEq_str, pNe_str, pEq_bl, pNe_bl, pIn_char, pNotIn_char, pSl_tup, src_str', src_kl', src_tup', Rs.bind_ok, Rs.bind_bad, Rs.st_ok, RS.seq_next, RS.seq_ret, RS.seq_brk, RS.seq_cnt, RS.out_next, RS.out_ret, RS.out_exc, List.getElem?_cons_zero, List.getElem?_cons_succ, List.set_cons_zero, List.set_cons_succ, wipe', Bool.not_true, Bool.not_false, e3]
  rw [pAdd_lst (get_app _ (get_new _)) g3 (by rw [List.length_map, List.length_map]; show _ + 25 ≤ _; omega)]
  obtain ⟨h4, eh4⟩ : ∃ h4, h4 = h2 ++ [AO.lst (L2.map D.str)] ++ t3 := ⟨_, rfl⟩
  rw [← eh4, ← List.map_append]
  obtain ⟨L3, eL3⟩ : ∃ L3, L3 = L2 ++ (words ++ words2) := ⟨_, rfl⟩
  have hs3 : ∀ s ∈ L3, s.length ≤ 2000 := by
    rw [eL3]
    intro s h
    rcases List.mem_append.mp h with h | h
    · exact hs2 s h
    · exact Nat.le_trans (ascii_words s h).2.2 (by omega)
  have hl3 : L3.length ≤ 67 := by rw [eL3, List.length_append]; show _ + 25 ≤ _; omega
  rw [← eL3]
  obtain ⟨z4, q4⟩ := cell_run 38 ns 41 (h4 ++ [AO.lst (L3.map D.str)]) (by omega)
  obtain ⟨ws, m5, t5, w5, wl5, q5, g5⟩ := each_sign_run 37 z4 (h4 ++ [AO.lst (L3.map D.str)])
  simp only [e_seq, e_if, ifK_true, ifK_false, e_nil, e_set, setK_var, e_expr, e_ret, e_retN, e_brk, e_cnt, e_for, forK_mk, e_while, e_cst, e_var, e_anil, e_cons, consK_ap, e_n, e_op1, e_op2, op2K_ap, e_and, andK_true, andK_false, e_or, orK_true, orK_false, e_not, noV_ap, e_ite, iteK_true, iteK_false, e_call, e_callK, e_sl, slK_ap, e_oNone, e_oSome, e_bm, bmK_join, bmK_upper, e_tTru, e_tBoo, e_tAn, anK_true, anK_false, e_tO, oK_true, oK_false, e_tNo, noK_ap, pBool_bl, pTru_bl, e_iVal, e_iRng, e_lc, bi_len, bi_int, pLen_kl, pLen_tup, pAdd_int, pSub_int, pNeg_int, pLt_int, pGt_int, pLe_int, pGe_int, pEq_int, pNe_int, pEq_str, pNe_str, pEq_bl, pNe_bl, pIn_char, pNotIn_char, pSl_tup, src_str', src_kl', src_tup', Rs.bind_ok, Rs.bind_bad, Rs.st_ok, RS.seq_next, RS.seq_ret, RS.seq_brk, RS.seq_cnt, RS.out_next, RS.out_ret, RS.out_exc, List.getElem?_cons_zero, List.getElem?_cons_succ, List.set_cons_zero, List.set_cons_succ, wipe', Bool.not_true, Bool.not_false, q4, q5]
  rw [pAdd_lst (get_app _ (get_new _)) g5 (by rw [List.length_map, List.length_map]; omega)]
  rw [← List.map_append]
  obtain ⟨h6, eh6⟩ : ∃ h6, h6 = h4 ++ [AO.lst (L3.map D.str)] ++ t5 := ⟨_, rfl⟩
  rw [← eh6]
  obtain ⟨L4, eL4⟩ : ∃ L4, L4 = L3 ++ ws := ⟨_, rfl⟩
  have hs4 : ∀ s ∈ L4, s.length ≤ 2000 := by
    rw [eL4]
    intro s h
    rcases List.mem_append.mp h with h | h
    · exact hs3 s h
    · exact w5 s h
  have hl4 : L4.length ≤ 164 := by rw [eL4, List.length_append]; omega
  rw [← eL4]
  simp only [e_seq, e_if, ifK_true, ifK_false, e_nil, e_set, setK_var, e_expr, e_ret, e_retN, e_brk, e_cnt, e_for, forK_mk, e_while, e_cst, e_var, e_anil, e_cons, consK_ap, e_n, e_op1, e_op2, op2K_ap, e_and, andK_true, andK_false, e_or, orK_true, orK_false, e_not, noV_ap, e_ite, iteK_true, iteK_false, e_call, e_callK, e_sl, slK_ap, e_oNone, e_oSome, e_bm, bmK_join, bmK_upper, e_tTru, e_tBoo, e_tAn, anK_true, anK_false, e_tO, oK_true, oK_false, e_tNo, noK_ap, pBool_bl, pTru_bl, e_iVal, e_iRng, e_lc, bi_len, bi_int, pLen_kl, pLen_tup, pAdd_int, pSub_int, pNeg_int, pLt_int, pGt_int, pLe_int, pGe_int, pEq_int, pNe_int, pEq_str, pNe_str, pEq_bl, pNe_bl, pIn_char, pNotIn_char, pSl_tup, src_str', src_kl', src_tup', Rs.bind_ok, Rs.bind_bad, Rs.st_ok, RS.seq_next, RS.seq_ret, RS.seq_brk, RS.seq_cnt, RS.out_next, RS.out_ret, RS.out_exc, List.getElem?_cons_zero, List.getElem?_cons_succ, List.set_cons_zero, List.set_cons_succ, wipe', Bool.not_true, Bool.not_false]
  rw [pRev_ref (get_new _)]
  simp only [e_seq, e_if, ifK_true, ifK_false, e_nil, e_set, setK_var, e_expr, e_ret, e_retN, e_brk, e_cnt, e_for, forK_mk, e_while, e_cst, e_var, e_anil, e_cons, consK_ap, e_n, e_op1, e_op2, op2K_ap, e_and, andK_true, andK_false, e_or, orK_true, orK_false, e_not, noV_ap, e_ite, iteK_true, iteK_false, e_call, e_callK, e_sl, slK_ap, e_oNone, e_oSome, e_bm, bmK_join, bmK_upper, e_tTru, e_tBoo, e_tAn, anK_true, anK_false, e_tO, oK_true, oK_false, e_tNo, noK_ap, pBool_bl, pTru_bl, e_iVal, e_iRng, e_lc, bi_len, bi_int, pLen_kl, pLen_tup, pAdd_int, pSub_int, pNeg_int, pLt_int, pGt_int, pLe_int, pGe_int, pEq_int, pNe_int, pEq_str, pNe_str, pEq_bl, pNe_bl, pIn_char, pNotIn_char, pSl_tup, src_str', src_kl', src_tup', Rs.bind_ok, Rs.bind_bad, Rs.st_ok, RS.seq_next, RS.seq_ret, RS.seq_brk, RS.seq_cnt, RS.out_next, RS.out_ret, RS.out_exc, List.getElem?_cons_zero, List.getElem?_cons_succ, List.set_cons_zero, List.set_cons_succ, wipe', Bool.not_true, Bool.not_false]
  rw [pAdd_lst (get_app _ (get_new _)) (get_new _) (by rw [List.length_reverse, List.length_map]; omega)]
  simp only [e_seq, e_if, ifK_true, ifK_false, e_nil, e_set, setK_var, e_expr, e_ret, e_retN, e_brk, e_cnt, e_for, forK_mk, e_while, e_cst, e_var, e_anil, e_cons, consK_ap, e_n, e_op1, e_op2, op2K_ap, e_and, andK_true, andK_false, e_or, orK_true, orK_false, e_not, noV_ap, e_ite, iteK_true, iteK_false, e_call, e_callK, e_sl, slK_ap, e_oNone, e_oSome, e_bm, bmK_join, bmK_upper, e_tTru, e_tBoo, e_tAn, anK_true, anK_false, e_tO, oK_true, oK_false, e_tNo, noK_ap, pBool_bl, pTru_bl, e_iVal, e_iRng, e_lc, bi_len, bi_int, pLen_kl, pLen_tup, pAdd_int, pSub_int, pNeg_int, pLt_int, pGt_int, pLe_int, pGe_int, pEq_int, pNe_int, pEq_str, pNe_str, pEq_bl, pNe_bl, pIn_char, pNotIn_char, pSl_tup, src_str', src_kl', src_tup', Rs.bind_ok, Rs.bind_bad, Rs.st_ok, RS.seq_next, RS.seq_ret, RS.seq_brk, RS.seq_cnt, RS.out_next, RS.out_ret, RS.out_exc, List.getElem?_cons_zero, List.getElem?_cons_succ, List.set_cons_zero, List.set_cons_succ, wipe', Bool.not_true, Bool.not_false]
  rw [src_ref (get_new _)]
  simp only [e_seq, e_if, ifK_true, ifK_false, e_nil, e_set, setK_var, e_expr, e_ret, e_retN, e_brk, e_cnt, e_for, forK_mk, e_while, e_cst, e_var, e_anil, e_cons, consK_ap, e_n, e_op1, e_op2, op2K_ap, e_and, andK_true, andK_false, e_or, orK_true, orK_false, e_not, noV_ap, e_ite, iteK_true, iteK_false, e_call, e_callK, e_sl, slK_ap, e_oNone, e_oSome, e_bm, bmK_join, bmK_upper, e_tTru, e_tBoo, e_tAn, anK_true, anK_false, e_tO, oK_true, oK_false, e_tNo, noK_ap, pBool_bl, pTru_bl, e_iVal, e_iRng, e_lc, bi_len, bi_int, pLen_kl, pLen_tup, pAdd_int, pSub_int, pNeg_int, pLt_int, pGt_int, pLe_int, pGe_int, pEq_int, pNe_int, pEq_str, pNe_str, pEq_bl, pNe_bl, pIn_char, pNotIn_char, pSl_tup, src_str', src_kl', src_tup', Rs.bind_ok, Rs.bind_bad, Rs.st_ok, RS.seq_next, RS.seq_ret, RS.seq_brk, RS.seq_cnt, RS.out_next, RS.out_ret, RS.out_exc, List.getElem?_cons_zero, List.getElem?_cons_succ, List.set_cons_zero, List.set_cons_succ, wipe', Bool.not_true, Bool.not_false]
  obtain ⟨h7, eh7⟩ : ∃ h7, h7 = h6 ++ [AO.lst (L4.map D.str)] ++ [AO.lst (L4.map D.str).reverse] := ⟨_, rfl⟩
  rw [← eh7, ← List.map_reverse, ← List.map_append]
  have g7 : (h7 ++ [AO.lst ((L4 ++ L4.reverse).map D.str)])[h7.length]? = some (AO.lst ((L4 ++ L4.reverse).map D.str)) := get_new _
  obtain ⟨h8, eh8⟩ : ∃ h8, h8 = h7 ++ [AO.lst ((L4 ++ L4.reverse).map D.str)] := ⟨_, rfl⟩
  rw [← eh8] at g7 ⊢
  refine forL_ind (fun xs ρ h' => ∃ (todo : List (List Char)) (t : AH) (m : D) (v w : Option D), xs = todo.map D.str ∧ (∀ s ∈ todo, s.length ≤ 2000) ∧ h' = h8 ++ t ∧ ρ = [some (.kl (ns.map D.int)), some m, v, w])
    (fun r => ∃ h', (r.seq _).out = .ok (.bl true) h') ?_ ?_ ?_ _ _ _ ⟨L4 ++ L4.reverse, [], _, none, none, rfl, ?_, (List.append_nil _).symm, rfl⟩
  · rintro xs ρ h' ⟨todo, t, m, v, w, _, _, rfl, _⟩
    exact stands_ref (get_app _ g7)
  · rintro ρ h' ⟨todo, t, m, v, w, _, _, rfl, rfl⟩
    refine ⟨h8 ++ t, ?_⟩
    simp only [e_seq, e_if, ifK_true, ifK_false, e_nil, e_set, setK_var, e_expr, e_ret, e_retN, e_brk, e_cnt, e_for, forK_mk, e_while, e_cst, e_var, e_anil, e_cons, consK_ap, e_n, e_op1, e_op2, op2K_ap, e_and, andK_true, andK_false, e_or, orK_true, orK_false, e_not, noV_ap, e_ite, iteK_true, iteK_false, e_call, e_callK, e_sl, slK_ap, e_oNone, e_oSome, e_bm, bmK_join, bmK_upper, e_tTru, e_tBoo, e_tAn, anK_true, anK_false, e_tO, oK_true, oK_false, e_tNo, noK_ap, pBool_bl, pTru_bl, e_iVal, e_iRng, e_lc, bi_len, bi_int, pLen_kl, pLen_tup, pAdd_int, pSub_int, pNeg_int, pLt_int, pGt_int, pLe_int, pGe_int, pEq_int, pNe_int, pEq_str, pNe_str, pEq_bl, pNe_bl, pIn_char, pNotIn_char, pSl_tup, src_str', src_kl', src_tup', Rs.bind_ok, Rs.bind_bad, Rs.st_ok, RS.seq_next, RS.seq_ret, RS.seq_brk, RS.seq_cnt, RS.out_next, RS.out_ret, RS.out_exc, List.getElem?_cons_zero, List.getElem?_cons_succ, List.set_cons_zero, List.set_cons_succ, wipe', Bool.not_true, Bool.not_false]
  · rintro x xs ρ h' ⟨todo, t, m, v, w, ex, hs, rfl, rfl⟩
    cases todo with
    | nil => cases ex
    | cons s todo =>
      cases ex
      have hl := hs s (by simp)
      obtain ⟨t9, q9⟩ := asked_run 36 s (h8 ++ t) (by omega)
      refine ⟨_, rfl, .inl ⟨_, h8 ++ t ++ t9, .inl ?_, todo, t ++ t9, m, some (.str s), w, rfl, fun s' hs' => hs s' (by simp [hs']), by simp, rfl⟩⟩
      simp only [e_seq, e_if, ifK_true, ifK_false, e_nil, e_set, setK_var, e_expr, e_ret, e_retN, e_brk, e_cnt, e_for, forK_mk, e_while, e_cst, e_var, e_anil, e_cons, consK_ap, e_n, e_op1, e_op2, op2K_ap, e_and, andK_true, andK_false, e_or, orK_true, orK_false, e_not, noV_ap, e_ite, iteK_true, iteK_false, e_call, e_callK, e_sl, slK_ap, e_oNone, e_oSome, e_bm, bmK_join, bmK_upper, e_tTru, e_tBoo, e_tAn, anK_true, anK_false, e_tO, oK_true, oK_false, e_tNo, noK_ap, pBool_bl, pTru_bl, e_iVal, e_iRng, e_lc, bi_len, bi_int, pLen_kl, pLen_tup, pAdd_int, pSub_int, pNeg_int, pLt_int, pGt_int, pLe_int, pGe_int, pEq_int, pNe_int, pEq_str, pNe_str, pEq_bl, pNe_bl, pIn_char, pNotIn_char, pSl_tup, src_str', src_kl', src_tup', Rs.bind_ok, Rs.bind_bad, Rs.st_ok, RS.seq_next, RS.seq_ret, RS.seq_brk, RS.seq_cnt, RS.out_next, RS.out_ret, RS.out_exc, List.getElem?_cons_zero, List.getElem?_cons_succ, List.set_cons_zero, List.set_cons_succ, wipe', Bool.not_true, Bool.not_false, q9]
  · intro s h
    rcases List.mem_append.mp h with h | h
    · exact hs4 s h
    · exact hs4 s (List.mem_reverse.mp h)
end Lw

open PySem PySem.W PyProof.Rows in
set_option maxRecDepth 100000 in
set_option maxHeartbeats 0 in
theorem PySem.Challenge.cw_claimworlds_k01_names_told_holds : PySem.Challenge.rw_claimworlds_k01_names_told.Holds := by
  w_on; o_law; k_head; (case hw => w_witness2)
  k_fill
  refine Lw.walk Lw.law_runs (l := PySem.Challenge.rw_claimworlds_k01_names_told) rfl rfl (fun w h Y => PySem.W.kIn_of Y) ?F
  case F =>
    intro w mg fa h KX G hmg
    refine' Lw.all_mk KX G hmg ?yya0 ?yyl0 ?yyc0 ?yyk0 ?yya1 ?yyl1 ?yyc1 ?yyk1 ?yya2 ?yyl2 ?yyc2 ?yyk2 ?yya3 ?yyl3 ?yyc3 ?yyk3 ?yya4 ?yyl4 ?yyc4 ?yyk4 ?yya5 ?yyl5 ?yyc5 ?yyk5 ?yya6 ?yyl6 ?yyc6 ?yyk6 ?yya7 ?yyl7 ?yyc7 ?yyk7 ?yya8 ?yyl8 ?yyc8 ?yyk8 ?yya9 ?yyl9 ?yyc9 ?yyk9 ?yya10 ?yyl10 ?yyc10 ?yyk10 ?yya11 ?yyl11 ?yyc11 ?yyk11 ?yya12 ?yyl12 ?yyc12 ?yyk12 ?yya13 ?yyl13 ?yyc13 ?yyk13 ?yyg0 ?yye0 ?yyg1 ?yye1 ?yyg2 ?yyg3 ?yye3 ?yyg4 ?yygl4 ?yye4 ?yyz_bool ?yyz_int ?yyz_isinstance ?yyz_len ?yyz_range
    (case yya0 => k_is)
    (case yyl0 => k_is)
    (case yyc0 => k_is)
    (case yyk0 => k_is)
    (case yya1 => k_is)
    (case yyl1 => k_is)
    (case yyc1 => k_is)
    (case yyk1 => k_is)
    (case yya2 => k_is)
    (case yyl2 => k_is)
    (case yyc2 => k_is)
    (case yyk2 => k_is)
    (case yya3 => k_is)
    (case yyl3 => k_is)
    (case yyc3 => k_is)
    (case yyk3 => k_is)
    (case yya4 => k_is)
    (case yyl4 => k_is)
    (case yyc4 => k_is)
    (case yyk4 => k_is)
    (case yya5 => k_is)
    (case yyl5 => k_is)
    (case yyc5 => k_is)
    (case yyk5 => k_is)
    (case yya6 => k_is)
    (case yyl6 => k_is)
    (case yyc6 => k_is)
    (case yyk6 => k_is)
    (case yya7 => k_is)
    (case yyl7 => k_is)
    (case yyc7 => k_is)
    (case yyk7 => k_is)
    (case yya8 => k_is)
    (case yyl8 => k_is)
    (case yyc8 => k_is)
    (case yyk8 => k_is)
    (case yya9 => k_is)
    (case yyl9 => k_is)
    (case yyc9 => k_is)
    (case yyk9 => k_is)
    (case yya10 => k_is)
    (case yyl10 => k_is)
    (case yyc10 => k_is)
    (case yyk10 => k_is)
    (case yya11 => k_is)
    (case yyl11 => k_is)
    (case yyc11 => k_is)
    (case yyk11 => k_is)
    (case yya12 => k_is)
    (case yyl12 => k_is)
    (case yyc12 => k_is)
    (case yyk12 => k_is)
    (case yya13 => k_is)
    (case yyl13 => k_is)
    (case yyc13 => k_is)
    (case yyk13 => k_is)
    (case yyg0 => k_is)
    (case yye0 => decide +kernel)
    (case yyg1 => k_is)
    (case yye1 => decide +kernel)
    (case yyg2 => k_is)
    (case yyg3 => k_is)
    (case yye3 => decide +kernel)
    (case yyg4 => k_is)
    (case yygl4 => k_is)
    (case yye4 => repeat (first | exact Pm.RelC.nil | refine Pm.RelC.str (by decide +kernel) ?_ | refine Pm.RelC.int ?_))
    (case yyz_bool => k_is)
    (case yyz_int => k_is)
    (case yyz_isinstance => k_is)
    (case yyz_len => k_is)
    (case yyz_range => k_is)
