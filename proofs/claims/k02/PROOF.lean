import PyProof.Rows.All
import Wide.All
import OpenK.AllK
import Wide.FinOn
import PyProof.ReprReads
import PyProof.P3Statements
import PyProof.EqLayable
import PyProof.ReprBulk
import PyProof.Rows.Walk
import HandS.ForMost
import HandS.Defaults
import HandS.MakeKwOnly
import HandS.IsInst
import HandS.Style
import HandS.Zip
import HandS.Lambda
import HandS.Exc
import HandS.WordsExc
import HandS.HeadHook4
import PyProof.ReprRoads
import HandS.Head0
import HandS.Head1
import HandS.Head2
import HandS.HeadEnd
import HandS.HeadHook1
import HandS.HeadHook2
import HandS.Iter
import HandS.TupAny
import HandS.ExcInit
import KE.KExcInit
import HandS.ExcField
import HandS.ExcIs
import HandS.SetBool
import HandS.Strs
import HandS.SetFor
import HandS.SortInts
import HandS.FStr
import HandS.RaiseMore
import OpenK.KOps
import HandS.Remove
import HandS.More
import PyProof.CollectIter
import HandS.SetKeys
import HandS.DictComp
import HandS.Deep
import HandS.Conv
import KE.SortData
import HandS.ListItems
import HandS.Text
import HandS.HeadHook3
import KE.GoesMore
import HandS.Rev
import KE.KDictZip
import KE.KItemsList
import KE.DataMinKey
import KE.DataCmp
import PyProof.DictWalks
import HandS.TupMul
import PyProof.StrBlock2
import HandS.ExcValue
import PySem.Challenge.RW_tagmill_k02_families_of_refusals
set_option Elab.async false
set_option linter.all false
set_option maxRecDepth 100000
section
/-! The small language M: values, objects, a heap, results; what each construct does. -/
namespace Mo
open PySem
def eqS (x y : Str) : Bool := x.cps.toList == y.cps.toList
theorem eqS_iff {x y : Str} : eqS x y = true ↔ x = y := by
  unfold eqS
  constructor
  · intro e
    have e := eq_of_beq e
    cases x with
    | mk a =>
      cases y with
      | mk b => exact congrArg Str.mk (Array.ext' e)
  · intro e
    rw [e]
    exact beq_self_eq_true _
def strDec : (x y : Str) → Decidable (x = y) := fun x y => match h : eqS x y with
  | true => .isTrue (eqS_iff.mp h)
  | false => .isFalse fun e => by rw [eqS_iff.mpr e] at h; cases h
abbrev Key := Sum Int Str
def keyDec : (a b : Key) → Decidable (a = b) := fun a b => match a, b with
  | .inl i, .inl j => if h : i = j then .isTrue (by rw [h]) else .isFalse fun e => h (Sum.inl.inj e)
  | .inr x, .inr y => match strDec x y with
    | .isTrue h => .isTrue (by rw [h])
    | .isFalse h => .isFalse fun e => h (Sum.inr.inj e)
  | .inl _, .inr _ => .isFalse fun e => nomatch e
  | .inr _, .inl _ => .isFalse fun e => nomatch e
inductive D where
  | non | bl (b : Bool) | int (i : Int) | str (x : Str) | tup (ds : List D) | kl (ds : List D) | loc (l : Nat) | ty (n : String) | ob (k : Nat)
mutual
def D.dec : (a b : D) → Decidable (a = b)
  | .non, b => match b with
    | .non => .isTrue rfl
    | .bl _ | .int _ | .str _ | .tup _ | .kl _ | .loc _ | .ty _ | .ob _ => .isFalse (fun e => nomatch e)
  | .bl x, b => match b with
    | .bl y => if e : x = y then .isTrue (by rw [e]) else .isFalse (fun q => e (D.bl.inj q))
    | .non | .int _ | .str _ | .tup _ | .kl _ | .loc _ | .ty _ | .ob _ => .isFalse (fun e => nomatch e)
  | .int x, b => match b with
    | .int y => if e : x = y then .isTrue (by rw [e]) else .isFalse (fun q => e (D.int.inj q))
    | .non | .bl _ | .str _ | .tup _ | .kl _ | .loc _ | .ty _ | .ob _ => .isFalse (fun e => nomatch e)
  | .str x, b => match b with
    | .str y => if e : x = y then .isTrue (by rw [e]) else .isFalse (fun q => e (D.str.inj q))
    | .non | .bl _ | .int _ | .tup _ | .kl _ | .loc _ | .ty _ | .ob _ => .isFalse (fun e => nomatch e)
  | .tup x, b => match b with
    | .tup y => match D.decL x y with
      | .isTrue e => .isTrue (by rw [e])
      | .isFalse e => .isFalse (fun q => e (D.tup.inj q))
    | .non | .bl _ | .int _ | .str _ | .kl _ | .loc _ | .ty _ | .ob _ => .isFalse (fun e => nomatch e)
  | .kl x, b => match b with
    | .kl y => match D.decL x y with
      | .isTrue e => .isTrue (by rw [e])
      | .isFalse e => .isFalse (fun q => e (D.kl.inj q))
    | .non | .bl _ | .int _ | .str _ | .tup _ | .loc _ | .ty _ | .ob _ => .isFalse (fun e => nomatch e)
  | .loc x, b => match b with
    | .loc y => if e : x = y then .isTrue (by rw [e]) else .isFalse (fun q => e (D.loc.inj q))
    | .non | .bl _ | .int _ | .str _ | .tup _ | .kl _ | .ty _ | .ob _ => .isFalse (fun e => nomatch e)
  | .ty x, b => match b with
    | .ty y => if e : x = y then .isTrue (by rw [e]) else .isFalse (fun q => e (D.ty.inj q))
    | .non | .bl _ | .int _ | .str _ | .tup _ | .kl _ | .loc _ | .ob _ => .isFalse (fun e => nomatch e)
  | .ob x, b => match b with
    | .ob y => if e : x = y then .isTrue (by rw [e]) else .isFalse (fun q => e (D.ob.inj q))
    | .non | .bl _ | .int _ | .str _ | .tup _ | .kl _ | .loc _ | .ty _ => .isFalse (fun e => nomatch e)
def D.decL : (a b : List D) → Decidable (a = b)
  | [], [] => .isTrue rfl
  | [], _ :: _ => .isFalse (fun e => nomatch e)
  | _ :: _, [] => .isFalse (fun e => nomatch e)
  | x :: xs, y :: ys => match D.dec x y with
    | .isFalse e => .isFalse (fun q => e (List.cons.inj q).1)
    | .isTrue e => match D.decL xs ys with
      | .isTrue e2 => .isTrue (by rw [e, e2])
      | .isFalse e2 => .isFalse (fun q => e2 (List.cons.inj q).2)
end
instance : DecidableEq D := D.dec
inductive O where
  | lst (xs : List D) | dic (kvs : List (Key × D)) | ins (c : Nat) (fs : List (Str × D)) | xd (fs : List (Str × D)) | xc (c m : Nat) | odd | xn (c : Nat) | dt (kvs : List (List Key × D))
  deriving DecidableEq
structure Hm where
  n : Nat
  g : Nat → Option O
/-- nothing yet -/
def Hm.start : Hm := ⟨0, fun _ => none⟩
def Hm.put (h : Hm) (l : Nat) (o : O) : Hm := ⟨h.n, fun k => if k = l then some o else h.g k⟩
def Hm.new (h : Hm) (o : O) : Hm := ⟨h.n + 1, fun k => if k = h.n then some o else h.g k⟩
inductive R (α : Type) where
  | ok (a : α) (h : Hm) | exc (c : Nat) (fs : Nat) (h : Hm) | bad
def R.bind {α β : Type} (r : R α) (f : α → Hm → R β) : R β := match r with
  | .ok a h => f a h
  | .exc c fs h => .exc c fs h
  | .bad => .bad
inductive RS where
  | nx (σ : List (Option D)) (h : Hm) | rt (d : D) (h : Hm) | bk (σ : List (Option D)) (h : Hm) | ct (σ : List (Option D)) (h : Hm)
  | exc (c : Nat) (l : Nat) (σ : List (Option D)) (h : Hm) | bad
def R.stm {α : Type} (r : R α) (σ : List (Option D)) (f : α → Hm → RS) : RS := match r with
  | .ok a h => f a h
  | .exc c fs h => .exc c fs σ h
  | .bad => .bad
/-- nothing may be raised there -/
def R.quiet {α : Type} (r : R α) : R α := match r with
  | .ok a h => .ok a h
  | _ => .bad
abbrev Env := List (Option D)
abbrev ME := Env → Hm → R D
abbrev MA := Env → Hm → R (List D)
abbrev MT := Env → Hm → R Bool
abbrev MS := Env → Hm → RS
abbrev Fn := List D → Hm → R D
structure It where
  xs : List D
  ok : Hm → Bool
abbrev MI := Env → Hm → R It
abbrev MG := D → Env → Hm → R Env
/-- the bound on lengths -/
def SL : Nat := 100000

/-! ### expressions -/
def eV (i : Nat) : ME := fun σ h => match σ[i]? with
  | some (some d) => .ok d h
  | _ => .bad
def eC (d : D) : ME := fun _ h => .ok d h
def eOp (f : D → D → Hm → R D) (a b : ME) : ME := fun σ h => (a σ h).bind fun x h1 => (b σ h1).bind fun y h2 => f x y h2
def eUn (f : D → Hm → R D) (a : ME) : ME := fun σ h => (a σ h).bind fun x h1 => f x h1
def aNil : MA := fun _ h => .ok [] h
def aCons (a : ME) (r : MA) : MA := fun σ h => (a σ h).bind fun x h1 => (r σ h1).bind fun xs h2 => .ok (x :: xs) h2
def ifR {α : Type} (c : Bool) (r : R α) : R α := match c with
  | true => r
  | false => .bad
def eTup (as : MA) : ME := fun σ h => (as σ h).bind fun ds h1 => ifR (decide (ds.length ≤ SL)) (.ok (.tup ds) h1)
def eLst (as : MA) : ME := fun σ h => (as σ h).bind fun ds h1 => ifR (decide (ds.length ≤ SL)) (.ok (.loc h1.n) (h1.new (.lst ds)))
def eIf (t : MT) (a b : ME) : ME := fun σ h => (t σ h).bind fun c h1 => match c with
  | true => a σ h1
  | false => b σ h1
def eAnd (a b : ME) : ME := fun σ h => (a σ h).bind fun x h1 => match x with
  | .bl true => b σ h1
  | .bl false => .ok (.bl false) h1
  | _ => .bad
def eOr (a b : ME) : ME := fun σ h => (a σ h).bind fun x h1 => match x with
  | .bl true => .ok (.bl true) h1
  | .bl false => b σ h1
  | _ => .bad
def eNot (a : ME) : ME := fun σ h => (a σ h).bind fun x h1 => match x with
  | .bl b => .ok (.bl (!b)) h1
  | _ => .bad
/-! ### tests -/
def tB (a : ME) : MT := fun σ h => (a σ h).bind fun x h1 => match x with
  | .bl b => .ok b h1
  | _ => .bad
def tAnd (a b : MT) : MT := fun σ h => (a σ h).bind fun c h1 => match c with
  | true => b σ h1
  | false => .ok false h1
def tOr (a b : MT) : MT := fun σ h => (a σ h).bind fun c h1 => match c with
  | true => .ok true h1
  | false => b σ h1
def tNot (a : MT) : MT := fun σ h => (a σ h).bind fun c h1 => .ok (!c) h1
def tYes : MT := fun _ h => .ok true h
/-! ### what stands in a value -/
def datL (f : D → Option PyData) : List D → Option (List PyData)
  | [] => some []
  | d :: ds => match f d, datL f ds with
    | some p, some ps => some (p :: ps)
    | _, _ => none
/-- the things of a list -/
def Hm.seq (h : Hm) : D → Option (List D)
  | .kl xs => some xs
  | .loc l => match h.g l with
    | some (.lst xs) => some xs
    | _ => none
  | _ => none
def dat : Nat → Hm → D → Option PyData
  | 0, _, _ => none
  | n + 1, h, d => match d with
    | .non => some .none
    | .bl b => some (.bool b)
    | .int i => some (.int i)
    | .str x => match PyData.strOk x with
      | true => some (.str x)
      | false => none
    | .tup ds => (datL (dat n h) ds).map .tuple
    | .kl xs => (datL (dat n h) xs).map .list
    | .loc l => match h.g l with
      | some (.lst xs) => (datL (dat n h) xs).map .list
      | _ => none
    | _ => none
def DEP : Nat := 12
/-! ### operators -/
def opAdd : D → D → Hm → R D
  | .int i, .int j, h => .ok (.int (i + j)) h
  | .str x, .str y, h => ifR (decide (x.length + y.length ≤ SL)) (.ok (.str (x ++ y)) h)
  | .loc a, .loc b, h => match h.g a, h.g b with
    | some (.lst xs), some (.lst ys) => ifR (decide (xs.length + ys.length ≤ SL)) (.ok (.loc h.n) (h.new (.lst (xs ++ ys))))
    | _, _ => .bad
  | _, _, _ => .bad
def opSub : D → D → Hm → R D
  | .int i, .int j, h => .ok (.int (i - j)) h
  | _, _, _ => .bad
def mulOk (i j : Int) : Bool := decide ((-(2 ^ 64) < i ∧ i < 2 ^ 64) ∨ (-(2 ^ 64) < j ∧ j < 2 ^ 64))
def opMul : D → D → Hm → R D
  | .int i, .int j, h => ifR (mulOk i j) (.ok (.int (i * j)) h)
  | .loc a, .int k, h => match h.g a with
    | some (.lst xs) => ifR (decide (-(2 ^ 63) ≤ k ∧ k < 2 ^ 63 ∧ xs.length * k.toNat ≤ SL)) (.ok (.loc h.n) (h.new (.lst (List.replicate k.toNat xs).flatten)))
    | _ => .bad
  | _, _, _ => .bad
def opMod : D → D → Hm → R D
  | .int i, .int j, h => ifR (decide (0 < j)) (.ok (.int (i % j)) h)
  | _, _, _ => .bad
def opFDiv : D → D → Hm → R D
  | .int i, .int j, h => ifR (decide (0 < j ∧ j < 1073741824)) (.ok (.int (i / j)) h)
  | _, _, _ => .bad
def opPow : D → D → Hm → R D
  | .int i, .int j, h => ifR (decide (0 ≤ j ∧ j ≤ 1000000 ∧ i.natAbs < 2 ^ 64)) (.ok (.int (i ^ j.toNat)) h)
  | _, _, _ => .bad
def opNeg : D → Hm → R D
  | .int i, h => .ok (.int (-i)) h
  | _, _ => .bad
/-! ### comparisons -/
def opCmp (p : Int → Int → Bool) : D → D → Hm → R D
  | .int i, .int j, h => .ok (.bl (p i j)) h
  | _, _, _ => .bad
abbrev opLt := opCmp fun i j => decide (i < j)
abbrev opLe := opCmp fun i j => decide (i ≤ j)
abbrev opGt := opCmp fun i j => decide (j < i)
abbrev opGe := opCmp fun i j => decide (j ≤ i)
def opEq (x y : D) (h : Hm) : R D := match x, y with
  | .int i, .int j => .ok (.bl (decide (i = j))) h
  | .str i, .str j => .ok (.bl (@decide (i = j) (strDec i j))) h
  | x, y => match dat DEP h x, dat DEP h y with
    | some p, some q => .ok (.bl (PyData.eqv p q)) h
    | _, _ => .bad
def opNe (x y : D) (h : Hm) : R D := match x, y with
  | .int i, .int j => .ok (.bl (!decide (i = j))) h
  | .str i, .str j => .ok (.bl (!@decide (i = j) (strDec i j))) h
  | x, y => match dat DEP h x, dat DEP h y with
    | some p, some q => .ok (.bl (!PyData.eqv p q)) h
    | _, _ => .bad
def opIsN (x : D) (h : Hm) : R D := .ok (.bl (decide (x = .non))) h
def opNotN (x : D) (h : Hm) : R D := .ok (.bl (!decide (x = .non))) h
/-- a op b op' c, b asked once -/
def eChain (f g : D → D → Hm → R D) (a b c : ME) : ME := fun σ h => (a σ h).bind fun x h1 => (b σ h1).bind fun y h2 => (f x y h2).bind fun z h3 => match z with
  | .bl true => (c σ h3).bind fun w h4 => g y w h4
  | .bl false => .ok (.bl false) h3
  | _ => .bad
/-! ### dicts, places -/
def kOf : D → Option Key
  | .int i => some (.inl i)
  | .str x => some (.inr x)
  | _ => none
def lookA (k : Key) : List (Key × D) → Option D
  | [] => none
  | (a, v) :: r => @ite _ (a = k) (keyDec a k) (some v) (lookA k r)
def putK (kvs : List (Key × D)) (k : Key) (v : D) : List (Key × D) := match kvs.any fun kv => @decide (kv.1 = k) (keyDec kv.1 k) with
  | true => kvs.map fun kv => @ite _ (kv.1 = k) (keyDec kv.1 k) (kv.1, v) kv
  | false => kvs ++ [(k, v)]
def ixI (n : Nat) (i : Int) : Option Nat := if 0 ≤ i then (if i < n then some i.toNat else none) else if -(n : Int) ≤ i then some (i + n).toNat else none
def nth {α : Type} (xs : List α) (i : Int) : Option α := (ixI xs.length i).bind fun j => xs[j]?
def optR {α : Type} (o : Option α) (h : Hm) : R α := match o with
  | some a => .ok a h
  | none => .bad
/-- x[i] of a list or a tuple -/
def opIx : D → D → Hm → R D
  | .tup ds, .int i, h => optR (nth ds i) h
  | x, .int i, h => match h.seq x with
    | some xs => optR (nth xs i) h
    | none => .bad
  | _, _, _ => .bad
/-- d[k] of a dict -/
def opDGet : D → D → Hm → R D
  | .loc l, y, h => match h.g l, kOf y with
    | some (.dic kvs), some k => optR (lookA k kvs) h
    | _, _ => .bad
  | _, _, _ => .bad
def sIx (n d : Nat) : Option Int → Nat
  | none => d
  | some v => if v < 0 then (v + (n : Int)).toNat else min v.toNat n
def cutL {α : Type} (xs : List α) (lo hi : Option Int) : List α := (xs.drop (sIx xs.length 0 lo)).take (sIx xs.length xs.length hi - sIx xs.length 0 lo)
abbrev MO := Env → Hm → R (Option Int)
def oNone : MO := fun _ h => .ok none h
def oSome (a : ME) : MO := fun σ h => (a σ h).bind fun x h1 => match x with
  | .int i => .ok (some i) h1
  | _ => .bad
/-- a slice of a list -/
def eSl (a : ME) (lo hi : MO) : ME := fun σ h => (a σ h).bind fun x h1 => (lo σ h1).bind fun l h2 => (hi σ h2).bind fun u h3 => match h3.seq x with
  | some xs => .ok (.loc h3.n) (h3.new (.lst (cutL xs l u)))
  | none => .bad
/-! ### calls -/
/-- n things by place, m by name; p puts them into the order of the parameters -/
def callP (n m : Nat) (p : List D → List D → List D) (f : Fn) : List D → List D → Hm → R D := fun ds es h => ifR (decide (ds.length = n) && decide (es.length = m)) (f (p ds es) h)
/-- f(.., k = ..) -/
def eCall (f : List D → List D → Hm → R D) (as ks : MA) : ME := fun σ h => (as σ h).bind fun ds h1 => (ks σ h1).bind fun es h2 => f ds es h2
def lookF (f : Str) : List (Str × D) → Option D
  | [] => none
  | (a, v) :: r => @ite _ (f = a) (strDec f a) (some v) (lookF f r)
def putF (f : Str) (v : D) : List (Str × D) → List (Str × D)
  | [] => [(f, v)]
  | (g, w) :: r => @ite _ (g = f) (strDec g f) ((g, v) :: r) ((g, w) :: putF f v r)
/-- o.f, o an instance of one of the classes cs -/
def eFld (a : ME) (cs : List Nat) (f : Str) : ME := fun σ h => (a σ h).bind fun x h1 => match x with
  | .loc l => match h1.g l with
    | some (.ins c fs) => ifR (cs.contains c) (optR (lookF f fs) h1)
    | _ => .bad
  | _ => .bad
/-- e.f, e an exception that is kept -/
def xfK (cs : List Nat) (f : Str) (x : D) (h1 : Hm) : R D := match x with
  | .loc l => match h1.g l with
    | some (.xc c m) => match h1.g m with
      | some (.xd fs) => ifR (cs.contains c) (optR (lookF f fs) h1)
      | _ => .bad
    | _ => .bad
  | _ => .bad
def eXf (a : ME) (cs : List Nat) (f : Str) : ME := fun σ h => (a σ h).bind (xfK cs f)
/-- which function stands for a class -/
def pickF {α : Type} (c : Nat) : List (Nat × α) → Option α
  | [] => none
  | (d, f) :: r => if d = c then some f else pickF c r
/-- what o.m is, o an instance of a class of ms without an attribute of that name -/
def selM (m : Str) (ms : List (Nat × (List D → List D → Hm → R D))) (h : Hm) : D → Option (List D → List D → Hm → R D)
  | .loc l => match h.g l with
    | some (.ins c fs) => match pickF c ms, lookF m fs with
      | some f, none => some f
      | _, _ => none
    | _ => none
  | _ => none
def eMeth (a : ME) (m : Str) (ms : List (Nat × (List D → List D → Hm → R D))) (as ks : MA) : ME := fun σ h => (a σ h).bind fun x h1 => match selM m ms h1 x with
  | some f => (as σ h1).bind fun ds h2 => (ks σ h2).bind fun es h3 => f (x :: ds) es h3
  | none => .bad
/-- C(..), f its __init__ -/
def mkNew (c : Nat) (f : List D → List D → Hm → R D) (ds es : List D) (h : Hm) : R D := (f (.loc h.n :: ds) es (h.new (.ins c []))).bind fun v h1 => match v with
  | .non => .ok (.loc h.n) h1
  | _ => .bad
abbrev Bi := List D → Hm → R D
def eBi (b : Bi) (as : MA) : ME := fun σ h => (as σ h).bind fun ds h1 => b ds h1
def bLen : Bi
  | [.tup ds], h => .ok (.int ds.length) h
  | [.str x], h => ifR (decide (x.length ≤ SL)) (.ok (.int x.length) h)
  | [.kl xs], h => .ok (.int xs.length) h
  | [.loc l], h => match h.g l with
    | some (.lst xs) => .ok (.int xs.length) h
    | some (.dic kvs) => .ok (.int kvs.length) h
    | _ => .bad
  | _, _ => .bad
def bList : Bi
  | [.tup ds], h => .ok (.loc h.n) (h.new (.lst ds))
  | [x], h => match h.seq x with
    | some xs => .ok (.loc h.n) (h.new (.lst xs))
    | none => .bad
  | _, _ => .bad
def bTuple : Bi
  | [.tup ds], h => .ok (.tup ds) h
  | [x], h => match h.seq x with
    | some xs => .ok (.tup xs) h
    | none => .bad
  | _, _ => .bad
mutual
/-- no int is too great to be shown here -/
def tame : PyData → Bool
  | .none | .bool _ => true
  | .int i => decide (i.natAbs < 2 ^ 140)
  | .str x => PyData.strOk x
  | .list xs | .tuple xs => tameL xs
  | .dict _ => false
def tameL : List PyData → Bool
  | [] => true
  | x :: xs => tame x && tameL xs
end
def fits (p : PyData) : Bool := tame p && decide (p.bulk ≤ 90000)
def bRepr : Bi
  | [x], h => match dat DEP h x with
    | some p => ifR (fits p) (.ok (.str p.shown) h)
    | none => .bad
  | _, _ => .bad
/-- the kind of a value, of Python's own -/
def tyD (h : Hm) : D → Option String
  | .non => some "NoneType"
  | .bl _ => some "bool"
  | .int _ => some "int"
  | .str _ => some "str"
  | .tup _ => some "tuple"
  | .kl _ => some "list"
  | .loc l => match h.g l with
    | some (.lst _) => some "list"
    | some (.dic _) => some "dict"
    | _ => none
  | _ => none
/-- isinstance(x, T), T a built-in type -/
def bIsi (T : String) : Bi
  | [x, .ty U], h => match tyD h x, decide (U = T) with
    | some t, true => .ok (.bl (t == T || (t == "bool" && T == "int"))) h
    | _, _ => .bad
  | _, _ => .bad
/-! ### methods of lists -/
abbrev Mb := D → List D → Hm → R D
def eBM (T : String) (b : Mb) (o : ME) (as : MA) : ME := fun σ h => (o σ h).bind fun x h1 => ifR (decide (tyD h1 x = some T)) ((as σ h1).bind fun ds h2 => b x ds h2)
def mAppend : Mb
  | .loc l, [y], h => match h.g l with
    | some (.lst xs) => ifR (decide (xs.length < SL)) (.ok .non (h.put l (.lst (xs ++ [y]))))
    | _ => .bad
  | _, _, _ => .bad
def mPop : Mb
  | .loc l, [], h => match h.g l with
    | some (.lst xs) => match xs[xs.length - 1]? with
      | some y => .ok y (h.put l (.lst xs.dropLast))
      | none => .bad
    | _ => .bad
  | _, _, _ => .bad
def mPopAt : Mb
  | .loc l, [.int i], h => match h.g l with
    | some (.lst xs) => match ixI xs.length i with
      | some k => match xs[k]? with
        | some y => ifR (decide (-(2 ^ 63) ≤ i ∧ i < 2 ^ 63)) (.ok y (h.put l (.lst (xs.eraseIdx k))))
        | none => .bad
      | none => .bad
    | _ => .bad
  | _, _, _ => .bad
def mExtend : Mb
  | .loc l, [.loc m], h => match h.g l, h.g m with
    | some (.lst xs), some (.lst ys) => ifR (decide (xs.length + ys.length ≤ SL)) (.ok .non (h.put l (.lst (xs ++ ys))))
    | _, _ => .bad
  | _, _, _ => .bad
def bInt : Bi
  | [.int i], h => .ok (.int i) h
  | [.bl b], h => .ok (.int (if b then 1 else 0)) h
  | _, _ => .bad
def bMax2 : Bi
  | [.int i, .int j], h => .ok (.int (if j > i then j else i)) h
  | _, _ => .bad
def bMin2 : Bi
  | [.int i, .int j], h => .ok (.int (if j < i then j else i)) h
  | _, _ => .bad
def flatD : D → Bool
  | .non | .bl _ | .int _ | .str _ => true
  | _ => false
def eqF : D → D → Bool
  | .non, .non => true
  | .bl a, .bl b => a == b
  | .bl a, .int b => (if a then 1 else 0) == b
  | .int a, .bl b => a == (if b then 1 else 0)
  | .int a, .int b => a == b
  | .str a, .str b => a == b
  | _, _ => false
def inD (x : D) (xs : List D) : Bool := xs.any fun y => eqF y x
/-- x in xs (neg: not in), flat things -/
def opIn (neg : Bool) (x y : D) (h : Hm) : R D := match y with
  | .tup ds => ifR (flatD x && ds.all flatD) (.ok (.bl (if neg then !inD x ds else inD x ds)) h)
  | y => match h.seq y with
    | some ds => ifR (flatD x && ds.all flatD) (.ok (.bl (if neg then !inD x ds else inD x ds)) h)
    | none => .bad
/-! ### dict displays -/
def pairsM : List (ME × ME) → Env → Hm → R (List (D × D))
  | [], _, h => .ok [] h
  | (k, v) :: r, σ, h => (k σ h).bind fun x h1 => (v σ h1).bind fun y h2 => (pairsM r σ h2).bind fun ps h3 => .ok ((x, y) :: ps) h3
def keyed : List (D × D) → Option (List (Key × D))
  | [] => some []
  | (x, y) :: r => match kOf x, keyed r with
    | some k, some ps => some ((k, y) :: ps)
    | _, _ => none
def eDict (ps : List (ME × ME)) : ME := fun σ h => (pairsM ps σ h).bind fun qs h1 => match keyed qs with
  | some kvs => ifR (decide (kvs.length ≤ 15)) (.ok (.loc h1.n) (h1.new (.dic (kvs.foldl (fun acc kv => putK acc kv.1 kv.2) []))))
  | none => .bad
/-! ### what is walked -/
def iSeq (a : ME) : MI := fun σ h => (a σ h).bind fun x h1 => match x with
  | .tup ds => .ok ⟨ds, fun _ => true⟩ h1
  | x => match h1.seq x with
    | some xs => .ok ⟨xs, fun h' => decide (h'.seq x = some xs)⟩ h1
    | none => .bad
def intsFrom (lo : Int) (n : Nat) : List D := (List.range n).map fun (i : Nat) => .int (lo + i)
def rngOf : List D → Hm → R It
  | [.int j], h => ifR (decide (-(2 ^ 62) ≤ j ∧ j < 2 ^ 62)) (.ok ⟨intsFrom 0 j.toNat, fun _ => true⟩ h)
  | [.int i, .int j], h => ifR (decide (-(2 ^ 62) ≤ i ∧ i < 2 ^ 62 ∧ -(2 ^ 62) ≤ j ∧ j < 2 ^ 62)) (.ok ⟨intsFrom i (j - i).toNat, fun _ => true⟩ h)
  | _, _ => .bad
def iRng (as : MA) : MI := fun σ h => (as σ h).bind rngOf
def numbered (i : Nat) : List D → List D
  | [] => []
  | x :: xs => .tup [.int i, x] :: numbered (i + 1) xs
def iEnum (a : ME) : MI := fun σ h => (a σ h).bind fun x h1 => match h1.seq x with
  | some xs => .ok ⟨numbered 0 xs, fun h' => decide (h'.seq x = some xs)⟩ h1
  | none => .bad
/-! ### targets -/
def gN (i : Nat) : MG := fun d σ h => .ok (σ.set i (some d)) h
def gsAll : List MG → List D → Env → Hm → R Env
  | [], [], σ, h => .ok σ h
  | g :: gs, d :: ds, σ, h => (g d σ h).bind fun σ1 h1 => gsAll gs ds σ1 h1
  | _, _, _, _ => .bad
def gT (n : Nat) (gs : List MG) : MG := fun d σ h => match d with
  | .tup ds => ifR (decide (ds.length = n)) (gsAll gs ds σ h)
  | _ => .bad
/-- o[i] = .. of a list -/
def gIx (o i : ME) : MG := fun d σ h => (o σ h).bind fun x h1 => (i σ h1).bind fun y h2 => match x, y with
  | .loc l, .int k => match h2.g l with
    | some (.lst xs) => match ixI xs.length k with
      | some j => .ok σ (h2.put l (.lst (xs.set j d)))
      | none => .bad
    | _ => .bad
  | _, _ => .bad
/-- o.f = .. -/
def fldK (cs : List Nat) (f : Str) (d : D) (σ : Env) (x : D) (h1 : Hm) : R Env := match x with
  | .loc l => match h1.g l with
    | some (.ins c fs) => ifR (cs.contains c && decide (fs.length < 1000)) (.ok σ (h1.put l (.ins c (putF f d fs))))
    | _ => .bad
  | _ => .bad
def gFld (a : ME) (cs : List Nat) (f : Str) : MG := fun d σ h => (a σ h).bind (fldK cs f d σ)
/-! ### statements -/
def sNext : MS := fun σ h => .nx σ h
def sSeq (a b : MS) : MS := fun σ h => match a σ h with
  | .nx σ1 h1 => b σ1 h1
  | r => r
def sExpr (e : ME) : MS := fun σ h => (e σ h).stm σ fun _ h1 => .nx σ h1
def sAsg (e : ME) (g : MG) : MS := fun σ h => (e σ h).stm σ fun x h1 => (g x σ h1).quiet.stm σ fun σ1 h2 => .nx σ1 h2
/-- i, j = .. (two names): stored from the right -/
def sPar (is : List Nat) (as : MA) : MS := fun σ h => (as σ h).stm σ fun ds h1 => match is, ds with
  | [i, j], [x, y] => .nx ((σ.set i (some x)).set j (some y)) h1
  | [i, j, k], [x, y, z] => .nx (((σ.set i (some x)).set j (some y)).set k (some z)) h1
  | _, _ => .bad
def sAug (i : Nat) (f : D → D → Hm → R D) (e : ME) : MS := fun σ h => match σ[i]? with
  | some (some x) => (e σ h).stm σ fun y h1 => (f x y h1).stm σ fun z h2 => .nx (σ.set i (some z)) h2
  | _ => .bad
def sFld (a : ME) (cs : List Nat) (f : Str) (e : ME) : MS := fun σ h => (e σ h).stm σ fun y h1 => (a σ h1).stm σ fun x h2 => match x with
  | .loc l => match h2.g l with
    | some (.ins c fs) => match cs.contains c && decide (fs.length < 1000) with
      | true => .nx σ (h2.put l (.ins c (putF f y fs)))
      | false => .bad
    | _ => .bad
  | _ => .bad
/-- a.f op= e -/
def sAugF (a : ME) (cs : List Nat) (f : Str) (op : D → D → Hm → R D) (e : ME) : MS := fun σ h => (a σ h).stm σ fun x h1 => match x with
  | .loc l => match h1.g l with
    | some (.ins c fs) => match cs.contains c, lookF f fs with
      | true, some v => (e σ h1).stm σ fun y h2 => (op v y h2).stm σ fun z h3 => match h3.g l with
        | some (.ins c' fs') => match c' == c && decide (fs'.length < 1000) with
          | true => .nx σ (h3.put l (.ins c (putF f z fs')))
          | false => .bad
        | _ => .bad
      | _, _ => .bad
    | _ => .bad
  | _ => .bad
/-- d[k] = e of a dict -/
def sDPut (d k e : ME) : MS := fun σ h => (e σ h).stm σ fun v h1 => (d σ h1).stm σ fun x h2 => (k σ h2).stm σ fun y h3 => match x with
  | .loc l => match h3.g l, kOf y with
    | some (.dic kvs), some q => match decide (kvs.length < SL) with
      | true => .nx σ (h3.put l (.dic (putK kvs q v)))
      | false => .bad
    | _, _ => .bad
  | _ => .bad
def sRet (e : ME) : MS := fun σ h => (e σ h).stm σ fun x h1 => .rt x h1
def sRetN : MS := fun _ h => .rt .non h
def sIf (t : MT) (a b : MS) : MS := fun σ h => (t σ h).stm σ fun c h1 => match c with
  | true => a σ h1
  | false => b σ h1
def sBad : MS := fun _ _ => .bad
/-- raise C(..): the fields by name; its dict a new object -/
def sRaise (c : Nat) (fsn : List Str) (as : MA) : MS := fun σ h => (as σ h).stm σ fun ds h1 => match decide (ds.length = fsn.length) with
  | true => .exc c h1.n σ (h1.new (.xd (fsn.zip ds).reverse))
  | false => .bad
/-- try: body, except the classes cs as the i-th name: suite; the name goes behind it -/
def goneN (i : Nat) : RS → RS
  | .nx σ h => .nx (σ.set i none) h
  | .bk σ h => .bk (σ.set i none) h
  | .ct σ h => .ct (σ.set i none) h
  | .rt d h => .rt d h
  | _ => .bad
def sTryAs (body : MS) (i : Nat) (ks cs : List Nat) (suite : MS) : MS := fun σ h => match body σ h with
  | .exc c l σ1 h1 => match ks.contains c, cs.contains c with
    | true, true => goneN i (suite (σ1.set i (some (.loc h1.n))) (h1.new (.xc c l)))
    | true, false => .exc c l σ1 h1
    | false, _ => .bad
  | r => r
def sBreak : MS := fun σ h => .bk σ h
def sCont : MS := fun σ h => .ct σ h
def forGo (g : MG) (body : MS) (ok : Hm → Bool) : List D → MS
  | [] => fun σ h => match ok h with
    | true => .nx σ h
    | false => .bad
  | d :: ds => fun σ h => match ok h with
    | false => .bad
    | true => (g d σ h).quiet.stm σ fun σ1 h1 => match body σ1 h1 with
      | .nx σ2 h2 => forGo g body ok ds σ2 h2
      | .ct σ2 h2 => forGo g body ok ds σ2 h2
      | .bk σ2 h2 => .nx σ2 h2
      | .rt d h2 => .rt d h2
      | .exc c fs σ2 h2 => .exc c fs σ2 h2
      | .bad => .bad
def sFor (it : MI) (g : MG) (body : MS) : MS := fun σ h => (it σ h).stm σ fun J h1 => forGo g body J.ok J.xs σ h1
def whileGo (t : MT) (body : MS) : Nat → MS
  | 0 => fun _ _ => .bad
  | n + 1 => fun σ h => (t σ h).stm σ fun c h1 => match c with
    | false => .nx σ h1
    | true => match body σ h1 with
      | .nx σ2 h2 => whileGo t body n σ2 h2
      | .ct σ2 h2 => whileGo t body n σ2 h2
      | .bk σ2 h2 => .nx σ2 h2
      | .rt d h2 => .rt d h2
      | .exc c fs σ2 h2 => .exc c fs σ2 h2
      | .bad => .bad
def sWhile (n : Nat) (t : MT) (body : MS) : MS := whileGo t body n
/-! ### comprehensions -/
def wipe (σ : Env) : List Nat → Env
  | [] => σ
  | v :: vs => (wipe σ vs).set v none
/-- one name, or several of a tuple -/
def setsN : List Nat → List D → Env → Option Env
  | [], [], σ => some σ
  | i :: is, d :: ds, σ => setsN is ds (σ.set i (some d))
  | _, _, _ => none
def bindC (one : Bool) (is : List Nat) (d : D) (σ : Env) : Option Env := match one, d with
  | true, d => setsN is [d] σ
  | false, .tup ds => setsN is ds σ
  | false, _ => none
def compGo (bd : D → Env → Option Env) (t : MT) (e : ME) (ok : Hm → Bool) (σ : Env) : List D → List D → Hm → R (List D)
  | [], acc, h => ifR (ok h) (.ok acc h)
  | d :: ds, acc, h => match ok h, bd d σ with
    | true, some σ1 => (t σ1 h).quiet.bind fun c h1 => match c with
      | false => compGo bd t e ok σ ds acc h1
      | true => (e σ1 h1).quiet.bind fun y h2 => ifR (decide (acc.length < SL)) (compGo bd t e ok σ ds (acc ++ [y]) h2)
    | _, _ => .bad
def eComp (it : MI) (own : List Nat) (one : Bool) (is : List Nat) (t : MT) (e : ME) : ME := fun σ h => (it σ h).bind fun J h1 =>
  (compGo (bindC one is) t e J.ok (wipe σ own) J.xs [] h1).bind fun acc h2 => .ok (.loc h2.n) (h2.new (.lst acc))
/-! ### a def -/
def fnOf (N : Nat) (body : MS) : Fn := fun ds h => match body (ds.map some ++ List.replicate (N - ds.length) none) h with
  | .nx _ h1 => .ok .non h1
  | .rt d h1 => .ok d h1
  | .exc c fs _ h1 => .exc c fs h1
  | _ => .bad
end Mo
end
section
/-! Reasoning about M: what a result must be (Ev), what a statement must come to (EvS). -/
namespace Mo
open PySem
abbrev XE := Nat → Nat → Hm → Prop
/-- of a statement: with the names -/
abbrev XS := Nat → Nat → List (Option D) → Hm → Prop
def Ev {α : Type} (E : XE) (r : R α) (Q : α → Hm → Prop) : Prop := match r with
  | .ok a h => Q a h
  | .exc c fs h => E c fs h
  | .bad => False
structure Po where
  nx : Env → Hm → Prop
  rt : D → Hm → Prop
  bk : Env → Hm → Prop
  ct : Env → Hm → Prop
/-- the same, but for what comes next -/
abbrev Po.nxt (P : Po) (K : Env → Hm → Prop) : Po := ⟨K, P.rt, P.bk, P.ct⟩
def EvS (E : XS) (r : RS) (P : Po) : Prop := match r with
  | .nx σ h => P.nx σ h
  | .rt d h => P.rt d h
  | .bk σ h => P.bk σ h
  | .ct σ h => P.ct σ h
  | .exc c fs σ h => E c fs σ h
  | .bad => False
theorem eqv_int {i j : Int} : PyData.eqv (.int i) (.int j) = decide (i = j) := by
  rw [Bool.eq_iff_iff]
  simp [PyData.eqv]
theorem eqv_str {i j : Str} : PyData.eqv (.str i) (.str j) = @decide (i = j) (strDec i j) := by
  rw [Bool.eq_iff_iff]
  simp [PyData.eqv]
/-! ### named shapes of what is asked -/
def NB (x : D) (K : Bool → Prop) : Prop := ∃ v, x = .bl v ∧ K v
theorem nb {v : Bool} {K : Bool → Prop} (q : K v) : NB (.bl v) K := ⟨v, rfl, q⟩
def NI (x : D) (K : Int → Prop) : Prop := ∃ v, x = .int v ∧ K v
theorem ni {v : Int} {K : Int → Prop} (q : K v) : NI (.int v) K := ⟨v, rfl, q⟩
def NN (x : D) (K : Prop) : Prop := x = .non ∧ K
theorem nn {K : Prop} (q : K) : NN .non K := ⟨rfl, q⟩
def TL (ds : List D) (K : Prop) : Prop := Nat.ble ds.length SL = true ∧ K
theorem tl {ds : List D} {K : Prop} (e : Nat.ble ds.length SL = true) (q : K) : TL ds K := ⟨e, q⟩
def P2 (ds : List D) (K : D → D → Prop) : Prop := ∃ x y, ds = [x, y] ∧ K x y
theorem p2 {x y : D} {K : D → D → Prop} (q : K x y) : P2 [x, y] K := ⟨x, y, rfl, q⟩
def P3_ (ds : List D) (K : D → D → D → Prop) : Prop := ∃ x y z, ds = [x, y, z] ∧ K x y z
theorem p3 {x y z : D} {K : D → D → D → Prop} (q : K x y z) : P3_ [x, y, z] K := ⟨x, y, z, rfl, q⟩
def SQ (h : Hm) (x : D) (K : List D → Prop) : Prop := ∃ xs, h.seq x = some xs ∧ K xs
theorem seq_loc {h : Hm} {l : Nat} {xs : List D} (e : h.g l = some (.lst xs)) : h.seq (.loc l) = some xs := by
  unfold Hm.seq
  simp only [e]
theorem sqL {h : Hm} {l : Nat} {xs : List D} {K : List D → Prop} (e : h.g l = some (.lst xs)) (q : K xs) : SQ h (.loc l) K := ⟨xs, seq_loc e, q⟩
theorem sqK {h : Hm} {xs : List D} {K : List D → Prop} (q : K xs) : SQ h (.kl xs) K := ⟨xs, rfl, q⟩
def IT (h : Hm) (x : D) (K : It → Prop) : Prop := (∃ xs, x = .tup xs ∧ K ⟨xs, fun _ => true⟩) ∨ ∃ xs, h.seq x = some xs ∧ (∀ ds, x ≠ .tup ds) ∧ K ⟨xs, fun h' => decide (h'.seq x = some xs)⟩
theorem itT {h : Hm} {xs : List D} {K : It → Prop} (q : K ⟨xs, fun _ => true⟩) : IT h (.tup xs) K := .inl ⟨xs, rfl, q⟩
theorem itL {h : Hm} {l : Nat} {xs : List D} {K : It → Prop} (e : h.g l = some (.lst xs)) (q : K ⟨xs, fun h' => decide (h'.seq (.loc l) = some xs)⟩) : IT h (.loc l) K := .inr ⟨xs, seq_loc e, (fun _ z => nomatch z), q⟩
theorem itK {h : Hm} {xs : List D} {K : It → Prop} (q : K ⟨xs, fun _ => true⟩) : IT h (.kl xs) K := .inr ⟨xs, rfl, (fun _ z => nomatch z), by
  have e : (fun h' : Hm => decide (h'.seq (.kl xs) = some xs)) = fun _ => true := funext fun h' => decide_eq_true rfl
  rw [e]
  exact q⟩
def FL (h : Hm) (cs : List Nat) (f : Str) (x : D) (K : D → Prop) : Prop := ∃ l c fs v, x = .loc l ∧ h.g l = some (.ins c fs) ∧ cs.contains c = true ∧ lookF f fs = some v ∧ K v
theorem fl {h : Hm} {cs : List Nat} {f : Str} {l c : Nat} {fs : List (Str × D)} {v : D} {K : D → Prop} (e1 : h.g l = some (.ins c fs)) (e2 : cs.contains c = true) (e3 : lookF f fs = some v) (q : K v) : FL h cs f (.loc l) K := ⟨l, c, fs, v, rfl, e1, e2, e3, q⟩
def SM (m : Str) (ms : List (Nat × (List D → List D → Hm → R D))) (h : Hm) (x : D) (K : (List D → List D → Hm → R D) → Prop) : Prop := ∃ F, selM m ms h x = some F ∧ K F
theorem sm {m : Str} {ms : List (Nat × (List D → List D → Hm → R D))} {h : Hm} {l c : Nat} {fs : List (Str × D)} {F : List D → List D → Hm → R D} {K : (List D → List D → Hm → R D) → Prop} (e : h.g l = some (.ins c fs)) (e1 : pickF c ms = some F) (e2 : lookF m fs = none) (q : K F) : SM m ms h (.loc l) K := ⟨F, by
  unfold selM
  simp only [e, e1, e2], q⟩
def PF (h : Hm) (cs : List Nat) (x : D) (K : Nat → Nat → List (Str × D) → Prop) : Prop := ∃ l c fs, x = .loc l ∧ h.g l = some (.ins c fs) ∧ cs.contains c = true ∧ fs.length < 1000 ∧ K l c fs
theorem pf {h : Hm} {cs : List Nat} {l c : Nat} {fs : List (Str × D)} {K : Nat → Nat → List (Str × D) → Prop} (e1 : h.g l = some (.ins c fs)) (e2 : cs.contains c = true) (e3 : Nat.ble (fs.length + 1) 1000 = true) (q : K l c fs) : PF h cs (.loc l) K := ⟨l, c, fs, rfl, e1, e2, Nat.le_of_ble_eq_true e3, q⟩
def GI (h : Hm) (x y : D) (K : Nat → List D → Nat → Prop) : Prop := ∃ l i xs j, x = .loc l ∧ y = .int i ∧ h.g l = some (.lst xs) ∧ ixI xs.length i = some j ∧ K l xs j
theorem gi {h : Hm} {l : Nat} {i : Int} {xs : List D} {j : Nat} {K : Nat → List D → Nat → Prop} (e1 : h.g l = some (.lst xs)) (e2 : ixI xs.length i = some j) (q : K l xs j) : GI h (.loc l) (.int i) K := ⟨l, i, xs, j, rfl, rfl, e1, e2, q⟩
def DP (h : Hm) (x y : D) (K : Nat → List (Key × D) → Key → Prop) : Prop := ∃ l kvs k, x = .loc l ∧ h.g l = some (.dic kvs) ∧ kOf y = some k ∧ kvs.length < SL ∧ K l kvs k
theorem dp {h : Hm} {l : Nat} {y : D} {kvs : List (Key × D)} {k : Key} {K : Nat → List (Key × D) → Key → Prop} (e1 : h.g l = some (.dic kvs)) (e2 : kOf y = some k) (e3 : kvs.length < SL) (q : K l kvs k) : DP h (.loc l) y K := ⟨l, kvs, k, rfl, e1, e2, e3, q⟩
def R1 (ds : List D) (K : Int → Prop) : Prop := ∃ j, ds = [.int j] ∧ (-(2 ^ 62) ≤ j ∧ j < 2 ^ 62) ∧ K j
theorem r1 {j : Int} {K : Int → Prop} (e : -(2 ^ 62) ≤ j ∧ j < 2 ^ 62) (q : K j) : R1 [.int j] K := ⟨j, rfl, e, q⟩
def R2_ (ds : List D) (K : Int → Int → Prop) : Prop := ∃ i j, ds = [.int i, .int j] ∧ (-(2 ^ 62) ≤ i ∧ i < 2 ^ 62 ∧ -(2 ^ 62) ≤ j ∧ j < 2 ^ 62) ∧ K i j
theorem r2 {i j : Int} {K : Int → Int → Prop} (e : -(2 ^ 62) ≤ i ∧ i < 2 ^ 62 ∧ -(2 ^ 62) ≤ j ∧ j < 2 ^ 62) (q : K i j) : R2_ [.int i, .int j] K := ⟨i, j, rfl, e, q⟩
def KD (qs : List (D × D)) (K : List (Key × D) → Prop) : Prop := ∃ kvs, keyed qs = some kvs ∧ kvs.length ≤ 15 ∧ K (kvs.foldl (fun acc kv => putK acc kv.1 kv.2) [])
theorem kd {qs : List (D × D)} {kvs kws : List (Key × D)} {K : List (Key × D) → Prop} (e : keyed qs = some kvs) (e2 : Nat.ble kvs.length 15 = true) (e3 : kvs.foldl (fun acc kv => putK acc kv.1 kv.2) [] = kws) (q : K kws) : KD qs K := ⟨kvs, e, Nat.le_of_ble_eq_true e2, by rw [e3]; exact q⟩
def TY (h : Hm) (x : D) (T : String) (K : Prop) : Prop := tyD h x = some T ∧ K
theorem tyL {h : Hm} {l : Nat} {xs : List D} {K : Prop} (e : h.g l = some (.lst xs)) (q : K) : TY h (.loc l) "list" K := ⟨by unfold tyD; simp only [e], q⟩
theorem tyDc {h : Hm} {l : Nat} {xs : List (Key × D)} {K : Prop} (e : h.g l = some (.dic xs)) (q : K) : TY h (.loc l) "dict" K := ⟨by unfold tyD; simp only [e], q⟩
def RZ (fsn : List Str) (ds : List D) (K : List (Str × D) → Prop) : Prop := ds.length = fsn.length ∧ K (fsn.zip ds).reverse
theorem rz {fsn : List Str} {ds : List D} {K : List (Str × D) → Prop} (e : ds.length = fsn.length) (q : K (fsn.zip ds).reverse) : RZ fsn ds K := ⟨e, q⟩
def sel (c : Bool) (A B : Prop) : Prop := match c with
  | true => A
  | false => B
section
variable {α β : Type} {E : XE} {σ : Env} {h : Hm}
theorem Ev.mono {r : R α} {Q Q' : α → Hm → Prop} (w : Ev E r Q) (k : ∀ a h, Q a h → Q' a h) : Ev E r Q' := by
  cases r with
  | ok a h => exact k a h w
  | exc c fs h => exact w
  | bad => exact w
theorem EvS.mono {r : RS} {P P' : Po} {E : XS} (w : EvS E r P) (k1 : ∀ σ h, P.nx σ h → P'.nx σ h) (k2 : ∀ d h, P.rt d h → P'.rt d h) (k3 : ∀ σ h, P.bk σ h → P'.bk σ h) (k4 : ∀ σ h, P.ct σ h → P'.ct σ h): EvS E r P' := by
  cases r with
  | nx σ h => exact k1 _ _ w
  | rt d h => exact k2 _ _ w
  | bk σ h => exact k3 _ _ w
  | ct σ h => exact k4 _ _ w
  | exc c fs σ h => exact w
  | bad => exact w
theorem ev_ok {a : α} {Q : α → Hm → Prop} (q : Q a h) : Ev E (.ok a h) Q := q
theorem ev_bind {r : R α} {f : α → Hm → R β} {Q : β → Hm → Prop} (w : Ev E r fun a h1 => Ev E (f a h1) Q) : Ev E (r.bind f) Q := by
  cases r with
  | ok a h => exact w
  | exc c fs h => exact w
  | bad => exact w
theorem ev_of_bind {r : R α} {f : α → Hm → R β} {Q : β → Hm → Prop} (w : Ev E (r.bind f) Q) : Ev E r fun a h1 => Ev E (f a h1) Q := by
  cases r with
  | ok a h => exact w
  | exc c fs h => exact w
  | bad => exact w
theorem es_stm {E : XS} {P : Po} {r : R α} {f : α → Hm → RS} (w : Ev (fun c l h => E c l σ h) r fun a h1 => EvS E (f a h1) P) : EvS E (r.stm σ f) P := by
  cases r with
  | ok a h => exact w
  | exc c fs h => exact w
  | bad => exact w
theorem ev_ifR {c : Bool} {r : R α} {Q : α → Hm → Prop} (hc : c = true) (w : Ev E r Q) : Ev E (ifR c r) Q := by
  rw [hc]
  exact w
/-! ### expressions -/
variable {Q : D → Hm → Prop} {QL : List D → Hm → Prop} {QB : Bool → Hm → Prop} {a b c : ME} {as ks : MA} {t u : MT}
theorem ev_var {i : Nat} {d : D} (e : σ[i]? = some (some d)) (q : Q d h) : Ev E (eV i σ h) Q := by
  unfold eV
  rw [e]
  exact q
theorem ev_c {d : D} (q : Q d h) : Ev E (eC d σ h) Q := q
theorem ev_op {f : D → D → Hm → R D} (q : Ev E (a σ h) fun x h1 => Ev E (b σ h1) fun y h2 => Ev E (f x y h2) Q) : Ev E (eOp f a b σ h) Q := ev_bind (q.mono fun x h1 w => ev_bind w)
theorem ev_un {f : D → Hm → R D} (q : Ev E (a σ h) fun x h1 => Ev E (f x h1) Q) : Ev E (eUn f a σ h) Q := ev_bind q
theorem ev_nil (q : QL [] h) : Ev E (aNil σ h) QL := q
theorem ev_cons (q : Ev E (a σ h) fun x h1 => Ev E (as σ h1) fun xs h2 => QL (x :: xs) h2) : Ev E (aCons a as σ h) QL := ev_bind (q.mono fun x h1 w => ev_bind w)
theorem ev_tup (q : Ev E (as σ h) fun ds h1 => TL ds (Q (.tup ds) h1)) : Ev E (eTup as σ h) Q := ev_bind (q.mono fun ds h1 w => ev_ifR (decide_eq_true (Nat.le_of_ble_eq_true w.1)) w.2)
theorem ev_lst (q : Ev E (as σ h) fun ds h1 => TL ds (Q (.loc h1.n) (h1.new (.lst ds)))) : Ev E (eLst as σ h) Q := ev_bind (q.mono fun ds h1 w => ev_ifR (decide_eq_true (Nat.le_of_ble_eq_true w.1)) w.2)
theorem sel_t {c : Bool} {A B : Prop} (hc : c = true) (w : A) : sel c A B := by
  rw [hc]
  exact w
theorem sel_f {c : Bool} {A B : Prop} (hc : c = false) (w : B) : sel c A B := by
  rw [hc]
  exact w
theorem sel_of {c : Bool} {A B : Prop} (k1 : c = true → A) (k2 : c = false → B) : sel c A B := by
  cases c with
  | true => exact k1 rfl
  | false => exact k2 rfl
theorem ev_eIf (q : Ev E (t σ h) fun c h1 => sel c (Ev E (a σ h1) Q) (Ev E (b σ h1) Q)) : Ev E (eIf t a b σ h) Q := ev_bind (q.mono fun c h1 w => by cases c <;> exact w)
theorem ev_and (q : Ev E (a σ h) fun x h1 => NB x fun v => sel v (Ev E (b σ h1) Q) (Q (.bl false) h1)) : Ev E (eAnd a b σ h) Q := ev_bind (q.mono fun x h1 ⟨v, e, w⟩ => by subst e; cases v <;> exact w)
theorem ev_or (q : Ev E (a σ h) fun x h1 => NB x fun v => sel v (Q (.bl true) h1) (Ev E (b σ h1) Q)) : Ev E (eOr a b σ h) Q := ev_bind (q.mono fun x h1 ⟨v, e, w⟩ => by subst e; cases v <;> exact w)
theorem ev_not (q : Ev E (a σ h) fun x h1 => NB x fun v => Q (.bl (!v)) h1) : Ev E (eNot a σ h) Q := ev_bind (q.mono fun x h1 ⟨v, e, w⟩ => by subst e; exact w)
theorem ev_chain {f g : D → D → Hm → R D} (q : Ev E (a σ h) fun x h1 => Ev E (b σ h1) fun y h2 => Ev E (f x y h2) fun z h3 => NB z fun v => sel v (Ev E (c σ h3) fun w h4 => Ev E (g y w h4) Q) (Q (.bl false) h3)) : Ev E (eChain f g a b c σ h) Q :=
  ev_bind (q.mono fun x h1 w => ev_bind (w.mono fun y h2 w => ev_bind (w.mono fun z h3 ⟨v, e, w⟩ => by
    subst e
    cases v with
    | true => exact ev_bind w
    | false => exact w)))
/-! ### tests -/
theorem ev_tB (q : Ev E (a σ h) fun x h1 => NB x fun v => QB v h1) : Ev E (tB a σ h) QB := ev_bind (q.mono fun x h1 ⟨v, e, w⟩ => by subst e; exact w)
theorem ev_tAnd (q : Ev E (t σ h) fun c h1 => sel c (Ev E (u σ h1) QB) (QB false h1)) : Ev E (tAnd t u σ h) QB := ev_bind (q.mono fun c h1 w => by cases c <;> exact w)
theorem ev_tOr (q : Ev E (t σ h) fun c h1 => sel c (QB true h1) (Ev E (u σ h1) QB)) : Ev E (tOr t u σ h) QB := ev_bind (q.mono fun c h1 w => by cases c <;> exact w)
theorem ev_tNot (q : Ev E (t σ h) fun c h1 => QB (!c) h1) : Ev E (tNot t σ h) QB := ev_bind q
theorem ev_tYes (q : QB true h) : Ev E (tYes σ h) QB := q
/-! ### operators -/
theorem ev_add {i j : Int} (q : Q (.int (i + j)) h) : Ev E (opAdd (.int i) (.int j) h) Q := q
theorem ev_cat {l m : Nat} {xs ys : List D} (e1 : h.g l = some (.lst xs)) (e2 : h.g m = some (.lst ys)) (k : xs.length + ys.length ≤ SL) (q : Q (.loc h.n) (h.new (.lst (xs ++ ys)))) : Ev E (opAdd (.loc l) (.loc m) h) Q := by
  unfold opAdd
  simp only [e1, e2]
  exact ev_ifR (decide_eq_true k) q
theorem ev_sub {i j : Int} (q : Q (.int (i - j)) h) : Ev E (opSub (.int i) (.int j) h) Q := q
theorem ev_mul {i j : Int} (k : (-(2 ^ 64) < i ∧ i < 2 ^ 64) ∨ (-(2 ^ 64) < j ∧ j < 2 ^ 64)) (q : Q (.int (i * j)) h) : Ev E (opMul (.int i) (.int j) h) Q := ev_ifR (decide_eq_true k) q
theorem ev_rep {l : Nat} {xs : List D} {k : Int} (e : h.g l = some (.lst xs)) (k1 : -(2 ^ 63) ≤ k ∧ k < 2 ^ 63 ∧ xs.length * k.toNat ≤ SL) (q : Q (.loc h.n) (h.new (.lst (List.replicate k.toNat xs).flatten))) : Ev E (opMul (.loc l) (.int k) h) Q := by
  unfold opMul
  simp only [e]
  exact ev_ifR (decide_eq_true k1) q
theorem ev_mod {i j : Int} (k : 0 < j) (q : Q (.int (i % j)) h) : Ev E (opMod (.int i) (.int j) h) Q := ev_ifR (decide_eq_true k) q
theorem ev_fdiv {i j : Int} (k : 0 < j ∧ j < 1073741824) (q : Q (.int (i / j)) h) : Ev E (opFDiv (.int i) (.int j) h) Q := ev_ifR (decide_eq_true k) q
theorem ev_pow {i j : Int} (k : 0 ≤ j ∧ j ≤ 1000000 ∧ i.natAbs < 2 ^ 64) (q : Q (.int (i ^ j.toNat)) h) : Ev E (opPow (.int i) (.int j) h) Q := ev_ifR (decide_eq_true k) q
theorem ev_neg {i : Int} (q : Q (.int (-i)) h) : Ev E (opNeg (.int i) h) Q := q
theorem ev_lt {i j : Int} (q : Q (.bl (decide (i < j))) h) : Ev E (opLt (.int i) (.int j) h) Q := q
theorem ev_le {i j : Int} (q : Q (.bl (decide (i ≤ j))) h) : Ev E (opLe (.int i) (.int j) h) Q := q
theorem ev_gt {i j : Int} (q : Q (.bl (decide (j < i))) h) : Ev E (opGt (.int i) (.int j) h) Q := q
theorem ev_ge {i j : Int} (q : Q (.bl (decide (j ≤ i))) h) : Ev E (opGe (.int i) (.int j) h) Q := q
theorem ev_eqI {i j : Int} (q : Q (.bl (decide (i = j))) h) : Ev E (opEq (.int i) (.int j) h) Q := q
theorem ev_neI {i j : Int} (q : Q (.bl (!decide (i = j))) h) : Ev E (opNe (.int i) (.int j) h) Q := q
theorem ev_eqS {i j : Str} (q : Q (.bl (@decide (i = j) (strDec i j))) h) : Ev E (opEq (.str i) (.str j) h) Q := q
theorem ev_neS {i j : Str} (q : Q (.bl (!@decide (i = j) (strDec i j))) h) : Ev E (opNe (.str i) (.str j) h) Q := q
theorem dat_int {n : Nat} {i : Int} : dat (n + 1) h (.int i) = some (.int i) := rfl
theorem dat_str {n : Nat} {x : Str} {p : PyData} (e : dat (n + 1) h (.str x) = some p) : p = .str x := by
  unfold dat at e
  simp only at e
  cases k : PyData.strOk x with
  | true => rw [k] at e; exact (Option.some.inj e).symm
  | false => rw [k] at e; cases e
theorem ev_eqD {x y : D} {p r : PyData} (e1 : dat DEP h x = some p) (e2 : dat DEP h y = some r) (q : Q (.bl (PyData.eqv p r)) h) : Ev E (opEq x y h) Q := by
  unfold opEq
  split
  · cases (show some _ = some _ from e1)
    cases (show some _ = some _ from e2)
    rw [eqv_int] at q
    exact q
  · cases dat_str e1
    cases dat_str e2
    rw [eqv_str] at q
    exact q
  · simp only [e1, e2]
    exact q
theorem ev_neD {x y : D} {p r : PyData} (e1 : dat DEP h x = some p) (e2 : dat DEP h y = some r) (q : Q (.bl (!PyData.eqv p r)) h) : Ev E (opNe x y h) Q := by
  unfold opNe
  split
  · cases (show some _ = some _ from e1)
    cases (show some _ = some _ from e2)
    rw [eqv_int] at q
    exact q
  · cases dat_str e1
    cases dat_str e2
    rw [eqv_str] at q
    exact q
  · simp only [e1, e2]
    exact q
theorem ev_isN {x : D} (q : Q (.bl (decide (x = .non))) h) : Ev E (opIsN x h) Q := q
theorem ev_notN {x : D} (q : Q (.bl (!decide (x = .non))) h) : Ev E (opNotN x h) Q := q
/-! ### places -/
theorem ev_ixT {ds : List D} {i : Int} {d : D} (e : nth ds i = some d) (q : Q d h) : Ev E (opIx (.tup ds) (.int i) h) Q := by
  unfold opIx
  simp only [e]
  exact q
theorem ev_ixL {l : Nat} {xs : List D} {i : Int} {d : D} (e1 : h.g l = some (.lst xs)) (e : nth xs i = some d) (q : Q d h) : Ev E (opIx (.loc l) (.int i) h) Q := by
  unfold opIx Hm.seq
  simp only [e1, e]
  exact q
theorem ev_ixK {xs : List D} {i : Int} {d : D} (e : nth xs i = some d) (q : Q d h) : Ev E (opIx (.kl xs) (.int i) h) Q := by
  unfold opIx Hm.seq
  simp only [e]
  exact q
theorem ev_dgetS {l : Nat} {kvs : List (Key × D)} {k : Str} {d : D} (e1 : h.g l = some (.dic kvs)) (e : lookA (.inr k) kvs = some d) (q : Q d h) : Ev E (opDGet (.loc l) (.str k) h) Q := by
  unfold opDGet
  simp only [e1, kOf, e]
  exact q
theorem ev_dgetI {l : Nat} {kvs : List (Key × D)} {k : Int} {d : D} (e1 : h.g l = some (.dic kvs)) (e : lookA (.inl k) kvs = some d) (q : Q d h) : Ev E (opDGet (.loc l) (.int k) h) Q := by
  unfold opDGet
  simp only [e1, kOf, e]
  exact q
theorem ev_oNone {QO : Option Int → Hm → Prop} (q : QO none h) : Ev E (oNone σ h) QO := q
theorem ev_oSome {QO : Option Int → Hm → Prop} (q : Ev E (a σ h) fun x h1 => NI x fun i => QO (some i) h1) : Ev E (oSome a σ h) QO := ev_bind (q.mono fun x h1 ⟨i, e, w⟩ => by subst e; exact w)
theorem ev_sl {lo hi : MO} (q : Ev E (a σ h) fun x h1 => Ev E (lo σ h1) fun l h2 => Ev E (hi σ h2) fun u h3 => SQ h3 x fun xs => Q (.loc h3.n) (h3.new (.lst (cutL xs l u)))) : Ev E (eSl a lo hi σ h) Q :=
  ev_bind (q.mono fun x h1 w => ev_bind (w.mono fun l h2 w => ev_bind (w.mono fun u h3 ⟨xs, e, w⟩ => by simp only [e]; exact w)))
/-! ### objects, calls -/
theorem ev_fld {cs : List Nat} {f : Str} (q : Ev E (a σ h) fun x h1 => FL h1 cs f x fun v => Q v h1) : Ev E (eFld a cs f σ h) Q := ev_bind (q.mono fun x h1 ⟨l, c, fs, v, e, e1, e2, e3, w⟩ => by
  subst e
  simp only [e1, e2, e3]
  exact w)
theorem ev_call {f : List D → List D → Hm → R D} (q : Ev E (as σ h) fun ds h1 => Ev E (ks σ h1) fun es h2 => Ev E (f ds es h2) Q) : Ev E (eCall f as ks σ h) Q := ev_bind (q.mono fun x h1 w => ev_bind w)
theorem ev_callP {n m : Nat} {p : List D → List D → List D} {f : Fn} {ds es : List D} (k1 : ds.length = n) (k2 : es.length = m) (q : Ev E (f (p ds es) h) Q) : Ev E (callP n m p f ds es h) Q := ev_ifR (by rw [k1, k2]; simp) q
theorem ev_meth {m : Str} {ms : List (Nat × (List D → List D → Hm → R D))} (q : Ev E (a σ h) fun x h1 => SM m ms h1 x fun F => Ev E (as σ h1) fun ds h2 => Ev E (ks σ h2) fun es h3 => Ev E (F (x :: ds) es h3) Q) : Ev E (eMeth a m ms as ks σ h) Q := ev_bind (q.mono fun x h1 ⟨F, e, w⟩ => by
  simp only [e]
  exact ev_bind (w.mono fun ds h2 w => ev_bind w))
theorem ev_new {c : Nat} {f : List D → List D → Hm → R D} {ds es : List D} (q : Ev E (f (.loc h.n :: ds) es (h.new (.ins c []))) fun v h1 => NN v (Q (.loc h.n) h1)) : Ev E (mkNew c f ds es h) Q := ev_bind (q.mono fun v h1 ⟨e, w⟩ => by subst e; exact w)
theorem ev_bi {f : Bi} (q : Ev E (as σ h) fun ds h1 => Ev E (f ds h1) Q) : Ev E (eBi f as σ h) Q := ev_bind q
theorem ev_lenT {ds : List D} (q : Q (.int ds.length) h) : Ev E (bLen [.tup ds] h) Q := q
theorem ev_lenK {ds : List D} (q : Q (.int ds.length) h) : Ev E (bLen [.kl ds] h) Q := q
theorem ev_lenL {l : Nat} {xs : List D} (e : h.g l = some (.lst xs)) (q : Q (.int xs.length) h) : Ev E (bLen [.loc l] h) Q := by
  unfold bLen
  simp only [e]
  exact q
theorem ev_lenD {l : Nat} {kvs : List (Key × D)} (e : h.g l = some (.dic kvs)) (q : Q (.int kvs.length) h) : Ev E (bLen [.loc l] h) Q := by
  unfold bLen
  simp only [e]
  exact q
theorem ev_listT {ds : List D} (q : Q (.loc h.n) (h.new (.lst ds))) : Ev E (bList [.tup ds] h) Q := q
theorem ev_listK {ds : List D} (q : Q (.loc h.n) (h.new (.lst ds))) : Ev E (bList [.kl ds] h) Q := q
theorem ev_listL {l : Nat} {xs : List D} (e : h.g l = some (.lst xs)) (q : Q (.loc h.n) (h.new (.lst xs))) : Ev E (bList [.loc l] h) Q := by
  unfold bList Hm.seq
  simp only [e]
  exact q
theorem ev_tupL {l : Nat} {xs : List D} (e : h.g l = some (.lst xs)) (q : Q (.tup xs) h) : Ev E (bTuple [.loc l] h) Q := by
  unfold bTuple Hm.seq
  simp only [e]
  exact q
theorem ev_tupT {ds : List D} (q : Q (.tup ds) h) : Ev E (bTuple [.tup ds] h) Q := q
theorem ev_tupK {ds : List D} (q : Q (.tup ds) h) : Ev E (bTuple [.kl ds] h) Q := q
theorem ev_repr {x : D} {p : PyData} (e : dat DEP h x = some p) (k : fits p = true) (q : Q (.str p.shown) h) : Ev E (bRepr [x] h) Q := by
  unfold bRepr
  simp only [e]
  exact ev_ifR k q
theorem ev_isi {T t : String} {x : D} (e : tyD h x = some t) (q : Q (.bl (t == T || (t == "bool" && T == "int"))) h) : Ev E (bIsi T [x, .ty T] h) Q := by
  unfold bIsi
  simp only [e, decide_eq_true rfl]
  exact q
theorem ev_bm {T : String} {f : Mb} (q : Ev E (a σ h) fun x h1 => TY h1 x T (Ev E (as σ h1) fun ds h2 => Ev E (f x ds h2) Q)) : Ev E (eBM T f a as σ h) Q := ev_bind (q.mono fun x h1 ⟨e, w⟩ => ev_ifR (decide_eq_true e) (ev_bind w))
theorem tyD_lst {l : Nat} {xs : List D} (e : h.g l = some (.lst xs)) : tyD h (.loc l) = some "list" := by
  unfold tyD
  simp only [e]
theorem tyD_dic {l : Nat} {kvs : List (Key × D)} (e : h.g l = some (.dic kvs)) : tyD h (.loc l) = some "dict" := by
  unfold tyD
  simp only [e]
theorem ev_append {l : Nat} {xs : List D} {y : D} (e : h.g l = some (.lst xs)) (k : xs.length < SL) (q : Q .non (h.put l (.lst (xs ++ [y])))) : Ev E (mAppend (.loc l) [y] h) Q := by
  unfold mAppend
  simp only [e]
  exact ev_ifR (decide_eq_true k) q
theorem ev_pnil {QP : List (D × D) → Hm → Prop} (q : QP [] h) : Ev E (pairsM [] σ h) QP := q
theorem ev_pcons {QP : List (D × D) → Hm → Prop} {ps : List (ME × ME)} (q : Ev E (a σ h) fun x h1 => Ev E (b σ h1) fun y h2 => Ev E (pairsM ps σ h2) fun r h3 => QP ((x, y) :: r) h3) : Ev E (pairsM ((a, b) :: ps) σ h) QP := ev_bind (q.mono fun x h1 w => ev_bind (w.mono fun y h2 w => ev_bind w))
theorem ev_dict {ps : List (ME × ME)} (q : Ev E (pairsM ps σ h) fun qs h1 => KD qs fun kvs => Q (.loc h1.n) (h1.new (.dic kvs))) : Ev E (eDict ps σ h) Q := ev_bind (q.mono fun qs h1 ⟨kvs, e, k, w⟩ => by
  simp only [e]
  exact ev_ifR (decide_eq_true k) w)
/-! ### targets -/
variable {QE : Env → Hm → Prop} {g : MG}
theorem ev_gN {i : Nat} {d : D} (q : QE (σ.set i (some d)) h) : Ev E (gN i d σ h) QE := q
theorem ev_gnil (q : QE σ h) : Ev E (gsAll [] [] σ h) QE := q
theorem ev_gcons {gs : List MG} {d : D} {ds : List D} (q : Ev E (g d σ h) fun σ1 h1 => Ev E (gsAll gs ds σ1 h1) QE) : Ev E (gsAll (g :: gs) (d :: ds) σ h) QE := ev_bind q
theorem ev_gT {n : Nat} {gs : List MG} {ds : List D} (k : ds.length = n) (q : Ev E (gsAll gs ds σ h) QE) : Ev E (gT n gs (.tup ds) σ h) QE := ev_ifR (decide_eq_true k) q
theorem ev_gIx {d : D} (q : Ev E (a σ h) fun x h1 => Ev E (b σ h1) fun y h2 => GI h2 x y fun l xs j => QE σ (h2.put l (.lst (xs.set j d)))) : Ev E (gIx a b d σ h) QE := ev_bind (q.mono fun x h1 w => ev_bind (w.mono fun y h2 ⟨l, i, xs, j, e1, e2, e3, e4, w2⟩ => by
  subst e1 e2
  simp only [e3, e4]
  exact w2))
theorem ev_gFld {cs : List Nat} {f : Str} {d : D} (q : Ev E (a σ h) fun x h1 => PF h1 cs x fun l c fs => QE σ (h1.put l (.ins c (putF f d fs)))) : Ev E (gFld a cs f d σ h) QE := ev_bind (q.mono fun x h1 ⟨l, c, fs, e, e1, e2, e3, w⟩ => by
  subst e
  unfold fldK
  simp only [e1]
  exact ev_ifR (by rw [e2, decide_eq_true e3]; rfl) w)
theorem ev_quiet0 {E : XE} {r : R α} {Q : α → Hm → Prop} (w : Ev (fun _ _ _ => False) r Q) : Ev E r.quiet Q := by
  cases r with
  | ok a h => exact w
  | exc c fs h => exact w
  | bad => exact w
end
section
variable {α : Type} {E : XS} {σ : Env} {h : Hm} {Q : D → Hm → Prop} {QL : List D → Hm → Prop} {QB : Bool → Hm → Prop} {QE : Env → Hm → Prop} {a b c : ME} {as ks : MA} {t u : MT} {g : MG}
/-! ### statements -/
abbrev XS.at (E : XS) (σ : List (Option D)) : XE := fun c l h => E c l σ h
variable {P : Po} {s1 s2 : MS}
theorem es_next (q : P.nx σ h) : EvS E (sNext σ h) P := q
theorem es_seq (q : EvS E (s1 σ h) (P.nxt fun σ1 h1 => EvS E (s2 σ1 h1) P)) : EvS E (sSeq s1 s2 σ h) P := by
  unfold sSeq
  cases e : s1 σ h with
  | nx σ1 h1 => rw [e] at q; exact q
  | _ => rw [e] at q; exact q
theorem es_expr (q : Ev (E.at σ) (a σ h) fun _ h1 => P.nx σ h1) : EvS E (sExpr a σ h) P := es_stm q
theorem es_asg (q : Ev (E.at σ) (a σ h) fun x h1 => Ev (fun _ _ _ => False) (g x σ h1) fun σ1 h2 => P.nx σ1 h2) : EvS E (sAsg a g σ h) P := es_stm (q.mono fun x h1 w => es_stm (ev_quiet0 w))
theorem es_par2 {i j : Nat} (q : Ev (E.at σ) (as σ h) fun ds h1 => P2 ds fun x y => P.nx ((σ.set i (some x)).set j (some y)) h1) : EvS E (sPar [i, j] as σ h) P := es_stm (q.mono fun ds h1 ⟨x, y, e, w⟩ => by subst e; exact w)
theorem es_par3 {i j k : Nat} (q : Ev (E.at σ) (as σ h) fun ds h1 => P3_ ds fun x y z => P.nx (((σ.set i (some x)).set j (some y)).set k (some z)) h1) : EvS E (sPar [i, j, k] as σ h) P := es_stm (q.mono fun ds h1 ⟨x, y, z, e, w⟩ => by subst e; exact w)
theorem es_aug {i : Nat} {f : D → D → Hm → R D} {x : D} (e : σ[i]? = some (some x)) (q : Ev (E.at σ) (a σ h) fun y h1 => Ev (E.at σ) (f x y h1) fun z h2 => P.nx (σ.set i (some z)) h2) : EvS E (sAug i f a σ h) P := by
  unfold sAug
  rw [e]
  exact es_stm (q.mono fun y h1 w => es_stm w)
theorem es_fld {cs : List Nat} {f : Str} (q : Ev (E.at σ) (b σ h) fun y h1 => Ev (E.at σ) (a σ h1) fun x h2 => PF h2 cs x fun l c fs => P.nx σ (h2.put l (.ins c (putF f y fs)))) : EvS E (sFld a cs f b σ h) P := es_stm (q.mono fun y h1 w => es_stm (w.mono fun x h2 ⟨l, c, fs, e, e1, e2, e3, w⟩ => by
  subst e
  have k : (cs.contains c && decide (fs.length < 1000)) = true := by rw [e2, decide_eq_true e3]; rfl
  simp only [e1, k]
  exact w))
theorem es_augF {cs : List Nat} {f : Str} {op : D → D → Hm → R D} (q : Ev (E.at σ) (a σ h) fun x h1 => ∃ l c fs v, x = .loc l ∧ h1.g l = some (.ins c fs) ∧ cs.contains c = true ∧ lookF f fs = some v ∧ Ev (E.at σ) (b σ h1) fun y h2 => Ev (E.at σ) (op v y h2) fun z h3 => ∃ fs', h3.g l = some (.ins c fs') ∧ fs'.length < 1000 ∧ P.nx σ (h3.put l (.ins c (putF f z fs')))) : EvS E (sAugF a cs f op b σ h) P :=
  es_stm (q.mono fun x h1 ⟨l, c, fs, v, e, e1, e2, e3, w⟩ => by
    subst e
    simp only [e1, e2, e3]
    refine es_stm (w.mono fun y h2 w => es_stm (w.mono fun z h3 ⟨fs', e4, e5, w⟩ => ?_))
    have k : (c == c && decide (fs'.length < 1000)) = true := by rw [beq_self_eq_true, decide_eq_true e5]; rfl
    simp only [e4, k]
    exact w)
theorem es_dputS {d k : ME} (q : Ev (E.at σ) (a σ h) fun v h1 => Ev (E.at σ) (d σ h1) fun x h2 => Ev (E.at σ) (k σ h2) fun y h3 => DP h3 x y fun l kvs kk => P.nx σ (h3.put l (.dic (putK kvs kk v)))) : EvS E (sDPut d k a σ h) P :=
  es_stm (q.mono fun v h1 w => es_stm (w.mono fun x h2 w => es_stm (w.mono fun y h3 ⟨l, kvs, kk, e, e1, e2, e3, w2⟩ => by
    subst e
    simp only [e1, e2, decide_eq_true e3]
    exact w2)))
theorem es_ret (q : Ev (E.at σ) (a σ h) P.rt) : EvS E (sRet a σ h) P := es_stm q
theorem es_retN (q : P.rt .non h) : EvS E (sRetN σ h) P := q
theorem es_if (q : Ev (E.at σ) (t σ h) fun c h1 => sel c (EvS E (s1 σ h1) P) (EvS E (s2 σ h1) P)) : EvS E (sIf t s1 s2 σ h) P := es_stm (q.mono fun c h1 w => by cases c <;> exact w)
theorem es_break (q : P.bk σ h) : EvS E (sBreak σ h) P := q
theorem es_cont (q : P.ct σ h) : EvS E (sCont σ h) P := q
/-- a def's body -/
abbrev poF (Q : D → Hm → Prop) : Po := ⟨fun _ h => Q .non h, Q, fun _ _ => False, fun _ _ => False⟩
theorem ev_fn {E : XE} {N : Nat} {body : MS} {ds : List D} (q : EvS (fun c l _ h => E c l h) (body (ds.map some ++ List.replicate (N - ds.length) none) h) (poF Q)) : Ev E (fnOf N body ds h) Q := by
  unfold fnOf
  cases e : body (ds.map some ++ List.replicate (N - ds.length) none) h with
  | nx σ h1 => rw [e] at q; exact q
  | rt d h1 => rw [e] at q; exact q
  | exc c fs σ h1 => rw [e] at q; exact q
  | bk σ h1 => rw [e] at q; exact q.elim
  | ct σ h1 => rw [e] at q; exact q.elim
  | bad => rw [e] at q; exact q.elim
/-! ### loops -/
theorem ev_iSeq {E : XE} {QI : It → Hm → Prop} (q : Ev E (a σ h) fun x h1 => IT h1 x fun J => QI J h1) : Ev E (iSeq a σ h) QI := ev_bind (q.mono fun x h1 w => by
  rcases w with ⟨xs, e, w⟩ | ⟨xs, e, n, w⟩
  · subst e
    exact w
  · cases x with
    | tup ds => exact absurd rfl (n ds)
    | _ => simp only [e]; exact w)
theorem ev_rng1 {E : XE} {QI : It → Hm → Prop} (q : Ev E (as σ h) fun ds h1 => R1 ds fun j => QI ⟨intsFrom 0 j.toNat, fun _ => true⟩ h1) : Ev E (iRng as σ h) QI := ev_bind (q.mono fun ds h1 ⟨j, e, k, w⟩ => by subst e; exact ev_ifR (decide_eq_true k) w)
theorem ev_rng2 {E : XE} {QI : It → Hm → Prop} (q : Ev E (as σ h) fun ds h1 => R2_ ds fun i j => QI ⟨intsFrom i (j - i).toNat, fun _ => true⟩ h1) : Ev E (iRng as σ h) QI := ev_bind (q.mono fun ds h1 ⟨i, j, e, k, w⟩ => by subst e; exact ev_ifR (decide_eq_true k) w)
theorem ev_enum {E : XE} {QI : It → Hm → Prop} (q : Ev E (a σ h) fun x h1 => SQ h1 x fun xs => QI ⟨numbered 0 xs, fun h' => decide (h'.seq x = some xs)⟩ h1) : Ev E (iEnum a σ h) QI := ev_bind (q.mono fun x h1 ⟨xs, e, w⟩ => by simp only [e]; exact w)
theorem es_raise {c : Nat} {fsn : List Str} (q : Ev (E.at σ) (as σ h) fun ds h1 => RZ fsn ds fun fs => E c h1.n σ (h1.new (.xd fs))) : EvS E (sRaise c fsn as σ h) P := es_stm (q.mono fun ds h1 ⟨e, w⟩ => by
  simp only [decide_eq_true e]
  exact w)
theorem es_try {i : Nat} {ks cs : List Nat} (q : EvS (fun c l σ1 h1 => ks.contains c = true ∧ sel (cs.contains c) (EvS E (goneN i (s2 (σ1.set i (some (.loc h1.n))) (h1.new (.xc c l)))) P) (E c l σ1 h1)) (s1 σ h) P) : EvS E (sTryAs s1 i ks cs s2 σ h) P := by
  unfold sTryAs
  cases e : s1 σ h with
  | exc c l σ1 h1 =>
    rw [e] at q
    have q : ks.contains c = true ∧ sel (cs.contains c) (EvS E (goneN i (s2 (σ1.set i (some (.loc h1.n))) (h1.new (.xc c l)))) P) (E c l σ1 h1) := q
    show EvS E (match ks.contains c, cs.contains c with | true, true => _ | true, false => _ | false, _ => _) P
    rw [q.1]
    have q := q.2
    cases k : cs.contains c with
    | true => rw [k] at q; exact q
    | false => rw [k] at q; exact q
  | _ => rw [e] at q; exact q
theorem es_gone {i : Nat} {r : RS} (q : EvS (fun _ _ _ _ => False) r ⟨fun σ h => P.nx (σ.set i none) h, P.rt, fun σ h => P.bk (σ.set i none) h, fun σ h => P.ct (σ.set i none) h⟩) : EvS E (goneN i r) P := by
  cases r <;> exact q
theorem es_for {it : MI} {body : MS} (q : Ev (E.at σ) (it σ h) fun J h1 => EvS E (forGo g body J.ok J.xs σ h1) P) : EvS E (sFor it g body σ h) P := es_stm q
theorem for_nil {body : MS} {ok : Hm → Bool} (k : ok h = true) (q : P.nx σ h) : EvS E (forGo g body ok [] σ h) P := by
  unfold forGo
  rw [k]
  exact q
theorem for_cons {body : MS} {ok : Hm → Bool} {d : D} {ds : List D} (k : ok h = true) (q : Ev (fun _ _ _ => False) (g d σ h) fun σ1 h1 => EvS E (body σ1 h1) ⟨fun σ2 h2 => EvS E (forGo g body ok ds σ2 h2) P, P.rt, P.nx, fun σ2 h2 => EvS E (forGo g body ok ds σ2 h2) P⟩) : EvS E (forGo g body ok (d :: ds) σ h) P := by
  unfold forGo
  rw [k]
  refine es_stm (ev_quiet0 (q.mono fun σ1 h1 w => ?_))
  cases e : body σ1 h1 with
  | nx σ2 h2 => rw [e] at w; exact w
  | ct σ2 h2 => rw [e] at w; exact w
  | bk σ2 h2 => rw [e] at w; exact w
  | rt d h2 => rw [e] at w; exact w
  | exc c fs σ2 h2 => rw [e] at w; exact w
  | bad => rw [e] at w; exact w
/-- a walk by an invariant: I i before the i-th thing -/
theorem for_inv {body : MS} {ok : Hm → Bool} (I : Nat → Env → Hm → Prop) : ∀ (xs : List D) (n : Nat) (σ : Env) (h : Hm), I n σ h → (∀ i σ h, n ≤ i → i ≤ n + xs.length → I i σ h → ok h = true) →
    (∀ i d σ h, xs[i]? = some d → I (n + i) σ h → Ev (fun _ _ _ => False) (g d σ h) fun σ1 h1 => EvS E (body σ1 h1) ⟨I (n + i + 1), P.rt, P.nx, I (n + i + 1)⟩) → (∀ σ h, I (n + xs.length) σ h → P.nx σ h) → EvS E (forGo g body ok xs σ h) P
  | [], n, σ, h, i0, iok, _, fin => by
    unfold forGo
    rw [iok n σ h (Nat.le_refl _) (Nat.le_refl _) i0]
    exact fin _ _ i0
  | d :: ds, n, σ, h, i0, iok, step, fin => by
    unfold forGo
    rw [iok n σ h (Nat.le_refl _) (Nat.le_add_right _ _) i0]
    refine es_stm (ev_quiet0 ((step 0 d σ h rfl i0).mono fun σ1 h1 w => ?_))
    have nxt : ∀ σ2 h2, I (n + 1) σ2 h2 → EvS E (forGo g body ok ds σ2 h2) P := fun σ2 h2 i1 => for_inv I ds (n + 1) σ2 h2 i1 (fun i σ h k1 k2 => iok i σ h (by omega) (by simp only [List.length_cons]; omega)) (fun i d σ h e j => by
      have z := step (i + 1) d σ h (by simpa using e) (by rw [show n + (i + 1) = n + 1 + i by omega]; exact j)
      rw [show n + (i + 1) = n + 1 + i by omega] at z
      exact z) fun σ h j => fin σ h (by rw [List.length_cons, show n + (ds.length + 1) = n + 1 + ds.length by omega]; exact j)
    cases e : body σ1 h1 with
    | nx σ2 h2 => rw [e] at w; exact nxt _ _ w
    | ct σ2 h2 => rw [e] at w; exact nxt _ _ w
    | bk σ2 h2 => rw [e] at w; exact w
    | rt d h2 => rw [e] at w; exact w
    | exc c fs σ2 h2 => rw [e] at w; exact w
    | bad => rw [e] at w; exact w
theorem es_while_inv {body : MS} (I : Nat → Env → Hm → Prop) : ∀ (m n : Nat) (σ : Env) (h : Hm), m < n → I m σ h →
    (∀ m σ h, I m σ h → Ev (E.at σ) (t σ h) fun c h1 => sel c (EvS E (body σ h1) ⟨fun σ h => ∃ m', m' < m ∧ I m' σ h, P.rt, P.nx, fun σ h => ∃ m', m' < m ∧ I m' σ h⟩) (P.nx σ h1)) → EvS E (whileGo t body n σ h) P
  | m, 0, _, _, lt, _, _ => absurd lt (Nat.not_lt_zero _)
  | m, n + 1, σ, h, lt, i0, step => by
    unfold whileGo
    refine es_stm ((step m σ h i0).mono fun c h1 w => ?_)
    cases c with
    | false => exact w
    | true =>
      have nxt : ∀ σ2 h2, (∃ m', m' < m ∧ I m' σ2 h2) → EvS E (whileGo t body n σ2 h2) P := fun σ2 h2 ⟨m', k, j⟩ => es_while_inv I m' n σ2 h2 (by omega) j step
      show EvS E (match body σ h1 with | .nx σ2 h2 => whileGo t body n σ2 h2 | .ct σ2 h2 => whileGo t body n σ2 h2 | .bk σ2 h2 => .nx σ2 h2 | .rt d h2 => .rt d h2 | .exc c fs σ2 h2 => .exc c fs σ2 h2 | .bad => .bad) P
      have w : EvS E (body σ h1) ⟨fun σ h => ∃ m', m' < m ∧ I m' σ h, P.rt, P.nx, fun σ h => ∃ m', m' < m ∧ I m' σ h⟩ := w
      cases e : body σ h1 with
      | nx σ2 h2 => rw [e] at w; exact nxt _ _ w
      | ct σ2 h2 => rw [e] at w; exact nxt _ _ w
      | bk σ2 h2 => rw [e] at w; exact w
      | rt d h2 => rw [e] at w; exact w
      | exc c fs σ2 h2 => rw [e] at w; exact w
      | bad => rw [e] at w; exact w
end
section
variable {α β : Type} {E : XE} {σ : Env} {h : Hm} {Q : D → Hm → Prop} {QL : List D → Hm → Prop} {a : ME} {t : MT}
theorem ev_quiet {r : R α} {Q : α → Hm → Prop} (w : Ev (fun _ _ _ => False) r Q) : Ev E r.quiet Q := by
  cases r with
  | ok a h => exact w
  | exc c fs h => exact w
  | bad => exact w
theorem ev_comp {it : MI} {own is : List Nat} {one : Bool} (q : Ev E (it σ h) fun J h1 => Ev E (compGo (bindC one is) t a J.ok (wipe σ own) J.xs [] h1) fun acc h2 => Q (.loc h2.n) (h2.new (.lst acc))) : Ev E (eComp it own one is t a σ h) Q := ev_bind (q.mono fun J h1 w => ev_bind w)
/-- a comprehension by an invariant: acc what is told so far -/
theorem comp_inv {bd : D → Env → Option Env} {ok : Hm → Bool} (I : Nat → List D → Hm → Prop) : ∀ (xs : List D) (n : Nat) (acc : List D) (h : Hm), I n acc h → (∀ i acc h, n ≤ i → i ≤ n + xs.length → I i acc h → ok h = true) →
    (∀ i d acc h, xs[i]? = some d → I (n + i) acc h → ∃ σ1, bd d σ = some σ1 ∧ Ev (fun _ _ _ => False) (t σ1 h) fun c h1 => sel c (Ev (fun _ _ _ => False) (a σ1 h1) fun y h2 => acc.length < SL ∧ I (n + i + 1) (acc ++ [y]) h2) (I (n + i + 1) acc h1)) →
    (∀ acc h, I (n + xs.length) acc h → QL acc h) → Ev E (compGo bd t a ok σ xs acc h) QL
  | [], n, acc, h, i0, iok, _, fin => by
    unfold compGo
    exact ev_ifR (iok n acc h (Nat.le_refl _) (Nat.le_refl _) i0) (fin _ _ i0)
  | d :: ds, n, acc, h, i0, iok, step, fin => by
    unfold compGo
    rw [iok n acc h (Nat.le_refl _) (Nat.le_add_right _ _) i0]
    obtain ⟨σ1, e, w⟩ := step 0 d acc h rfl i0
    rw [e]
    have nxt : ∀ acc2 h2, I (n + 1) acc2 h2 → Ev E (compGo bd t a ok σ ds acc2 h2) QL := fun acc2 h2 i1 => comp_inv I ds (n + 1) acc2 h2 i1 (fun i acc h k1 k2 => iok i acc h (by omega) (by simp only [List.length_cons]; omega)) (fun i d acc h e j => by
      have z := step (i + 1) d acc h (by simpa using e) (by rw [show n + (i + 1) = n + 1 + i by omega]; exact j)
      rw [show n + (i + 1) = n + 1 + i by omega] at z
      exact z) fun acc h j => fin acc h (by rw [List.length_cons, show n + (ds.length + 1) = n + 1 + ds.length by omega]; exact j)
    refine ev_bind (ev_quiet (w.mono fun c h1 w => ?_))
    cases c with
    | false => exact nxt _ _ w
    | true => exact ev_bind (ev_quiet (Ev.mono w fun y h2 ⟨k, w⟩ => ev_ifR (decide_eq_true k) (nxt _ _ w)))
end
/-! ### heaps -/
section
variable {h : Hm} {l k : Nat} {o : O}
theorem put_eq (e : k = l) : (h.put l o).g k = some o := by unfold Hm.put; simp [e]
theorem put_ne (e : k ≠ l) : (h.put l o).g k = h.g k := by unfold Hm.put; simp [e]
theorem new_eq (e : k = h.n) : (h.new o).g k = some o := by unfold Hm.new; simp [e]
theorem new_ne (e : k ≠ h.n) : (h.new o).g k = h.g k := by unfold Hm.new; simp [e]
theorem put_put {o' : O} : (h.put l o).put l o' = h.put l o' := by
  unfold Hm.put
  simp only [Hm.mk.injEq, true_and]
  funext k
  by_cases e : k = l <;> simp [e]
theorem put_n : (h.put l o).n = h.n := rfl
theorem new_n : (h.new o).n = h.n + 1 := rfl
end
/-- what stood ahead, but at S, is as it was -/
structure Fr (S : List Nat) (h h' : Hm) : Prop where
  n : h.n ≤ h'.n
  g : ∀ l, l < h.n → l ∉ S → h'.g l = h.g l
theorem Fr.refl (S : List Nat) (h : Hm) : Fr S h h := ⟨Nat.le_refl _, fun _ _ _ => rfl⟩
theorem Fr.trans {S : List Nat} {h h1 h2 : Hm} (a : Fr S h h1) (b : Fr S h1 h2) : Fr S h h2 := ⟨Nat.le_trans a.n b.n, fun l k1 k2 => (b.g l (Nat.lt_of_lt_of_le k1 a.n) k2).trans (a.g l k1 k2)⟩
theorem Fr.new {S : List Nat} {h h1 : Hm} (a : Fr S h h1) (o : O) : Fr S h (h1.new o) := ⟨Nat.le_succ_of_le a.n, fun l k1 k2 => (new_ne (Nat.ne_of_lt (Nat.lt_of_lt_of_le k1 a.n))).trans (a.g l k1 k2)⟩
theorem Fr.put {S : List Nat} {h h1 : Hm} (a : Fr S h h1) {l : Nat} (o : O) (k : l ∈ S ∨ h.n ≤ l) : Fr S h (h1.put l o) := ⟨a.n, fun m k1 k2 => (put_ne (fun e => by
  subst e
  rcases k with k | k
  · exact k2 k
  · omega)).trans (a.g m k1 k2)⟩
theorem Fr.after {S T : List Nat} {h h1 h2 : Hm} (a : Fr S h h1) (b : Fr T h1 h2) (k : ∀ l ∈ T, h.n ≤ l ∨ l ∈ S) : Fr S h h2 := ⟨Nat.le_trans a.n b.n, fun l k1 k2 => (b.g l (Nat.lt_of_lt_of_le k1 a.n) fun z => by
  rcases k l z with y | y
  · omega
  · exact k2 y).trans (a.g l k1 k2)⟩
theorem Fr.sub {S T : List Nat} {h h1 : Hm} (a : Fr S h h1) (k : ∀ l ∈ S, l < h.n → l ∈ T) : Fr T h h1 := ⟨a.n, fun l k1 k2 => a.g l k1 fun z => k2 (k l z k1)⟩
theorem nth_in {α : Type} {xs : List α} {z : Int} (k0 : 0 ≤ z) (k1 : z < xs.length) : nth xs z = some (xs[z.toNat]'(by omega)) := by
  unfold nth ixI
  rw [if_pos k0, if_pos k1]
  show xs[z.toNat]? = _
  rw [List.getElem?_eq_getElem (by omega)]
theorem ixI_at {n : Nat} {z : Int} (k0 : 0 ≤ z) (k1 : z < n) : ixI n z = some z.toNat := by
  unfold ixI
  rw [if_pos k0, if_pos k1]
theorem ints_at {lo : Int} {n i : Nat} {d : D} (e : (Mo.intsFrom lo n)[i]? = some d) : d = .int (lo + i) ∧ i < n := by
  unfold Mo.intsFrom at e
  rw [List.getElem?_map] at e
  obtain ⟨j, e1, e2⟩ := Option.map_eq_some_iff.mp e
  have k := (List.getElem?_eq_some_iff.mp e1).1
  rw [List.length_range] at k
  rw [List.getElem?_range k] at e1
  cases e1
  exact ⟨e2.symm, k⟩
theorem ints_len {lo : Int} {n : Nat} : (Mo.intsFrom lo n).length = n := by rw [Mo.intsFrom, List.length_map, List.length_range]
theorem take_snoc {α : Type} {xs : List α} {i : Nat} (k : i < xs.length) : xs.take i ++ [xs[i]] = xs.take (i + 1) := by
  rw [List.take_succ, List.getElem?_eq_getElem k]
  rfl
theorem ok_seq {h : Hm} {l : Nat} {xs : List D} (e : h.g l = some (.lst xs)) : decide (h.seq (.loc l) = some xs) = true := decide_eq_true (seq_loc e)
theorem cut_from {α : Type} {xs : List α} {i : Nat} (k : i ≤ xs.length) : cutL xs (some (i : Int)) none = xs.drop i := by
  unfold cutL sIx
  simp only
  rw [if_neg (by omega), show min (i : Int).toNat xs.length = i by omega]
  exact List.take_of_length_le (by rw [List.length_drop]; omega)
theorem cut_to {α : Type} {xs : List α} {i : Nat} : cutL xs none (some (i : Int)) = xs.take i := by
  unfold cutL sIx
  simp only
  rw [if_neg (by omega), Int.toNat_natCast, Nat.sub_zero, List.drop_zero]
  by_cases k : i ≤ xs.length
  · rw [Nat.min_eq_left k]
  · rw [Nat.min_eq_right (by omega), List.take_of_length_le (Nat.le_refl _), List.take_of_length_le (by omega)]
theorem cut_mid {α : Type} {xs : List α} {f m : Int} (k0 : 0 ≤ f) (k1 : 0 ≤ m) (k : f + m ≤ xs.length) : cutL xs (some f) (some (f + m)) = (xs.drop f.toNat).take m.toNat := by
  unfold cutL sIx
  simp only
  rw [if_neg (by omega), if_neg (by omega), show min f.toNat xs.length = f.toNat by omega, show min (f + m).toNat xs.length = f.toNat + m.toNat by omega, Nat.add_sub_cancel_left]
/-! ### data that leans on no heap -/
theorem datL_imp {f g : D → Option PyData} (k : ∀ x p, f x = some p → g x = some p) : ∀ {xs : List D} {ps : List PyData}, datL f xs = some ps → datL g xs = some ps
  | [], _, e => e
  | x :: xs, ps, e => by
    unfold datL at e ⊢
    cases e1 : f x with
    | none => simp only [e1] at e; cases e
    | some p =>
      cases e2 : datL f xs with
      | none => simp only [e1, e2] at e; cases e
      | some qs =>
        simp only [e1, e2] at e
        simp only [k x p e1, datL_imp k e2]
        exact e
theorem dat_imp {h h' : Hm} (k : ∀ l o, h.g l = some o → h'.g l = some o) : ∀ (n : Nat) (x : D) (p : PyData), dat n h x = some p → dat n h' x = some p
  | 0, _, _, e => nomatch e
  | n + 1, x, p, e => by
    cases x with
    | tup ds =>
      obtain ⟨ps, e1, e2⟩ := Option.map_eq_some_iff.mp (show (datL (dat n h) ds).map PyData.tuple = some p from e)
      exact Option.map_eq_some_iff.mpr ⟨ps, datL_imp (dat_imp k n) e1, e2⟩
    | kl ds =>
      obtain ⟨ps, e1, e2⟩ := Option.map_eq_some_iff.mp (show (datL (dat n h) ds).map PyData.list = some p from e)
      exact Option.map_eq_some_iff.mpr ⟨ps, datL_imp (dat_imp k n) e1, e2⟩
    | loc l =>
      unfold dat at e ⊢
      simp only at e ⊢
      cases e1 : h.g l with
      | none => rw [e1] at e; cases e
      | some o =>
        rw [e1] at e
        rw [k l o e1]
        cases o with
        | lst xs =>
          obtain ⟨ps, e1, e2⟩ := Option.map_eq_some_iff.mp (show (datL (dat n h) xs).map PyData.list = some p from e)
          exact Option.map_eq_some_iff.mpr ⟨ps, datL_imp (dat_imp k n) e1, e2⟩
        | _ => cases e
    | _ => exact e
theorem dat_start {n : Nat} {h : Hm} {x : D} {p : PyData} (e : dat n Hm.start x = some p) : dat n h x = some p := dat_imp (fun l o z => by cases (show (none : Option O) = some o from z)) n x p e
theorem dat_up {h : Hm} : ∀ (n : Nat) (x : D) (p : PyData), dat n h x = some p → dat (n + 1) h x = some p
  | 0, _, _, e => nomatch e
  | n + 1, x, p, e => by
    cases x with
    | tup ds =>
      obtain ⟨ps, e1, e2⟩ := Option.map_eq_some_iff.mp (show (datL (dat n h) ds).map PyData.tuple = some p from e)
      exact Option.map_eq_some_iff.mpr ⟨ps, datL_imp (dat_up n) e1, e2⟩
    | kl ds =>
      obtain ⟨ps, e1, e2⟩ := Option.map_eq_some_iff.mp (show (datL (dat n h) ds).map PyData.list = some p from e)
      exact Option.map_eq_some_iff.mpr ⟨ps, datL_imp (dat_up n) e1, e2⟩
    | loc l =>
      unfold dat at e ⊢
      simp only at e ⊢
      cases e1 : h.g l with
      | none => rw [e1] at e; cases e
      | some o =>
        rw [e1] at e
        cases o with
        | lst xs =>
          obtain ⟨ps, e1, e2⟩ := Option.map_eq_some_iff.mp (show (datL (dat n h) xs).map PyData.list = some p from e)
          exact Option.map_eq_some_iff.mpr ⟨ps, datL_imp (dat_up n) e1, e2⟩
        | _ => cases e
    | _ => exact e
theorem dat_ups {h : Hm} {n m : Nat} {x : D} {p : PyData} (k : n ≤ m) (e : dat n h x = some p) : dat m h x = some p := by
  obtain ⟨j, rfl⟩ := Nat.le.dest k
  induction j with
  | zero => exact e
  | succ j ih => exact dat_up _ _ _ (ih (Nat.le_add_right _ _))
theorem datL_ints {n : Nat} {h : Hm} : ∀ ns : List Int, datL (dat (n + 1) h) (ns.map D.int) = some (ns.map PyData.int)
  | [] => rfl
  | a :: l => by
    have ih := datL_ints (n := n) (h := h) l
    show (match dat (n + 1) h (.int a), datL (dat (n + 1) h) (l.map D.int) with | some p, some ps => some (p :: ps) | _, _ => none) = _
    rw [ih]
    rfl
/-- a small thing that leans on no heap -/
def Okw (x : D) : Prop := ∃ p, dat 9 Hm.start x = some p ∧ tame p = true ∧ p.bulk ≤ 200
theorem okw_list : ∀ {xs : List D}, (∀ x ∈ xs, Okw x) → ∃ ps, datL (dat 9 Hm.start) xs = some ps ∧ tameL ps = true ∧ PyData.bulkAll ps ≤ 201 * xs.length
  | [], _ => ⟨[], rfl, by simp only [tameL], by simp only [PyData.bulkAll]; omega⟩
  | x :: xs, k => by
    obtain ⟨p, a1, a2, a3⟩ := k x List.mem_cons_self
    obtain ⟨ps, b1, b2, b3⟩ := okw_list (xs := xs) fun y hy => k y (List.mem_cons_of_mem _ hy)
    refine ⟨p :: ps, by unfold datL; simp only [a1, b1], by simp only [tameL, a2, b2, Bool.and_self], ?_⟩
    simp only [PyData.bulkAll, List.length_cons]
    omega
theorem dat_lst {h : Hm} {l : Nat} {xs : List D} {ps : List PyData} (e : h.g l = some (.lst xs)) (k : datL (dat 9 Hm.start) xs = some ps) : dat DEP h (.loc l) = some (.list ps) := by
  show dat 12 h (.loc l) = _
  unfold dat
  simp only [e]
  exact Option.map_eq_some_iff.mpr ⟨ps, datL_imp (fun x p z => dat_ups (by decide) (dat_start z)) k, rfl⟩
theorem dat_okw {h : Hm} {x : D} {p : PyData} (k : dat 9 Hm.start x = some p) : dat DEP h x = some p := dat_ups (by decide) (dat_start k)
theorem tup_okw {h : Hm} {xs : List D} {ps : List PyData} (k : datL (dat 9 Hm.start) xs = some ps) : dat DEP h (.tup xs) = some (.tuple ps) := Option.map_eq_some_iff.mpr ⟨ps, datL_imp (fun x p z => dat_ups (by decide) (dat_start z)) k, rfl⟩
mutual
theorem eqv_of_tame : ∀ d : PyData, tame d = true → PyData.eqv d d = true
  | .none, _ => rfl
  | .bool b, _ => by simp [PyData.eqv]
  | .int i, _ => by simp [PyData.eqv]
  | .str x, _ => by simp [PyData.eqv]
  | .list xs, h => by rw [PyData.eqv]; exact eqvAll_of_tame xs (by simpa only [tame] using h)
  | .tuple xs, h => by rw [PyData.eqv]; exact eqvAll_of_tame xs (by simpa only [tame] using h)
  | .dict _, h => by simp only [tame] at h; cases h
theorem eqvAll_of_tame : ∀ xs : List PyData, tameL xs = true → PyData.eqvAll xs xs = true
  | [], _ => rfl
  | x :: xs, h => by
    have h' : tame x = true ∧ tameL xs = true := by simpa only [tameL, Bool.and_eq_true] using h
    rw [PyData.eqvAll, eqv_of_tame x h'.1, eqvAll_of_tame xs h'.2]
    rfl
end
/-- lists of the same small things are shown alike -/
theorem fits_list {xs : List D} (k : ∀ x ∈ xs, Okw x) (n : xs.length ≤ 400) : ∃ ps, datL (dat 9 Hm.start) xs = some ps ∧ fits (.list ps) = true := by
  obtain ⟨ps, b1, b2, b3⟩ := okw_list k
  refine ⟨ps, b1, ?_⟩
  unfold fits
  rw [show tame (.list ps) = true from by simp only [tame]; exact b2, Bool.true_and]
  have e : PyData.bulk (.list ps) = PyData.bulkAll ps := by simp only [PyData.bulk]
  rw [e]
  exact decide_eq_true (by omega)
end Mo
end
section
/-! The simulation: what M says of a construct is a reading of it. -/
namespace Mo
open PySem L2 PyProof.Rows
structure Gm where
  K : PySem.W.Frag
  cA : Nat → Addr
  oA : Nat → Addr
  /-- tables of code objects, with the name of their lambdas -/
  T : List (Addr × Str)
  /-- what stood at the making of the lambdas that are about -/
  rt : List (List Addr × Hp)
/-- what is written by M, or stands aside and is written there -/
def Mu : HO → Prop
  | .lst _ | .dK _ | .dT _ | .set _ _ | .ins _ _ _ | .ext _ => True
  | _ => False
/-- an object that is known and stays -/
def fix1 (o : Obj) : HO := .frz o (.own 0)
/-- it is a code object of the name q -/
def Cod (q : Str) (o : Obj) : Prop := ∃ (vs : Array Value) (t : Tok), o.data = .fields vs ∧ vs[1]? = some (.str q t)
/-- a table: all code objects in it bear the name q -/
def TbS (H : Hp) (p : Addr × Str) : Prop := ∃ ps : Array Value, H p.1 = some (.tbl ps) ∧ TriplesOk ps.toList ∧ ∀ (pos : Pos) (cv : Value), codeAmong pos ps.toList = some cv → ∃ c o, cv = .ref c ∧ H c = some (fix1 o) ∧ Cod p.2 o
/-- .. and the modules' dict is known -/
def Tbs (T : List (Addr × Str)) (H : Hp) : Prop := (∀ p ∈ T, TbS H p) ∧ ∃ o, H sysModules = some (fix1 o)
theorem Tbs.keep {T : List (Addr × Str)} {H H' : Hp} (t : Tbs T H) (k1 : ∀ b ps, H b = some (.tbl ps) → H' b = some (.tbl ps)) (k2 : ∀ b o u, H b = some (.frz o u) → H' b = some (.frz o u)) : Tbs T H' := ⟨fun p hp => by
  obtain ⟨ps, h1, h2, h3⟩ := t.1 p hp
  refine ⟨ps, k1 _ _ h1, h2, fun pos cv e => ?_⟩
  obtain ⟨c, o, e1, e2, e3⟩ := h3 pos cv e
  exact ⟨c, o, e1, k2 _ _ _ e2, e3⟩, let ⟨o, e⟩ := t.2; ⟨o, k2 _ _ _ e⟩⟩
theorem Tbs.new {T : List (Addr × Str)} {H : Hp} {p : Addr} {ho : HO} (t : Tbs T H) (hp : H p = none) : Tbs T (upd H p ho) :=
  t.keep (fun b ps e => by rw [upd_ne (ne_of_none e hp)]; exact e) fun b o u e => by rw [upd_ne (ne_of_none e hp)]; exact e
theorem Tbs.put {T : List (Addr × Str)} {H : Hp} {a : Addr} {u u' : HO} (t : Tbs T H) (hu : H a = some u) (hm : Mu u) : Tbs T (upd H a u') :=
  t.keep (fun b ps e => by rw [upd_ne (ne_of e hu (by rintro rfl; exact hm))]; exact e) fun b o v e => by rw [upd_ne (ne_of e hu (by rintro rfl; exact hm))]; exact e
/-- a list that nothing changes: a known one, or one of the module -/
def SqK (K : PySem.W.Frag) (H : Hp) (a : Addr) (xs : List V) : Prop := (∃ o, H a = some (.frz o (.lst xs))) ∨
  ∃ (its : Array Value) (n : Nat), K.lookup a = some { cls := .type "list", data := .seq its n } ∧ its.size ≤ sizeLine ∧ Vals xs its.toList
theorem SqK.l {K : PySem.W.Frag} {H : Hp} {a : Addr} {xs : List V} (h : SqK K H a xs) : SqL K H a xs := by
  rcases h with ⟨o, h⟩ | ⟨its, n, h1, h5, h6⟩
  · exact .inl (.inr ⟨o, h⟩)
  · exact .inr ⟨_, its, n, h1, rfl, rfl, rfl, h5, h6⟩
mutual
inductive VRel (G : Gm) (ρ : List Addr) (H : Hp) : V → D → Prop
  | non : VRel G ρ H .non .non
  | bl (b : Bool) : VRel G ρ H (.bl b) (.bl b)
  | int (i : Int) : VRel G ρ H (.int i) (.int i)
  | str (x : Str) : VRel G ρ H (.str x) (.str x)
  | tup {a : Addr} {vs : List V} {ds : List D} : SqT G.K H a vs → VRels G ρ H vs ds → VRel G ρ H (.ref a) (.tup ds)
  | kl {a : Addr} {vs : List V} {ds : List D} : SqK G.K H a vs → VRels G ρ H vs ds → VRel G ρ H (.ref a) (.kl ds)
  | loc {a : Addr} {l : Nat} : ρ[l]? = some a → VRel G ρ H (.ref a) (.loc l)
  | ty (n : String) : VRel G ρ H (.ty n) (.ty n)
  | ob (k : Nat) : VRel G ρ H (.ref (G.oA k)) (.ob k)
inductive VRels (G : Gm) (ρ : List Addr) (H : Hp) : List V → List D → Prop
  | nil : VRels G ρ H [] []
  | cons {v : V} {d : D} {vs : List V} {ds : List D} : VRel G ρ H v d → VRels G ρ H vs ds → VRels G ρ H (v :: vs) (d :: ds)
end
def NRel {κ : Type} (G : Gm) (ρ : List Addr) (H : Hp) : List (κ × V) → List (κ × D) → Prop := Paired fun p q => p.1 = q.1 ∧ VRel G ρ H p.2 q.2
/-- an exception that is kept: at a, of the class at C, its dict at d -/
def exv (a C d : Addr) : HO := .ext fun h => ∃ (vs : Array Value) (sl : Array (Option Value)), h.get? a = some { cls := .ref C, dict := some d, data := .fields vs, slots := sl }
/-- an exception without a dict -/
def exn (a C : Addr) : HO := .ext fun h => ∃ (vs : Array Value) (sl : Array (Option Value)), h.get? a = some { cls := .ref C, dict := none, data := .fields vs, slots := sl }
def ORel (G : Gm) (ρ : List Addr) (H : Hp) (a : Addr) : O → Prop
  | .lst ds => ∃ vs, H a = some (.lst vs) ∧ VRels G ρ H vs ds
  | .dic kds => ∃ kvs, H a = some (.dK kvs) ∧ NRel G ρ H kvs kds
  | .ins c fs => ∃ dx fvs, H a = some (.ins (G.cA c) dx fvs) ∧ NRel G ρ H fvs fs
  | .xd fs => ∃ fvs, H a = some (.xd fvs) ∧ NRel G ρ H fvs fs
  | .xc c m => ∃ d, ρ[m]? = some d ∧ H a = some (exv a (G.cA c) d)
  | .odd => ∃ kvs, H a = some (.dT kvs)
  | .xn c => H a = some (exn a (G.cA c))
  | .dt kds => ∃ kvs, H a = some (.dT kvs) ∧ NRel G ρ H kvs kds
structure Grow (ρ : List Addr) (H : Hp) (ρ' : List Addr) (H' : Hp) : Prop where
  pre : ∃ t, ρ' = ρ ++ t
  tup : ∀ b xs, H b = some (.tup xs) → H' b = some (.tup xs)
  frz : ∀ b o u, H b = some (.frz o u) → H' b = some (.frz o u)
  outT : ∀ b o, H b = some o → b ∉ ρ → (∀ ps, o ≠ .tbl ps) → H' b = some o ∧ b ∉ ρ'
theorem Grow.out {ρ ρ' : List Addr} {H H' : Hp} (g : Grow ρ H ρ' H') (b : Addr) (o : HO) (e : H b = some o) (n : b ∉ ρ) (k : ∀ ps, o ≠ .tbl ps := by first | assumption | (intro _ z; cases z)) : H' b = some o ∧ b ∉ ρ' := g.outT b o e n k
/-- what values lean on -/
structure Ext (ρ : List Addr) (H : Hp) (ρ' : List Addr) (H' : Hp) : Prop where
  pre : ∃ t, ρ' = ρ ++ t
  tup : ∀ b xs, H b = some (.tup xs) → H' b = some (.tup xs)
  frz : ∀ b o u, H b = some (.frz o u) → H' b = some (.frz o u)
structure HRel (G : Gm) (ρ : List Addr) (H : Hp) (h : Hm) : Prop where
  len : ρ.length = h.n
  inj : ∀ (i j : Nat) a, ρ[i]? = some a → ρ[j]? = some a → i = j
  has : ∀ a, a ∈ ρ → ∃ o, H a = some o
  obj : ∀ l o, h.g l = some o → ∃ a, ρ[l]? = some a ∧ ORel G ρ H a o
  tabs : Tbs G.T H
  root : ∀ p ∈ G.rt, Ext p.1 p.2 ρ H
theorem Ext.trans {ρ ρ1 ρ2 : List Addr} {H H1 H2 : Hp} (a : Ext ρ H ρ1 H1) (b : Ext ρ1 H1 ρ2 H2) : Ext ρ H ρ2 H2 := by
  obtain ⟨t, e⟩ := a.pre
  obtain ⟨u, f⟩ := b.pre
  exact ⟨⟨t ++ u, by rw [f, e, List.append_assoc]⟩, fun c xs q => b.tup c xs (a.tup c xs q), fun c o u q => b.frz c o u (a.frz c o u q)⟩

section
variable {G : Gm} {ρ ρ' ρ1 ρ2 : List Addr} {H H' H1 H2 : Hp}
theorem Grow.refl (ρ : List Addr) (H : Hp) : Grow ρ H ρ H := ⟨⟨[], by simp⟩, fun _ _ e => e, fun _ _ _ e => e, fun _ _ e n _ => ⟨e, n⟩⟩
theorem Grow.trans (a : Grow ρ H ρ1 H1) (b : Grow ρ1 H1 ρ2 H2) : Grow ρ H ρ2 H2 := by
  obtain ⟨t, e⟩ := a.pre
  obtain ⟨u, f⟩ := b.pre
  refine ⟨⟨t ++ u, by rw [f, e, List.append_assoc]⟩, fun c xs q => b.tup c xs (a.tup c xs q), fun c o u q => b.frz c o u (a.frz c o u q), fun c o q n k => ?_⟩
  obtain ⟨q1, n1⟩ := a.out c o q n k
  exact b.out c o q1 n1 k
theorem Grow.ext (g : Grow ρ H ρ' H') : Ext ρ H ρ' H' := ⟨g.pre, g.tup, g.frz⟩
theorem Ext.at (g : Ext ρ H ρ' H') {l : Nat} {a : Addr} (h : ρ[l]? = some a) : ρ'[l]? = some a := by
  obtain ⟨t, rfl⟩ := g.pre
  have hl := (List.getElem?_eq_some_iff.mp h).1
  rw [List.getElem?_append_left hl]
  exact h
theorem Ext.sqT (g : Ext ρ H ρ' H') {K : PySem.W.Frag} {a : Addr} {xs : List V} (h : SqT K H a xs) : SqT K H' a xs := by
  rcases h with (h | ⟨o, h⟩) | h
  · exact .inl (.inl (g.tup _ _ h))
  · exact .inl (.inr ⟨o, g.frz _ _ _ h⟩)
  · exact .inr h
theorem Ext.sqK (g : Ext ρ H ρ' H') {K : PySem.W.Frag} {a : Addr} {xs : List V} (h : SqK K H a xs) : SqK K H' a xs := by
  rcases h with ⟨o, h⟩ | h
  · exact .inl ⟨o, g.frz _ _ _ h⟩
  · exact .inr h
mutual
theorem VRel.ext (g : Ext ρ H ρ' H') : ∀ {v : V} {d : D}, VRel G ρ H v d → VRel G ρ' H' v d
  | _, _, .non => .non
  | _, _, .bl b => .bl b
  | _, _, .int i => .int i
  | _, _, .str x => .str x
  | _, _, .tup h hs => .tup (g.sqT h) (VRels.ext g hs)
  | _, _, .kl h hs => .kl (g.sqK h) (VRels.ext g hs)
  | _, _, .loc h => .loc (g.at h)
  | _, _, .ty n => .ty n
  | _, _, .ob k => .ob k
theorem VRels.ext (g : Ext ρ H ρ' H') : ∀ {vs : List V} {ds : List D}, VRels G ρ H vs ds → VRels G ρ' H' vs ds
  | _, _, .nil => .nil
  | _, _, .cons h hs => .cons (VRel.ext g h) (VRels.ext g hs)
end
theorem NRel.ext {κ : Type} (g : Ext ρ H ρ' H') {kvs : List (κ × V)} {kds : List (κ × D)} (h : NRel G ρ H kvs kds) : NRel G ρ' H' kvs kds := Paired.mapP h fun _ _ q => ⟨q.1, q.2.ext g⟩
theorem ORel.ext (g : Ext ρ H ρ' H') {a : Addr} {o : O} (e : H' a = H a) (h : ORel G ρ H a o) : ORel G ρ' H' a o := by
  cases o with
  | lst ds => obtain ⟨vs, e1, r⟩ := h; exact ⟨vs, e.trans e1, r.ext g⟩
  | dic ds => obtain ⟨vs, e1, r⟩ := h; exact ⟨vs, e.trans e1, r.ext g⟩
  | ins c fs => obtain ⟨dx, fvs, e1, r⟩ := h; exact ⟨dx, fvs, e.trans e1, r.ext g⟩
  | xd fs => obtain ⟨fvs, e1, r⟩ := h; exact ⟨fvs, e.trans e1, r.ext g⟩
  | xc c m => obtain ⟨d, e1, e2⟩ := h; exact ⟨d, g.at e1, e.trans e2⟩
  | odd => obtain ⟨kvs, e1⟩ := h; exact ⟨kvs, e.trans e1⟩
  | xn c => exact e.trans h
  | dt ds => obtain ⟨vs, e1, r⟩ := h; exact ⟨vs, e.trans e1, r.ext g⟩
theorem VRel.grow (g : Grow ρ H ρ' H') {v : V} {d : D} (q : VRel G ρ H v d) : VRel G ρ' H' v d := q.ext g.ext
theorem VRels.grow (g : Grow ρ H ρ' H') {vs : List V} {ds : List D} (q : VRels G ρ H vs ds) : VRels G ρ' H' vs ds := q.ext g.ext
theorem NRel.grow {κ : Type} (g : Grow ρ H ρ' H') {kvs : List (κ × V)} {kds : List (κ × D)} (h : NRel G ρ H kvs kds) : NRel G ρ' H' kvs kds := h.ext g.ext
theorem ORel.grow (g : Grow ρ H ρ' H') {a : Addr} {o : O} (e : H' a = H a) (h : ORel G ρ H a o) : ORel G ρ' H' a o := h.ext g.ext e
theorem Grow.at (g : Grow ρ H ρ' H') {l : Nat} {a : Addr} (h : ρ[l]? = some a) : ρ'[l]? = some a := g.ext.at h
theorem VRels.length : ∀ {vs : List V} {ds : List D}, VRels G ρ H vs ds → vs.length = ds.length
  | _, _, .nil => rfl
  | _, _, .cons _ hs => congrArg (· + 1) hs.length
theorem VRels.get : ∀ {vs : List V} {ds : List D} {i : Nat} {d : D}, VRels G ρ H vs ds → ds[i]? = some d → ∃ v, vs[i]? = some v ∧ VRel G ρ H v d
  | _, _, _, _, .nil, e => by simp at e
  | _, _, 0, d, .cons h _, e => by simp at e; subst e; exact ⟨_, rfl, h⟩
  | _, _, i + 1, d, .cons _ hs, e => by
    obtain ⟨v, e1, r⟩ := VRels.get (i := i) hs (by simpa using e)
    exact ⟨v, by simpa using e1, r⟩
theorem VRels.append : ∀ {vs ws : List V} {ds es : List D}, VRels G ρ H vs ds → VRels G ρ H ws es → VRels G ρ H (vs ++ ws) (ds ++ es)
  | _, _, _, _, .nil, r => r
  | _, _, _, _, .cons h hs, r => .cons h (hs.append r)
theorem VRels.set {v : V} {d : D} (r : VRel G ρ H v d) : ∀ {vs : List V} {ds : List D} (i : Nat), VRels G ρ H vs ds → VRels G ρ H (vs.set i v) (ds.set i d)
  | _, _, _, .nil => .nil
  | _, _, 0, .cons _ hs => .cons r hs
  | _, _, i + 1, .cons h hs => .cons h (VRels.set r i hs)
theorem VRels.take : ∀ {vs : List V} {ds : List D} (n : Nat), VRels G ρ H vs ds → VRels G ρ H (vs.take n) (ds.take n)
  | _, _, 0, _ => .nil
  | _, _, _ + 1, .nil => .nil
  | _, _, n + 1, .cons h hs => .cons h (hs.take n)
theorem VRels.drop : ∀ {vs : List V} {ds : List D} (n : Nat), VRels G ρ H vs ds → VRels G ρ H (vs.drop n) (ds.drop n)
  | _, _, 0, r => r
  | _, _, _ + 1, .nil => .nil
  | _, _, n + 1, .cons _ hs => hs.drop n
theorem VRels.rep {vs : List V} {ds : List D} (r : VRels G ρ H vs ds) : ∀ k : Nat, VRels G ρ H (List.replicate k vs).flatten (List.replicate k ds).flatten
  | 0 => .nil
  | k + 1 => by
    rw [List.replicate_succ, List.replicate_succ, List.flatten_cons, List.flatten_cons]
    exact r.append (r.rep k)
theorem NRel.length {κ : Type} {kvs : List (κ × V)} {kds : List (κ × D)} (h : NRel G ρ H kvs kds) : kvs.length = kds.length := Paired.length h
/-- a new object -/
theorem HRel.fresh {h : Hm} (r : HRel G ρ H h) {p : Addr} (hp : H p = none) : p ∉ ρ := fun m => by
  obtain ⟨o, e⟩ := r.has p m
  rw [hp] at e; cases e
theorem Grow.tmp {p : Addr} (hp : H p = none) (ho : HO) : Grow ρ H ρ (upd H p ho) :=
  ⟨⟨[], by simp⟩, fun b xs e => by rw [upd_ne (ne_of_none e hp)]; exact e, fun b o u e => by rw [upd_ne (ne_of_none e hp)]; exact e, fun b o e n _ => ⟨by rw [upd_ne (ne_of_none e hp)]; exact e, n⟩⟩
theorem HRel.tmp {h : Hm} (r : HRel G ρ H h) {p : Addr} (hp : H p = none) (ho : HO) : HRel G ρ (upd H p ho) h := by
  refine ⟨r.len, r.inj, fun a m => ?_, fun l o e => ?_, r.tabs.new hp, fun q hq => (r.root q hq).trans (Grow.tmp hp ho).ext⟩
  · obtain ⟨o, e⟩ := r.has a m
    exact ⟨o, by rw [upd_ne (ne_of_none e hp)]; exact e⟩
  · obtain ⟨a, e1, q⟩ := r.obj l o e
    obtain ⟨u, e2⟩ := r.has a (List.mem_of_getElem? e1)
    exact ⟨a, e1, q.grow (Grow.tmp hp ho) (upd_ne (ne_of_none e2 hp))⟩
theorem Grow.new {h : Hm} (r : HRel G ρ H h) {p : Addr} (hp : H p = none) (ho : HO) : Grow ρ H (ρ ++ [p]) (upd H p ho) :=
  ⟨⟨[p], rfl⟩, fun b xs e => by rw [upd_ne (ne_of_none e hp)]; exact e, fun b o u e => by rw [upd_ne (ne_of_none e hp)]; exact e, fun b o e n _ => ⟨by rw [upd_ne (ne_of_none e hp)]; exact e, fun m => by
    rcases List.mem_append.mp m with m | m
    · exact n m
    · exact ne_of_none e hp (List.mem_singleton.mp m)⟩⟩
theorem HRel.new {h : Hm} (r : HRel G ρ H h) {p : Addr} (hp : H p = none) {ho : HO} {o : O} (q : ORel G (ρ ++ [p]) (upd H p ho) p o) : HRel G (ρ ++ [p]) (upd H p ho) (h.new o) := by
  have hn := r.fresh hp
  have g : Grow ρ H (ρ ++ [p]) (upd H p ho) := Grow.new r hp ho
  refine ⟨by rw [List.length_append, r.len]; rfl, fun i j a e1 e2 => ?_, fun a m => ?_, fun l u e => ?_, r.tabs.new hp, fun q hq => (r.root q hq).trans g.ext⟩
  · rw [List.getElem?_append] at e1 e2
    split at e1 <;> split at e2
    · exact r.inj i j a e1 e2
    · rename_i h1 h2
      have e3 := List.mem_of_getElem? e2
      rw [List.mem_singleton.mp e3] at e1
      exact absurd (List.mem_of_getElem? e1) hn
    · rename_i h1 h2
      have e3 := List.mem_of_getElem? e1
      rw [List.mem_singleton.mp e3] at e2
      exact absurd (List.mem_of_getElem? e2) hn
    · have h1 := (List.getElem?_eq_some_iff.mp e1).1
      have h2 := (List.getElem?_eq_some_iff.mp e2).1
      simp only [List.length_cons, List.length_nil] at h1 h2
      omega
  · rcases List.mem_append.mp m with m | m
    · obtain ⟨o, e⟩ := r.has a m
      exact ⟨o, by rw [upd_ne (ne_of_none e hp)]; exact e⟩
    · rw [List.mem_singleton.mp m]
      exact ⟨ho, upd_same⟩
  · by_cases hl : l = h.n
    · have e' : (if l = h.n then some o else h.g l) = some u := e
      rw [if_pos hl] at e'
      cases e'
      refine ⟨p, ?_, q⟩
      rw [hl, ← r.len]
      simp
    · have e' : (if l = h.n then some o else h.g l) = some u := e
      rw [if_neg hl] at e'
      obtain ⟨a, e1, q1⟩ := r.obj l u e'
      obtain ⟨u2, e2⟩ := r.has a (List.mem_of_getElem? e1)
      exact ⟨a, g.at e1, q1.grow g (upd_ne (ne_of_none e2 hp))⟩
theorem HRel.at {h : Hm} (r : HRel G ρ H h) {l : Nat} {a : Addr} {o : O} (e : h.g l = some o) (ha : ρ[l]? = some a) : ORel G ρ H a o := by
  obtain ⟨b, e1, q⟩ := r.obj l o e
  rw [ha] at e1
  cases e1
  exact q
theorem Grow.put {h : Hm} (r : HRel G ρ H h) {l : Nat} {a : Addr} {u : HO} (ha : ρ[l]? = some a) (hu : H a = some u) (hm : Mu u) (u' : HO) : Grow ρ H ρ (upd H a u') := by
  refine ⟨⟨[], by simp⟩, fun b xs e => ?_, fun b o v e => ?_, fun b o e n _ => ⟨?_, n⟩⟩
  · rw [upd_ne (ne_of e hu (by rintro rfl; exact hm))]; exact e
  · rw [upd_ne (ne_of e hu (by rintro rfl; exact hm))]; exact e
  · rw [upd_ne]
    · exact e
    · rintro rfl
      exact n (List.mem_of_getElem? ha)
theorem HRel.put {h : Hm} (r : HRel G ρ H h) {l : Nat} {a : Addr} {u u' : HO} {o : O} (ha : ρ[l]? = some a) (hu : H a = some u) (hm : Mu u) (q : ORel G ρ (upd H a u') a o) : HRel G ρ (upd H a u') (h.put l o) := by
  have g := Grow.put r ha hu hm u'
  refine ⟨r.len, r.inj, fun b m => ?_, fun k v e => ?_, r.tabs.put hu hm, fun q hq => (r.root q hq).trans g.ext⟩
  · by_cases hb : b = a
    · exact ⟨u', by rw [hb]; exact upd_same⟩
    · obtain ⟨o, e⟩ := r.has b m
      exact ⟨o, by rw [upd_ne hb]; exact e⟩
  · have e' : (if k = l then some o else h.g k) = some v := e
    by_cases hk : k = l
    · rw [if_pos hk] at e'
      cases e'
      exact ⟨a, by rw [hk]; exact ha, q⟩
    · rw [if_neg hk] at e'
      obtain ⟨b, e1, q1⟩ := r.obj k v e'
      refine ⟨b, e1, q1.grow g (upd_ne ?_)⟩
      rintro rfl
      exact hk (r.inj k l b e1 ha)
theorem HRel.seqL {h : Hm} (r : HRel G ρ H h) {x : D} {v : V} {ds : List D} (e : h.seq x = some ds) (q : VRel G ρ H v x) : ∃ a vs, v = .ref a ∧ SqL G.K H a vs ∧ VRels G ρ H vs ds := by
  cases q with
  | kl h1 h2 =>
    cases (show some _ = some ds from e)
    exact ⟨_, _, rfl, h1.l, h2⟩
  | @loc a l ha =>
    have e' : (match h.g l with | some (.lst xs) => some xs | _ => none) = some ds := e
    split at e'
    · rename_i xs e1
      cases e'
      obtain ⟨vs, e2, q⟩ := r.at e1 ha
      exact ⟨a, vs, rfl, SqL.of e2, q⟩
    · cases e'
  | non => cases e
  | bl b => cases e
  | int i => cases e
  | str i => cases e
  | tup _ _ => cases e
  | ty n => cases e
  | ob k => cases e
end

/-! ### what is wanted of a result -/
def SRel (G : Gm) (ρ : List Addr) (H : Hp) (σ : L2.St) (env : Env) : Prop := σ.length = env.length ∧ ∀ (i : Nat) (d : D), env[i]? = some (some d) → ∃ v, σ[i]? = some (some v) ∧ VRel G ρ H v d
def Wp {α β : Type} (G : Gm) (E : XK) (rel : List Addr → Hp → β → α → Prop) (r : R α) (ρ : List Addr) (H : Hp) (Q : β → Hp → Prop) : Prop := match r with
  | .ok a h' => ∀ ρ' H' b, Grow ρ H ρ' H' → HRel G ρ' H' h' → rel ρ' H' b a → Q b H'
  | .exc c l h' => ∀ ρ' H' d, Grow ρ H ρ' H' → HRel G ρ' H' h' → ρ'[l]? = some d → E (.ref (G.cA c)) (some d) H'
  | .bad => False
/-- what is wished of an exception, with the names -/
abbrev WM := Value → Option Addr → L2.St → Hp → Prop
abbrev EW : WM := fun _ _ _ _ => False
/-- at these names -/
abbrev atW (E : WM) (σ : L2.St) : XK := fun c d H => E c d σ H
def WpS (G : Gm) (E : WM) (r : RS) (ρ : List Addr) (H : Hp) (D : Ends) : Prop := match r with
  | .nx env h' => ∀ ρ' H' σ', Grow ρ H ρ' H' → HRel G ρ' H' h' → SRel G ρ' H' σ' env → D.nx σ' H'
  | .bk env h' => ∀ ρ' H' σ', Grow ρ H ρ' H' → HRel G ρ' H' h' → SRel G ρ' H' σ' env → D.bk σ' H'
  | .ct env h' => ∀ ρ' H' σ', Grow ρ H ρ' H' → HRel G ρ' H' h' → SRel G ρ' H' σ' env → D.ct σ' H'
  | .rt d h' => ∀ ρ' H' v, Grow ρ H ρ' H' → HRel G ρ' H' h' → VRel G ρ' H' v d → D.rt v H'
  | .exc c l env h' => ∀ ρ' H' d σ', Grow ρ H ρ' H' → HRel G ρ' H' h' → SRel G ρ' H' σ' env → ρ'[l]? = some d → E (.ref (G.cA c)) (some d) σ' H'
  | .bad => False
section
variable {G : Gm} {E : XK} {ρ ρ' ρ1 : List Addr} {H H' H1 : Hp} {α β γ δ : Type} {rel : List Addr → Hp → β → α → Prop} {rel' : List Addr → Hp → δ → γ → Prop}
theorem SRel.grow (g : Grow ρ H ρ' H') {σ : L2.St} {env : Env} (s : SRel G ρ H σ env) : SRel G ρ' H' σ env := ⟨s.1, fun i d e => let ⟨v, e1, q⟩ := s.2 i d e; ⟨v, e1, q.grow g⟩⟩
theorem SRel.set {σ : L2.St} {env : Env} (s : SRel G ρ H σ env) {v : V} {d : D} (q : VRel G ρ H v d) (i : Nat) : SRel G ρ H (σ.set i (some v)) (env.set i (some d)) := by
  refine ⟨by rw [List.length_set, List.length_set]; exact s.1, fun j e hj => ?_⟩
  by_cases h : i = j
  · subst h
    rw [List.getElem?_set] at hj ⊢
    rw [if_pos rfl] at hj ⊢
    rw [s.1]
    split at hj
    · rename_i hl
      cases hj
      exact ⟨v, by rw [if_pos hl], q⟩
    · cases hj
  · rw [List.getElem?_set_ne h] at hj ⊢
    exact s.2 j e hj
theorem SRel.unset {σ : L2.St} {env : Env} (s : SRel G ρ H σ env) (i : Nat) : SRel G ρ H (σ.set i none) (env.set i none) := by
  refine ⟨by rw [List.length_set, List.length_set]; exact s.1, fun j e hj => ?_⟩
  by_cases h : i = j
  · subst h
    rw [List.getElem?_set] at hj
    rw [if_pos rfl] at hj
    split at hj
    · cases hj
    · cases hj
  · rw [List.getElem?_set_ne h] at hj ⊢
    exact s.2 j e hj
theorem SRel.wipe {σ : L2.St} {env : Env} (s : SRel G ρ H σ env) : ∀ vs : List Nat, SRel G ρ H (L2.wipe σ vs) (wipe env vs)
  | [] => s
  | v :: vs => (SRel.wipe s vs).unset v
theorem Wp.grow (g : Grow ρ H ρ1 H1) {r : R α} {Q : β → Hp → Prop} (w : Wp G E rel r ρ H Q) : Wp G E rel r ρ1 H1 Q := by
  cases r with
  | ok a h' => exact fun ρ' H' b g' hr q => w ρ' H' b (g.trans g') hr q
  | exc c fs h' => exact fun ρ' H' d g' hr e => w ρ' H' d (g.trans g') hr e
  | bad => exact w
theorem WpS.grow {E : WM} (g : Grow ρ H ρ1 H1) {r : RS} {D : Ends} (w : WpS G E r ρ H D) : WpS G E r ρ1 H1 D := by
  cases r with
  | nx a h' => exact fun ρ' H' b g' hr q => w ρ' H' b (g.trans g') hr q
  | bk a h' => exact fun ρ' H' b g' hr q => w ρ' H' b (g.trans g') hr q
  | ct a h' => exact fun ρ' H' b g' hr q => w ρ' H' b (g.trans g') hr q
  | rt a h' => exact fun ρ' H' b g' hr q => w ρ' H' b (g.trans g') hr q
  | exc c fs env h' => exact fun ρ' H' d σ' g' hr s e => w ρ' H' d σ' (g.trans g') hr s e
  | bad => exact w
/-- one part, then the rest -/
theorem Wp.seq {r : R α} {f : α → Hm → R γ} {Q : δ → Hp → Prop} {Q1 : β → Hp → Prop} (w : Wp G E rel' (r.bind f) ρ H Q)
    (k : ∀ a h' ρ' H' b, Grow ρ H ρ' H' → HRel G ρ' H' h' → rel ρ' H' b a → Wp G E rel' (f a h') ρ' H' Q → Q1 b H') : Wp G E rel r ρ H Q1 := by
  cases r with
  | ok a h' => exact fun ρ' H' b g hr q => k a h' ρ' H' b g hr q (Wp.grow g w)
  | exc c fs h' => exact w
  | bad => exact w
theorem Wp.stm {E : WM} {σ : L2.St} {env : Env} {r : R α} {f : α → Hm → RS} {D : Ends} {Q1 : β → Hp → Prop} (hs : SRel G ρ H σ env) (w : WpS G E (r.stm env f) ρ H D)
    (k : ∀ a h' ρ' H' b, Grow ρ H ρ' H' → HRel G ρ' H' h' → rel ρ' H' b a → WpS G E (f a h') ρ' H' D → Q1 b H') : Wp G (atW E σ) rel r ρ H Q1 := by
  cases r with
  | ok a h' => exact fun ρ' H' b g hr q => k a h' ρ' H' b g hr q (WpS.grow g w)
  | exc c fs h' => exact fun ρ' H' d g hr e => w ρ' H' d σ g hr (hs.grow g) e
  | bad => exact w
/-- where nothing may be raised -/
theorem Wp.stmQ {E : WM} {E' : XK} {env : Env} {r : R α} {f : α → Hm → RS} {D : Ends} {Q1 : β → Hp → Prop} (w : WpS G E (r.quiet.stm env f) ρ H D)
    (k : ∀ a h' ρ' H' b, Grow ρ H ρ' H' → HRel G ρ' H' h' → rel ρ' H' b a → WpS G E (f a h') ρ' H' D → Q1 b H') : Wp G E' rel r ρ H Q1 := by
  cases r with
  | ok a h' => exact fun ρ' H' b g hr q => k a h' ρ' H' b g hr q (WpS.grow g w)
  | exc c fs h' => exact False.elim w
  | bad => exact w
theorem Wp.any {E' : XK} {r : R α} {Q : β → Hp → Prop} (w : Wp G (fun _ _ _ => False) rel r ρ H Q) : Wp G E' rel r ρ H Q := by
  cases r with
  | ok a h' => exact w
  | exc c fs h' => exact fun ρ' H' d g hr e => (w ρ' H' d g hr e).elim
  | bad => exact w
theorem Wp.val {a : α} {h : Hm} {b : β} {Q : β → Hp → Prop} (w : Wp G E rel (.ok a h) ρ H Q) (r : HRel G ρ H h) (q : rel ρ H b a) : Q b H := w ρ H b (Grow.refl ρ H) r q
theorem Wp.ifR {c : Bool} {r : R α} {Q : β → Hp → Prop} (w : Wp G E rel (ifR c r) ρ H Q) : c = true ∧ Wp G E rel r ρ H Q := by
  cases c with
  | true => exact ⟨rfl, w⟩
  | false => exact False.elim w
theorem Wp.optR {o : Option α} {h : Hm} {Q : β → Hp → Prop} (w : Wp G E rel (optR o h) ρ H Q) : ∃ a, o = some a ∧ Wp G E rel (.ok a h) ρ H Q := by
  cases o with
  | none => exact False.elim w
  | some a => exact ⟨a, rfl, w⟩
end
/-! ### readings -/
section
variable (G : Gm) (E : WM)
def rd (m : ME) : TE := fun σ H Q => ∃ ρ env h, SRel G ρ H σ env ∧ HRel G ρ H h ∧ Wp G (atW E σ) (VRel G) (m env h) ρ H Q
def rdA (m : MA) : TA := fun σ H Q => ∃ ρ env h, SRel G ρ H σ env ∧ HRel G ρ H h ∧ Wp G (atW E σ) (VRels G) (m env h) ρ H Q
def rdT (m : MT) : TT := fun σ H Q => ∃ ρ env h, SRel G ρ H σ env ∧ HRel G ρ H h ∧ Wp G (atW E σ) (fun _ _ b a => b = a) (m env h) ρ H Q
def rdO (m : MO) : TO := fun σ H Q => ∃ ρ env h, SRel G ρ H σ env ∧ HRel G ρ H h ∧ Wp G (atW E σ) (fun _ _ b a => b = a) (m env h) ρ H Q
def rdS (m : MS) : TS := fun D σ H => ∃ ρ env h, SRel G ρ H σ env ∧ HRel G ρ H h ∧ WpS G E (m env h) ρ H D
end
def rdG (G : Gm) (_ : WM) (m : MG) : TG := fun v σ H Q => ∃ ρ env h d, SRel G ρ H σ env ∧ HRel G ρ H h ∧ VRel G ρ H v d ∧ Wp G (fun _ _ _ => False) (SRel G) (m d env h) ρ H Q
def rdGs (G : Gm) (_ : WM) (ms : List MG) : TGs := fun vs σ H Q => ∃ ρ env h ds, SRel G ρ H σ env ∧ HRel G ρ H h ∧ VRels G ρ H vs ds ∧ Wp G (fun _ _ _ => False) (SRel G) (gsAll ms ds env h) ρ H Q
theorem pe_w {X : Cx} {e : Expr} {t t' : TE} (h : PE X e t) (w : ∀ σ H Q, t' σ H Q → t σ H Q) : PE X e t' := ⟨fun pins s σ H Q I q => h.run pins s σ H Q I (w σ H Q q)⟩
theorem pt_w {X : Cx} {e : Expr} {t t' : TT} (h : PT X e t) (w : ∀ σ H Q, t' σ H Q → t σ H Q) : PT X e t' := ⟨fun pins s σ H Q I q => h.run pins s σ H Q I (w σ H Q q)⟩
theorem ps_w {X : Cx} {e : Stmt} {t t' : TS} (h : PS X e t) (w : ∀ D σ H, t' D σ H → t D σ H) : PS X e t' := ⟨fun pins s σ H D I q => h.run pins s σ H D I (w D σ H q)⟩
theorem pss_w {X : Cx} {e : List Stmt} {t t' : TS} (h : PSs X e t) (w : ∀ D σ H, t' D σ H → t D σ H) : PSs X e t' := ⟨fun pins s σ H D I q => h.run pins s σ H D I (w D σ H q)⟩
end Mo
end
section
/-! Rules of expressions. -/
namespace Mo
open PySem L2 PyProof.Rows
section
variable {G : Gm} {E : WM} {X : Cx} {a b c : Expr} {ma mb mc : ME} {pos : Pos}
theorem me_var (i : Nat) {x : Str} (hN : X.N[i]? = some x := by rfl) (hv : Vis X.env.scope x := by first | exact Or.inl rfl | exact Or.inr (Or.inl rfl) | exact Or.inr (Or.inr rfl)) (hd : (x == ("__debug__" : Str)) = false := by decide)
    (hcd : (x == ("__classdict__" : Str)) = false := by decide) : PE X (.Name x pos) (rd G E (eV i)) :=
  pe_w (pe_var (i := i) hN hv hd hcd) fun σ H Q ⟨ρ, env, h, hs, hr, w⟩ => by
    unfold eV at w
    split at w
    · rename_i d e
      obtain ⟨v, e1, q⟩ := hs.2 i d e
      exact ⟨v, e1, w.val hr q⟩
    · exact False.elim w
theorem rd_c {v : V} {d : D} (q : ∀ ρ H, VRel G ρ H v d) (σ : L2.St) (H : Hp) (Q : VK) (w : rd G E (eC d) σ H Q) : tC v σ H Q := by
  obtain ⟨ρ, env, h, hs, hr, w⟩ := w
  exact Wp.val w hr (q ρ H)
theorem me_int {i j pos} : PE X (.Constant (.int i) j pos) (rd G E (eC (.int i))) := pe_w pe_int (rd_c fun _ _ => .int i)
theorem me_bl {i j pos} : PE X (.Constant (.bool i) j pos) (rd G E (eC (.bl i))) := pe_w pe_bl (rd_c fun _ _ => .bl i)
theorem me_non {j pos} : PE X (.Constant .none j pos) (rd G E (eC .non)) := pe_w pe_non (rd_c fun _ _ => .non)
theorem me_str {x y : Str} {j pos} (h : x = y := by decide +kernel) : PE X (.Constant (.str x) j pos) (rd G E (eC (.str y))) := by
  subst h
  exact pe_w pe_str (rd_c fun _ _ => .str x)
/-- a constant of the module -/
theorem me_glob {x : Str} {v : V} {u : Value} {d : D} (hg : Gl X x) (hm : X.mg x = some u) (r : RelV v u) (q : ∀ ρ H, VRel G ρ H v d) (hd : (x == ("__debug__" : Str)) = false := by decide) : PE X (.Name x pos) (rd G E (eC d)) :=
  pe_w (pe_glob hg hm r hd) (rd_c q)
def OpS (G : Gm) (E : WM) (r : R2) (f : D → D → Hm → R D) : Prop := ∀ (σ : L2.St) (ρ : List Addr) (H : Hp) (h : Hm) (x y : D) (v u : V) (Q : VK), HRel G ρ H h → VRel G ρ H v x → VRel G ρ H u y → Wp G (atW E σ) (VRel G) (f x y h) ρ H Q → r v u H Q
def UnS (G : Gm) (E : WM) (r : V → Hp → VK → Prop) (f : D → Hm → R D) : Prop := ∀ (σ : L2.St) (ρ : List Addr) (H : Hp) (h : Hm) (x : D) (v : V) (Q : VK), HRel G ρ H h → VRel G ρ H v x → Wp G (atW E σ) (VRel G) (f x h) ρ H Q → r v H Q
theorem rd_op {r : R2} {f : D → D → Hm → R D} (hf : OpS G E r f) (σ : L2.St) (H : Hp) (Q : VK) (w : rd G E (eOp f ma mb) σ H Q) : tOp r (rd G E ma) (rd G E mb) σ H Q := by
  obtain ⟨ρ, env, h, hs, hr, w⟩ := w
  refine ⟨ρ, env, h, hs, hr, w.seq fun x h1 ρ1 H1 v g1 r1 q1 w1 => ?_⟩
  refine ⟨ρ1, env, h1, hs.grow g1, r1, w1.seq fun y h2 ρ2 H2 u g2 r2 q2 w2 => ?_⟩
  exact hf σ ρ2 H2 h2 x y v u Q r2 (q1.grow g2) q2 w2
theorem me_op {op : Operator} {r : R2} {f : D → D → Hm → R D} (ho : OpR X (binaryOp op) r) (hf : OpS G E r f) (ha : PE X a (rd G E ma)) (hb : PE X b (rd G E mb)) : PE X (.BinOp a op b pos) (rd G E (eOp f ma mb)) :=
  pe_w (pe_op ho ha hb) (rd_op hf)
theorem me_cmp {op : CmpOp} {r : R2} {f : D → D → Hm → R D} (ho : OpR X (compareOp op) r) (hf : OpS G E r f) (ha : PE X a (rd G E ma)) (hb : PE X b (rd G E mb)) (hm : behindInMarks op b = false := by first | exact nomark _ | rfl) : PE X (.Compare a [op] [b] pos) (rd G E (eOp f ma mb)) :=
  pe_w (pe_cmpR ho ha hb hm) (rd_op hf)
theorem rd_tB {t : TE} {m : ME} (k : ∀ σ H Q, rd G E m σ H Q → t σ H Q) (σ : L2.St) (H : Hp) (Q : Bool → Hp → Prop) (w : rdT G E (tB m) σ H Q) : L2.tTest t σ H Q := by
  obtain ⟨ρ, env, h, hs, hr, w⟩ := w
  refine k σ H _ ⟨ρ, env, h, hs, hr, w.seq fun x h1 ρ1 H1 v g1 r1 q1 w1 => ?_⟩
  cases q1 with
  | bl b => exact ⟨b, rfl, w1.val r1 rfl⟩
  | _ => exact False.elim w1
theorem mt_cmp {op : CmpOp} {r : R2} {f : D → D → Hm → R D} (ho : OpR X (compareOp op) r) (hf : OpS G E r f) (ha : PE X a (rd G E ma)) (hb : PE X b (rd G E mb)) (hm : behindInMarks op b = false := by first | exact nomark _ | rfl) : PT X (.Compare a [op] [b] pos) (rdT G E (tB (eOp f ma mb))) :=
  pt_w (pt_cmpR ho ha hb hm) (rd_tB (rd_op hf))
/-- an expression whose value is a truth -/
theorem mt_val (ha : PE X a (rd G E ma)) (he : ∀ whole, isTrue a X.env whole = (do let v ← whole; standAt a.pos; holding [v] (truthy v)) := by intro _; rfl) : PT X a (rdT G E (tB ma)) :=
  pt_w (pt_val ha he) fun σ H Q w => rd_tB (fun _ _ _ z => z) σ H Q w
theorem me_un {op : UnaryOp} {r : V → Hp → VK → Prop} {f : D → Hm → R D} (ho : UnR X (unaryOp op) r) (hf : UnS G E r f) (ha : PE X a (rd G E ma)) : PE X (.UnaryOp op a pos) (rd G E (eUn f ma)) :=
  pe_w (pe_un ho ha) fun σ H Q ⟨ρ, env, h, hs, hr, w⟩ => ⟨ρ, env, h, hs, hr, w.seq fun x h1 ρ1 H1 v g1 r1 q1 w1 => hf σ ρ1 H1 h1 x v Q r1 q1 w1⟩
theorem rd_chain {r r' : R2} {f g : D → D → Hm → R D} (hf : OpS G E r f) (hg : OpS G E r' g) (σ : L2.St) (H : Hp) (Q : VK) (w : rd G E (eChain f g ma mb mc) σ H Q) : tChain r r' (rd G E ma) (rd G E mb) (rd G E mc) σ H Q := by
  obtain ⟨ρ, env, h, hs, hr, w⟩ := w
  refine ⟨ρ, env, h, hs, hr, w.seq fun x h1 ρ1 H1 v g1 r1 q1 w1 => ?_⟩
  refine ⟨ρ1, env, h1, hs.grow g1, r1, w1.seq fun y h2 ρ2 H2 u g2 r2 q2 w2 => ?_⟩
  refine hf σ ρ2 H2 h2 x y v u _ r2 (q1.grow g2) q2 (w2.seq fun z h3 ρ3 H3 k g3 r3 q3 w3 => ?_)
  cases q3 with
  | bl k =>
    refine ⟨k, rfl, ?_⟩
    cases k with
    | true =>
      show rd G E mc σ H3 _
      refine ⟨ρ3, env, h3, ((hs.grow g1).grow g2).grow g3, r3, Wp.seq w3 fun z2 h4 ρ4 H4 k2 g4 r4 q4 w4 => ?_⟩
      exact hg σ ρ4 H4 h4 y z2 u k2 Q r4 ((q2.grow g3).grow g4) q4 w4
    | false => exact Wp.val w3 r3 (.bl false)
  | _ => exact False.elim w3
theorem me_chain {op op' : CmpOp} {r r' : R2} {f g : D → D → Hm → R D} (ho : OpR X (compareOp op) r) (ho' : OpR X (compareOp op') r') (hf : OpS G E r f) (hg : OpS G E r' g) (ha : PE X a (rd G E ma)) (hb : PE X b (rd G E mb)) (hc : PE X c (rd G E mc))
    (hm : lastMarks [op, op'] [b, c] = false := by rfl) : PE X (.Compare a [op, op'] [b, c] pos) (rd G E (eChain f g ma mb mc)) := pe_w (pe_chain ho ho' ha hb hc hm) (rd_chain hf hg)
theorem mt_chain {op op' : CmpOp} {r r' : R2} {f g : D → D → Hm → R D} (ho : OpR X (compareOp op) r) (ho' : OpR X (compareOp op') r') (hf : OpS G E r f) (hg : OpS G E r' g) (ha : PE X a (rd G E ma)) (hb : PE X b (rd G E mb)) (hc : PE X c (rd G E mc))
    (hm : lastMarks [op, op'] [b, c] = false := by rfl) : PT X (.Compare a [op, op'] [b, c] pos) (rdT G E (tB (eChain f g ma mb mc))) := pt_w (pt_chain ho ho' ha hb hc hm) (rd_tB (rd_chain hf hg))

/-! ### and, or, not -/
variable {ta tb : MT} {es : List Expr}
theorem mw_and1 (ha : PT X a (rdT G E ta)) : PW X (.BoolOp .And [a] pos) (rdT G E ta) := pw_and1 ha
theorem mw_or1 (ha : PT X a (rdT G E ta)) : PW X (.BoolOp .Or [a] pos) (rdT G E ta) := pw_or1 ha
theorem pw_w {e : Expr} {t t' : TT} (h : PW X e t) (w : ∀ σ H Q, t' σ H Q → t σ H Q) : PW X e t' := ⟨fun wh pins s σ H Q I q => h.run wh pins s σ H Q I (w σ H Q q)⟩
theorem mw_and (ha : PT X a (rdT G E ta)) (hb : PW X (.BoolOp .And (b :: es) pos) (rdT G E tb)) : PW X (.BoolOp .And (a :: b :: es) pos) (rdT G E (tAnd ta tb)) :=
  pw_w (pw_and ha hb) fun σ H Q ⟨ρ, env, h, hs, hr, w⟩ => ⟨ρ, env, h, hs, hr, w.seq fun k h1 ρ1 H1 v g1 r1 q1 w1 => by
    cases q1
    cases k with
    | true => exact ⟨ρ1, env, h1, hs.grow g1, r1, w1⟩
    | false => exact Wp.val w1 r1 rfl⟩
theorem mw_or (ha : PT X a (rdT G E ta)) (hb : PW X (.BoolOp .Or (b :: es) pos) (rdT G E tb)) : PW X (.BoolOp .Or (a :: b :: es) pos) (rdT G E (tOr ta tb)) :=
  pw_w (pw_or ha hb) fun σ H Q ⟨ρ, env, h, hs, hr, w⟩ => ⟨ρ, env, h, hs, hr, w.seq fun k h1 ρ1 H1 v g1 r1 q1 w1 => by
    cases q1
    cases k with
    | true => exact Wp.val w1 r1 rfl
    | false => exact ⟨ρ1, env, h1, hs.grow g1, r1, w1⟩⟩
theorem mt_not (ha : PT X a (rdT G E ta)) : PT X (.UnaryOp .Not a pos) (rdT G E (tNot ta)) :=
  pt_w (pt_not ha) fun σ H Q ⟨ρ, env, h, hs, hr, w⟩ => ⟨ρ, env, h, hs, hr, w.seq fun k h1 ρ1 H1 v g1 r1 q1 w1 => by
    cases q1
    exact Wp.val w1 r1 rfl⟩
theorem me_and (ha : PE X a (rd G E ma)) (hb : PE X (.BoolOp .And (b :: es) pos) (rd G E mb)) : PE X (.BoolOp .And (a :: b :: es) pos) (rd G E (eAnd ma mb)) :=
  pe_w (pe_and ha hb) fun σ H Q ⟨ρ, env, h, hs, hr, w⟩ => ⟨ρ, env, h, hs, hr, w.seq fun x h1 ρ1 H1 v g1 r1 q1 w1 => by
    cases q1 with
    | bl k =>
      refine ⟨k, rfl, ?_⟩
      cases k with
      | true => exact ⟨ρ1, env, h1, hs.grow g1, r1, w1⟩
      | false => exact Wp.val w1 r1 (.bl false)
    | _ => exact False.elim w1⟩
theorem me_or (ha : PE X a (rd G E ma)) (hb : PE X (.BoolOp .Or (b :: es) pos) (rd G E mb)) : PE X (.BoolOp .Or (a :: b :: es) pos) (rd G E (eOr ma mb)) :=
  pe_w (pe_or ha hb) fun σ H Q ⟨ρ, env, h, hs, hr, w⟩ => ⟨ρ, env, h, hs, hr, w.seq fun x h1 ρ1 H1 v g1 r1 q1 w1 => by
    cases q1 with
    | bl k =>
      refine ⟨k, rfl, ?_⟩
      cases k with
      | true => exact Wp.val w1 r1 (.bl true)
      | false => exact ⟨ρ1, env, h1, hs.grow g1, r1, w1⟩
    | _ => exact False.elim w1⟩
theorem me_one {op} (ha : PE X a (rd G E ma)) : PE X (.BoolOp op [a] pos) (rd G E ma) := pe_one ha
theorem me_not (ha : PE X a (rd G E ma)) : PE X (.UnaryOp .Not a pos) (rd G E (eNot ma)) :=
  pe_w (pe_not ha) fun σ H Q ⟨ρ, env, h, hs, hr, w⟩ => ⟨ρ, env, h, hs, hr, w.seq fun x h1 ρ1 H1 v g1 r1 q1 w1 => by
    cases q1 with
    | bl k => exact ⟨k, rfl, Wp.val w1 r1 (.bl (!k))⟩
    | _ => exact False.elim w1⟩
theorem me_if (hc : PT X c (rdT G E ta)) (ha : PE X a (rd G E ma)) (hb : PE X b (rd G E mb)) : PE X (.IfExp c a b pos) (rd G E (eIf ta ma mb)) :=
  pe_w (pe_ifExp hc ha hb) fun σ H Q ⟨ρ, env, h, hs, hr, w⟩ => ⟨ρ, env, h, hs, hr, w.seq fun k h1 ρ1 H1 v g1 r1 q1 w1 => by
    cases q1
    cases k with
    | true => exact ⟨ρ1, env, h1, hs.grow g1, r1, w1⟩
    | false => exact ⟨ρ1, env, h1, hs.grow g1, r1, w1⟩⟩

/-! ### lists of expressions, displays -/
variable {as : MA}
theorem pa_w {es : List Expr} {t t' : TA} (h : PA X es t) (w : ∀ σ H Q, t' σ H Q → t σ H Q) : PA X es t' := ⟨fun pos pins s σ H Q I q => h.run pos pins s σ H Q I (w σ H Q q)⟩
theorem rd_aNil (σ : L2.St) (H : Hp) (Q : List V → Hp → Prop) (w : rdA G E aNil σ H Q) : tNil σ H Q := by
  obtain ⟨ρ, env, h, hs, hr, w⟩ := w
  exact Wp.val w hr .nil
theorem rd_aCons (σ : L2.St) (H : Hp) (Q : List V → Hp → Prop) (w : rdA G E (aCons ma as) σ H Q) : tCons (rd G E ma) (rdA G E as) σ H Q := by
  obtain ⟨ρ, env, h, hs, hr, w⟩ := w
  refine ⟨ρ, env, h, hs, hr, w.seq fun x h1 ρ1 H1 v g1 r1 q1 w1 => ?_⟩
  refine ⟨ρ1, env, h1, hs.grow g1, r1, w1.seq fun xs h2 ρ2 H2 vs g2 r2 q2 w2 => ?_⟩
  exact Wp.val w2 r2 (.cons (q1.grow g2) q2)
theorem ma_nil : PA X [] (rdA G E aNil) := pa_w pa_nil rd_aNil
theorem ma_cons (ha : PE X a (rd G E ma)) (hr : PA X es (rdA G E as)) (hs : starEach (a :: es) X.env = (false, eval a X.env) :: starEach es X.env := by rfl) : PA X (a :: es) (rdA G E (aCons ma as)) :=
  pa_w (pa_cons ha hr hs) rd_aCons
theorem sl_le {n : Nat} (h : n ≤ SL) : n ≤ sizeLine := Nat.le_trans h (by unfold SL; decide)
theorem sl_lt {n : Nat} (h : n < SL) : n < sizeLine := Nat.lt_of_lt_of_le h (by unfold SL; decide)
theorem me_tup {x1} (h : PA X es (rdA G E as)) : PE X (.Tuple es x1 pos) (rd G E (eTup as)) :=
  pe_w (pe_tup h) fun σ H Q ⟨ρ, env, hh, hs, hr, w⟩ => ⟨ρ, env, hh, hs, hr, w.seq fun ds h1 ρ1 H1 vs g1 r1 q1 w1 => by
    obtain ⟨c, w2⟩ := w1.ifR
    have c := of_decide_eq_true c
    refine ⟨by rw [q1.length]; exact sl_le c, fun p hp => ?_⟩
    have g := Grow.tmp (ρ := ρ1) hp (.tup vs)
    exact w2 ρ1 _ _ g (r1.tmp hp _) (.tup (SqT.of upd_same) (q1.grow g))⟩
theorem me_lst (h : PA X es (rdA G E as)) : PE X (.List es pos) (rd G E (eLst as)) :=
  pe_w (pe_lst h) fun σ H Q ⟨ρ, env, hh, hs, hr, w⟩ => ⟨ρ, env, hh, hs, hr, w.seq fun ds h1 ρ1 H1 vs g1 r1 q1 w1 => by
    obtain ⟨c, w2⟩ := w1.ifR
    have c := of_decide_eq_true c
    refine ⟨by rw [q1.length]; exact sl_le c, fun p hp => ?_⟩
    have g := Grow.new r1 hp (.lst vs)
    refine w2 _ _ _ g (r1.new hp ⟨vs, upd_same, q1.grow g⟩) (.loc ?_)
    rw [← r1.len]
    simp⟩
/-- what a new list gives -/
theorem Wp.newL {E' : XK} {ρ : List Addr} {H : Hp} {h : Hm} {ds : List D} {vs : List V} {Q : VK} (w : Wp G E' (VRel G) (.ok (.loc h.n) (h.new (.lst ds))) ρ H Q) (r : HRel G ρ H h) (q : VRels G ρ H vs ds) {p : Addr} (hp : H p = none) : Q (.ref p) (upd H p (.lst vs)) := by
  have g := Grow.new r hp (.lst vs)
  refine w _ _ _ g (r.new hp ⟨vs, upd_same, q.grow g⟩) (.loc ?_)
  rw [← r.len]
  simp
/-- what a list written gives -/
theorem Wp.putL {E' : XK} {ρ : List Addr} {H : Hp} {h : Hm} {l : Nat} {p : Addr} {ds : List D} {vs ws : List V} {d : D} {v : V} {Q : VK} (w : Wp G E' (VRel G) (.ok d (h.put l (.lst ds))) ρ H Q) (r : HRel G ρ H h) (hl : ρ[l]? = some p) (e : H p = some (.lst ws))
    (q : VRels G ρ H vs ds) (qd : VRel G ρ H v d) : Q v (upd H p (.lst vs)) := by
  have g := Grow.put r hl e trivial (.lst vs)
  exact w _ _ _ g (r.put hl e trivial ⟨vs, upd_same, q.grow g⟩) (qd.grow g)
/-! ### the operators -/
theorem os_add : OpS G E (fun x y H Q => rI0 (fun i j => .int (i + j)) x y H Q ∨ (∃ i j, x = .str i ∧ y = .str j ∧ i.length + j.length ≤ sizeLine ∧ Q (.str (i ++ j)) H) ∨ rCat x y H Q) opAdd := by
  intro τ ρ H h x y v u Q r q1 q2 w
  cases q1 with
  | int i =>
    cases q2 with
    | int j => exact .inl ⟨i, j, rfl, rfl, w.val r (.int _)⟩
    | _ => exact False.elim w
  | str i =>
    cases q2 with
    | str j =>
      obtain ⟨c, w⟩ := Wp.ifR w
      exact .inr (.inl ⟨i, j, rfl, rfl, sl_le (of_decide_eq_true c), w.val r (.str _)⟩)
    | _ => exact False.elim w
  | loc ha =>
    cases q2 with
    | loc hb =>
      simp only [opAdd] at w
      split at w <;> first | exact False.elim w | skip
      rename_i e3 e4
      obtain ⟨vs, e5, k5⟩ := r.at e3 ha
      obtain ⟨ws, e6, k6⟩ := r.at e4 hb
      obtain ⟨c, w⟩ := Wp.ifR w
      exact .inr (.inr ⟨_, _, vs, ws, rfl, rfl, e5, e6, by rw [k5.length, k6.length]; exact sl_le (of_decide_eq_true c), fun p hp => w.newL r (k5.append k6) hp⟩)
    | _ => exact False.elim w
  | _ => cases q2 <;> exact False.elim w
theorem op_addU : OpR X (binaryOp .Add) (fun x y H Q => rI0 (fun i j => .int (i + j)) x y H Q ∨ (∃ i j, x = .str i ∧ y = .str j ∧ i.length + j.length ≤ sizeLine ∧ Q (.str (i ++ j)) H) ∨ rCat x y H Q) := op_add.or (op_add_str.or op_cat)
theorem os_I0 {g : Int → Int → V} {f : D → D → Hm → R D} (hI : ∀ i j h, ∃ d, f (.int i) (.int j) h = .ok d h ∧ ∀ ρ H, VRel G ρ H (g i j) d) (hN : ∀ x y h, (∀ i j, x = .int i → y = .int j → False) → f x y h = .bad) : OpS G E (rI0 g) f := by
  intro τ ρ H h x y v u Q r q1 q2 w
  by_cases c : ∃ i j, x = .int i ∧ y = .int j
  · obtain ⟨i, j, rfl, rfl⟩ := c
    cases q1
    cases q2
    obtain ⟨d, e, q⟩ := hI i j h
    rw [e] at w
    exact ⟨i, j, rfl, rfl, w.val r (q ρ H)⟩
  · rw [hN x y h fun i j e1 e2 => c ⟨i, j, e1, e2⟩] at w
    exact False.elim w
theorem os_I {C : Int → Int → Prop} {g : Int → Int → Int} {f : D → D → Hm → R D} {c : Int → Int → Bool} (hI : ∀ i j h, f (.int i) (.int j) h = ifR (c i j) (.ok (.int (g i j)) h)) (hc : ∀ i j, c i j = true → C i j) (hN : ∀ x y h, (∀ i j, x = .int i → y = .int j → False) → f x y h = .bad) :
    OpS G E (rI C fun i j => .int (g i j)) f := by
  intro τ ρ H h x y v u Q r q1 q2 w
  by_cases k : ∃ i j, x = .int i ∧ y = .int j
  · obtain ⟨i, j, rfl, rfl⟩ := k
    cases q1
    cases q2
    rw [hI] at w
    obtain ⟨k, w⟩ := Wp.ifR w
    exact ⟨i, j, rfl, rfl, hc i j k, w.val r (.int _)⟩
  · rw [hN x y h fun i j e1 e2 => k ⟨i, j, e1, e2⟩] at w
    exact False.elim w
theorem os_sub : OpS G E (rI0 fun i j => .int (i - j)) opSub := os_I0 (fun i j h => ⟨_, rfl, fun _ _ => .int _⟩) fun x y h k => by
  cases x <;> first | rfl | (cases y <;> first | rfl | exact (k _ _ rfl rfl).elim)
theorem os_mod : OpS G E (rI (fun _ j => 0 < j) fun i j => .int (i % j)) opMod := os_I (c := fun i j => decide (0 < j)) (fun i j h => rfl) (fun i j e => of_decide_eq_true e) fun x y h k => by
  cases x <;> first | rfl | (cases y <;> first | rfl | exact (k _ _ rfl rfl).elim)
theorem os_fdiv : OpS G E (rI CDiv fun i j => .int (i / j)) opFDiv := os_I (c := fun i j => decide (0 < j ∧ j < 1073741824)) (fun i j h => rfl) (fun i j e => (of_decide_eq_true e : 0 < j ∧ j < 1073741824)) fun x y h k => by
  cases x <;> first | rfl | (cases y <;> first | rfl | exact (k _ _ rfl rfl).elim)
theorem os_pow : OpS G E (rI CPow fun i j => .int (i ^ j.toNat)) opPow := os_I (c := fun i j => decide (0 ≤ j ∧ j ≤ 1000000 ∧ i.natAbs < 2 ^ 64)) (fun i j h => rfl) (fun i j e => (of_decide_eq_true e : 0 ≤ j ∧ j ≤ 1000000 ∧ i.natAbs < 2 ^ 64)) fun x y h k => by
  cases x <;> first | rfl | (cases y <;> first | rfl | exact (k _ _ rfl rfl).elim)
theorem os_mul : OpS G E (fun x y H Q => rI CMul (fun i j => .int (i * j)) x y H Q ∨ rRep x y H Q) opMul := by
  intro τ ρ H h x y v u Q r q1 q2 w
  cases q1 with
  | int i =>
    cases q2 with
    | int j =>
      obtain ⟨c, w⟩ := Wp.ifR w
      exact .inl ⟨i, j, rfl, rfl, (of_decide_eq_true c : (-(2 ^ 64) < i ∧ i < 2 ^ 64) ∨ (-(2 ^ 64) < j ∧ j < 2 ^ 64)), w.val r (.int _)⟩
    | _ => exact False.elim w
  | loc ha =>
    cases q2 with
    | int k =>
      simp only [opMul] at w
      split at w <;> first | exact False.elim w | skip
      rename_i e3
      obtain ⟨vs, e5, k5⟩ := r.at e3 ha
      obtain ⟨c, w⟩ := Wp.ifR w
      obtain ⟨c1, c2, c3⟩ := of_decide_eq_true c
      exact .inr ⟨_, k, vs, rfl, rfl, e5, c1, c2, by rw [k5.length]; exact sl_le c3, fun p hp => w.newL r (k5.rep _) hp⟩
    | _ => exact False.elim w
  | _ => cases q2 <;> exact False.elim w
theorem op_mulU : OpR X (binaryOp .Mult) (fun x y H Q => rI CMul (fun i j => .int (i * j)) x y H Q ∨ rRep x y H Q) := op_mul.or op_rep
theorem os_cmp {p : Int → Int → Bool} : OpS G E (rI0 fun i j => .bl (p i j)) (opCmp p) := os_I0 (fun i j h => ⟨_, rfl, fun _ _ => .bl _⟩) fun x y h k => by
  cases x <;> first | rfl | (cases y <;> first | rfl | exact (k _ _ rfl rfl).elim)
theorem us_neg : UnS G E (rU fun i => .int (-i)) opNeg := by
  intro τ ρ H h x v Q r q w
  cases q with
  | int i => exact ⟨i, rfl, w.val r (.int _)⟩
  | _ => exact False.elim w
end
/-! ### data -/
section
variable {G : Gm} {E : WM} {ρ : List Addr} {H : Hp} {h : Hm}
theorem datL_dp {f : D → Option PyData} (hf : ∀ d v p, f d = some p → VRel G ρ H v d → Dp G.K H v p) : ∀ {ds : List D} {vs : List V} {ps : List PyData}, datL f ds = some ps → VRels G ρ H vs ds → DpAll G.K H vs ps
  | [], _, ps, e, .nil => by
    cases (show some [] = some ps from e)
    exact .nil
  | d :: ds, _, ps, e, .cons q qs => by
    unfold datL at e
    split at e
    · rename_i p ps' e1 e2
      cases e
      exact .cons (hf d _ p e1 q) (datL_dp hf e2 qs)
    · cases e
theorem dat_dp (r : HRel G ρ H h) : ∀ (n : Nat) (d : D) (v : V) (p : PyData), dat n h d = some p → VRel G ρ H v d → Dp G.K H v p
  | 0, _, _, _, e, _ => nomatch e
  | n + 1, .non, _, p, e, .non => by cases (show some _ = some p from e); exact .non
  | n + 1, .bl b, _, p, e, .bl _ => by cases (show some _ = some p from e); exact .bl b
  | n + 1, .int i, _, p, e, .int _ => by cases (show some _ = some p from e); exact .int i
  | n + 1, .str x, _, p, e, .str _ => by
    have e' : (match PyData.strOk x with | true => some (PyData.str x) | false => none) = some p := e
    split at e'
    · cases e'
      exact .str x
    · cases e'
  | n + 1, .tup ds, _, p, e, .tup h1 h2 => by
    obtain ⟨ps, e1, rfl⟩ := Option.map_eq_some_iff.mp (show (datL (dat n h) ds).map .tuple = some p from e)
    exact .tup h1 (datL_dp (dat_dp r n) e1 h2)
  | n + 1, .kl ds, _, p, e, .kl h1 h2 => by
    obtain ⟨ps, e1, rfl⟩ := Option.map_eq_some_iff.mp (show (datL (dat n h) ds).map .list = some p from e)
    exact .lst h1.l (datL_dp (dat_dp r n) e1 h2)
  | n + 1, .loc l, _, p, e, .loc ha => by
    have e' : (match h.g l with | some (.lst xs) => (datL (dat n h) xs).map .list | _ => none) = some p := e
    split at e'
    · rename_i xs e2
      obtain ⟨ps, e1, rfl⟩ := Option.map_eq_some_iff.mp e'
      obtain ⟨vs, e3, q⟩ := r.at e2 ha
      exact .lst (SqL.of e3) (datL_dp (dat_dp r n) e1 q)
    · cases e'
  | n + 1, .ty m, _, p, e, .ty _ => nomatch e
  | n + 1, .ob k, _, p, e, .ob _ => nomatch e
theorem datL_sh {f : D → Option PyData} {m : Nat} (hf : ∀ d p, f d = some p → p.canLay0 = true ∧ p.depth ≤ m) : ∀ {ds : List D} {ps : List PyData}, datL f ds = some ps → PyData.canLayAll0 ps = true ∧ PyData.depthAll ps ≤ m
  | [], ps, e => by
    cases (show some [] = some ps from e)
    exact ⟨by simp only [PyData.canLayAll0], by simp only [PyData.depthAll]; omega⟩
  | d :: ds, ps, e => by
    unfold datL at e
    split at e
    · rename_i p ps' e1 e2
      cases e
      obtain ⟨a1, a2⟩ := hf d p e1
      obtain ⟨b1, b2⟩ := datL_sh hf e2
      refine ⟨?_, ?_⟩
      · simp only [PyData.canLayAll0, a1, b1, Bool.and_self]
      · simp only [PyData.depthAll]
        omega
    · cases e
theorem dat_sh : ∀ (n : Nat) (d : D) (p : PyData), dat n h d = some p → p.canLay0 = true ∧ p.depth ≤ n
  | 0, _, _, e => nomatch e
  | n + 1, d, p, e => by
    have up : ∀ {xs : List D} {ps : List PyData}, datL (dat n h) xs = some ps → PyData.canLayAll0 ps = true ∧ PyData.depthAll ps ≤ n := fun e1 => datL_sh (dat_sh n) e1
    cases d with
    | non => cases (show some _ = some p from e); exact ⟨by simp only [PyData.canLay0], by simp only [PyData.depth]; omega⟩
    | bl b => cases (show some _ = some p from e); exact ⟨by simp only [PyData.canLay0], by simp only [PyData.depth]; omega⟩
    | int b => cases (show some _ = some p from e); exact ⟨by simp only [PyData.canLay0], by simp only [PyData.depth]; omega⟩
    | str b =>
      have e' : (match PyData.strOk b with | true => some (PyData.str b) | false => none) = some p := e
      split at e'
      · rename_i k
        cases e'
        exact ⟨by simp only [PyData.canLay0]; exact k, by simp only [PyData.depth]; omega⟩
      · cases e'
    | tup ds =>
      obtain ⟨ps, e1, rfl⟩ := Option.map_eq_some_iff.mp (show (datL (dat n h) ds).map .tuple = some p from e)
      obtain ⟨u1, u2⟩ := up e1
      exact ⟨by simp only [PyData.canLay0]; exact u1, by simp only [PyData.depth]; omega⟩
    | kl ds =>
      obtain ⟨ps, e1, rfl⟩ := Option.map_eq_some_iff.mp (show (datL (dat n h) ds).map .list = some p from e)
      obtain ⟨u1, u2⟩ := up e1
      exact ⟨by simp only [PyData.canLay0]; exact u1, by simp only [PyData.depth]; omega⟩
    | loc l =>
      have e' : (match h.g l with | some (.lst xs) => (datL (dat n h) xs).map .list | _ => none) = some p := e
      split at e'
      · obtain ⟨ps, e1, rfl⟩ := Option.map_eq_some_iff.mp e'
        obtain ⟨u1, u2⟩ := up e1
        exact ⟨by simp only [PyData.canLay0]; exact u1, by simp only [PyData.depth]; omega⟩
      · cases e'
    | ty m => cases e
    | ob k => cases e
theorem dat_shaped {d : D} {p : PyData} (e : dat DEP h d = some p) : SeqAt.shaped p = true := by
  obtain ⟨a, b⟩ := dat_sh _ _ _ e
  unfold SeqAt.shaped
  rw [a, decide_eq_true (Nat.le_trans b (by decide : DEP ≤ 64))]
  rfl
theorem os_eq : OpS G E (fun x y H Q => rEq x y H Q ∨ rEqD G.K x y H Q) opEq := by
  intro τ ρ H h x y v u Q r q1 q2 w
  unfold opEq at w
  split at w
  · cases q1
    cases q2
    exact .inl ⟨rfl, by rw [dec_int]; exact w.val r (by rw [show (_ == _) = decide (_ = _) from rfl]; exact .bl _)⟩
  · cases q1
    cases q2
    exact .inl ⟨rfl, by
      rename_i i j
      have e : decide (V.str i = V.str j) = @decide (i = j) (strDec i j) := by rw [Bool.eq_iff_iff]; simp
      rw [e]
      exact w.val r (.bl _)⟩
  · split at w
    · rename_i p q e1 e2
      exact .inr ⟨p, q, dat_dp r _ _ _ _ e1 q1, dat_dp r _ _ _ _ e2 q2, dat_shaped e1, dat_shaped e2, w.val r (.bl _)⟩
    · exact False.elim w
theorem os_ne : OpS G E (fun x y H Q => rNe x y H Q ∨ rNeD G.K x y H Q) opNe := by
  intro τ ρ H h x y v u Q r q1 q2 w
  unfold opNe at w
  split at w
  · cases q1
    cases q2
    exact .inl ⟨rfl, by rw [dec_int]; exact w.val r (by rw [show (_ == _) = decide (_ = _) from rfl]; exact .bl _)⟩
  · cases q1
    cases q2
    exact .inl ⟨rfl, by
      rename_i i j
      have e : decide (V.str i = V.str j) = @decide (i = j) (strDec i j) := by rw [Bool.eq_iff_iff]; simp
      rw [e]
      exact w.val r (.bl _)⟩
  · split at w
    · rename_i p q e1 e2
      exact .inr ⟨p, q, dat_dp r _ _ _ _ e1 q1, dat_dp r _ _ _ _ e2 q2, dat_shaped e1, dat_shaped e2, w.val r (.bl _)⟩
    · exact False.elim w
theorem op_eqU {X : Cx} (hu : X.A.units + 64 < cLine) : OpR X (compareOp .Eq) (fun x y H Q => rEq x y H Q ∨ rEqD X.K x y H Q) := op_eq.or (op_eqD hu)
theorem op_neU {X : Cx} (hu : X.A.units + 64 < cLine) : OpR X (compareOp .NotEq) (fun x y H Q => rNe x y H Q ∨ rNeD X.K x y H Q) := op_ne.or (op_neD hu)
theorem vnon {v : V} {d : D} (q : VRel G ρ H v d) : decide (v = .non) = decide (d = .non) := by
  cases q <;> simp
end
section
variable {G : Gm} {E : WM} {X : Cx} {a b c : Expr} {ma mb mc : ME} {pos : Pos}
theorem rd_isN {p : Bool → Bool} {r : R2} (hr : r = fun x y H Q => y = .non ∧ Q (.bl (p (decide (x = .non)))) H) (σ : L2.St) (H : Hp) (Q : VK) (w : rd G E (eUn (fun x h => .ok (.bl (p (decide (x = .non)))) h) ma) σ H Q) : tOp r (rd G E ma) (tC .non) σ H Q := by
  subst hr
  obtain ⟨ρ, env, h, hs, hr, w⟩ := w
  refine ⟨ρ, env, h, hs, hr, w.seq fun x h1 ρ1 H1 v g1 r1 q1 w1 => ?_⟩
  refine ⟨rfl, ?_⟩
  rw [vnon q1]
  exact Wp.val w1 r1 (.bl _)
theorem me_isN {j p} (ha : PE X a (rd G E ma)) : PE X (.Compare a [.Is] [.Constant .none j p] pos) (rd G E (eUn opIsN ma)) := pe_w (pe_cmpR op_isN ha pe_non (nomark _)) (rd_isN (p := id) rfl)
theorem me_notN {j p} (ha : PE X a (rd G E ma)) : PE X (.Compare a [.IsNot] [.Constant .none j p] pos) (rd G E (eUn opNotN ma)) := pe_w (pe_cmpR op_notN ha pe_non (nomark _)) (rd_isN (p := not) rfl)
theorem mt_isN {j p} (ha : PE X a (rd G E ma)) : PT X (.Compare a [.Is] [.Constant .none j p] pos) (rdT G E (tB (eUn opIsN ma))) := pt_w (pt_cmpR op_isN ha pe_non (nomark _)) (rd_tB (rd_isN (p := id) rfl))
theorem mt_notN {j p} (ha : PE X a (rd G E ma)) : PT X (.Compare a [.IsNot] [.Constant .none j p] pos) (rdT G E (tB (eUn opNotN ma))) := pt_w (pt_cmpR op_notN ha pe_non (nomark _)) (rd_tB (rd_isN (p := not) rfl))
end
end Mo
end
section
/-! Rules: places, slices, dicts, fields, methods of lists, builtins. -/
namespace Mo
open PySem L2 PyProof.Rows
section
variable {G : Gm} {E : WM} {ρ : List Addr} {H : Hp} {h : Hm}
theorem nth_at {vs : List V} {ds : List D} {i : Int} {d : D} (q : VRels G ρ H vs ds) (e : nth ds i = some d) : ∃ v, atI vs i = some v ∧ VRel G ρ H v d := by
  unfold nth at e
  obtain ⟨j, e1, e2⟩ := Option.bind_eq_some_iff.mp e
  obtain ⟨v, e3, k⟩ := q.get e2
  refine ⟨v, ?_, k⟩
  unfold atI
  have e4 : ixN vs.length i = some j := by
    rw [q.length]
    exact e1
  rw [e4]
  exact e3
theorem os_ix : OpS G E (fun x y H Q => rIxL G.K x y H Q ∨ rIxT G.K x y H Q) opIx := by
  intro τ ρ H h x y v u Q r q1 q2 w
  have go : ∀ (i : Int) xs, h.seq x = some xs → Wp G (atW E τ) (VRel G) (optR (nth xs i) h) ρ H Q → rIxL G.K v (.int i) H Q := fun i xs e w' => by
    obtain ⟨a, vs, rfl, hl, qs⟩ := r.seqL e q1
    obtain ⟨d, e2, w2⟩ := Wp.optR w'
    obtain ⟨z, e3, k⟩ := nth_at qs e2
    exact ⟨a, vs, i, z, rfl, rfl, hl, e3, w2.val r k⟩
  cases q2 with
  | int i =>
    cases q1 with
    | tup h1 h2 =>
      obtain ⟨d, e2, w⟩ := Wp.optR (show Wp G (atW E τ) (VRel G) (optR (nth _ i) h) ρ H Q from w)
      obtain ⟨z, e3, k⟩ := nth_at h2 e2
      exact .inr ⟨_, _, i, z, rfl, rfl, h1, e3, w.val r k⟩
    | kl h1 h2 => exact .inl (go i _ rfl w)
    | loc ha =>
      simp only [opIx] at w
      split at w
      · rename_i e
        exact .inl (go i _ e w)
      · exact False.elim w
    | _ => exact False.elim w
  | _ => cases q1 <;> exact False.elim w
theorem ix_LT {X : Cx} : IxR X (fun x y H Q => rIxL X.K x y H Q ∨ rIxT X.K x y H Q) := ix_list.or ix_tup
theorem kOf_rel {v : V} {d : D} {k : Key} (q : VRel G ρ H v d) (e : kOf d = some k) : v = kV k := by
  cases q with
  | int i => cases (show some _ = some k from e); rfl
  | str x => cases (show some _ = some k from e); rfl
  | _ => cases e
theorem look_rel {k : Key} : ∀ {kvs : List (Key × V)} {kds : List (Key × D)}, NRel G ρ H kvs kds → (∀ d, lookA k kds = some d → ∃ v, valV kvs k = some v ∧ VRel G ρ H v d) ∧ (lookA k kds = none → valV kvs k = none)
  | _, _, .nil => ⟨(fun d e => nomatch e), fun _ => rfl⟩
  | _, _, @Paired.cons _ _ _ p q ps qs r t => by
    obtain ⟨i1, i2⟩ := look_rel t
    obtain ⟨k1, v1⟩ := p
    obtain ⟨k2, d2⟩ := q
    obtain ⟨e1, e2⟩ := r
    have e1 : k1 = k2 := e1
    subst e1
    by_cases c : k1 = k
    · refine ⟨fun d e => ?_, fun e => ?_⟩
      · have e' : (@ite _ (k1 = k) (keyDec k1 k) (some d2) (lookA k qs)) = some d := e
        rw [if_pos c] at e'
        cases e'
        exact ⟨v1, valV_pos c, e2⟩
      · have e' : (@ite _ (k1 = k) (keyDec k1 k) (some d2) (lookA k qs)) = none := e
        rw [if_pos c] at e'
        cases e'
    · refine ⟨fun d e => ?_, fun e => ?_⟩
      · have e' : (@ite _ (k1 = k) (keyDec k1 k) (some d2) (lookA k qs)) = some d := e
        rw [if_neg c] at e'
        rw [valV_neg c]
        exact i1 d e'
      · have e' : (@ite _ (k1 = k) (keyDec k1 k) (some d2) (lookA k qs)) = none := e
        rw [if_neg c] at e'
        rw [valV_neg c]
        exact i2 e'
theorem dec_any {p : Prop} (a b : Decidable p) : @decide p a = @decide p b := by
  cases a <;> cases b <;> first | rfl | contradiction
theorem any_rel {k : Key} : ∀ {kvs : List (Key × V)} {kds : List (Key × D)}, NRel G ρ H kvs kds → (kvs.any fun kv => decide (kv.1 = k)) = kds.any fun kv => @decide (kv.1 = k) (keyDec kv.1 k)
  | _, _, .nil => rfl
  | _, _, .cons r t => by
    rw [List.any_cons, List.any_cons, any_rel t, r.1, dec_any _ (keyDec _ _)]
theorem map_rel {k : Key} {v : V} {d : D} (q : VRel G ρ H v d) : ∀ {kvs : List (Key × V)} {kds : List (Key × D)}, NRel G ρ H kvs kds → NRel G ρ H (kvs.map fun kv => if kv.1 = k then (kv.1, v) else kv) (kds.map fun kv => @ite _ (kv.1 = k) (keyDec kv.1 k) (kv.1, d) kv)
  | _, _, .nil => .nil
  | _, _, @Paired.cons _ _ _ p q' ps qs r t => by
    rw [List.map_cons, List.map_cons]
    refine .cons ?_ (map_rel q t)
    rw [← r.1]
    by_cases c : p.1 = k
    · rw [if_pos c, if_pos c]
      exact ⟨rfl, q⟩
    · rw [if_neg c, if_neg c]
      exact r
theorem NRel.append {κ : Type} : ∀ {a b : List (κ × V)} {c d : List (κ × D)}, NRel G ρ H a c → NRel G ρ H b d → NRel G ρ H (a ++ b) (c ++ d)
  | _, _, _, _, .nil, s => s
  | _, _, _, _, .cons r t, s => .cons r (NRel.append t s)
theorem put_rel {k : Key} {v : V} {d : D} {kvs : List (Key × V)} {kds : List (Key × D)} (r : NRel G ρ H kvs kds) (q : VRel G ρ H v d) : NRel G ρ H (L2.putK kvs k v) (putK kds k d) := by
  unfold L2.putK putK
  rw [any_rel r]
  split
  · rename_i e
    split
    · exact map_rel q r
    · rename_i e2
      rw [e] at e2
      cases e2
  · rename_i e
    split
    · rename_i e2
      exact absurd e2 e
    · exact NRel.append r (.cons ⟨rfl, q⟩ .nil)
theorem merge_rel : ∀ {more : List (Key × V)} {md : List (Key × D)} {kvs : List (Key × V)} {kds : List (Key × D)}, NRel G ρ H more md → NRel G ρ H kvs kds → NRel G ρ H (mergeK kvs more) (md.foldl (fun acc kv => putK acc kv.1 kv.2) kds)
  | _, _, _, _, .nil, s => s
  | _, _, kvs, kds, @Paired.cons _ _ _ p q ps qs r t, s => by
    show NRel G ρ H (mergeK (L2.putK kvs p.1 p.2) ps) (qs.foldl (fun acc kv => putK acc kv.1 kv.2) (putK kds q.1 q.2))
    rw [r.1]
    exact merge_rel t (put_rel s r.2)
theorem fld_rel {f : Str} : ∀ {kvs : List (Str × V)} {kds : List (Str × D)}, NRel G ρ H kvs kds → (∀ d, lookF f kds = some d → ∃ v, kvs.lookup f = some v ∧ VRel G ρ H v d) ∧ (lookF f kds = none → kvs.lookup f = none)
  | _, _, .nil => ⟨(fun d e => nomatch e), fun _ => rfl⟩
  | _, _, @Paired.cons _ _ _ p q ps qs r t => by
    obtain ⟨i1, i2⟩ := fld_rel (f := f) t
    obtain ⟨k1, v1⟩ := p
    obtain ⟨k2, d2⟩ := q
    obtain ⟨e1, e2⟩ := r
    have e1 : k1 = k2 := e1
    subst e1
    rw [List.lookup_cons]
    by_cases c : f = k1
    · have c2 : (f == k1) = true := by simp [c]
      rw [c2]
      refine ⟨fun d e => ?_, fun e => ?_⟩
      · have e' : (@ite _ (f = k1) (strDec f k1) (some d2) (lookF f qs)) = some d := e
        rw [if_pos c] at e'
        cases e'
        exact ⟨v1, rfl, e2⟩
      · have e' : (@ite _ (f = k1) (strDec f k1) (some d2) (lookF f qs)) = none := e
        rw [if_pos c] at e'
        cases e'
    · have c2 : (f == k1) = false := by simp [c]
      rw [c2]
      refine ⟨fun d e => ?_, fun e => ?_⟩
      · have e' : (@ite _ (f = k1) (strDec f k1) (some d2) (lookF f qs)) = some d := e
        rw [if_neg c] at e'
        exact i1 d e'
      · have e' : (@ite _ (f = k1) (strDec f k1) (some d2) (lookF f qs)) = none := e
        rw [if_neg c] at e'
        exact i2 e'
theorem putF_rel {f : Str} {v : V} {d : D} (q : VRel G ρ H v d) : ∀ {kvs : List (Str × V)} {kds : List (Str × D)}, NRel G ρ H kvs kds → NRel G ρ H (L2.putF f v kvs) (putF f d kds)
  | _, _, .nil => .cons ⟨rfl, q⟩ .nil
  | _, _, @Paired.cons _ _ _ p q' ps qs r t => by
    obtain ⟨k1, v1⟩ := p
    obtain ⟨k2, d2⟩ := q'
    obtain ⟨e1, e2⟩ := r
    have e1 : k1 = k2 := e1
    subst e1
    show NRel G ρ H (if k1 = f then (k1, v) :: ps else (k1, v1) :: L2.putF f v ps) (@ite _ (k1 = f) (strDec k1 f) ((k1, d) :: qs) ((k1, d2) :: putF f d qs))
    by_cases c : k1 = f
    · rw [if_pos c, if_pos c]
      exact .cons ⟨rfl, q⟩ t
    · rw [if_neg c, if_neg c]
      exact .cons ⟨rfl, e2⟩ (putF_rel q t)
theorem cut_rel {vs : List V} {ds : List D} (q : VRels G ρ H vs ds) (lo hi : Option Int) : VRels G ρ H (cutV vs lo hi) (cutL ds lo hi) := by
  have e : ∀ n d o, HT.sIx n d o = sIx n d o := fun n d o => by cases o <;> rfl
  unfold cutV cutL
  rw [e, e, q.length]
  exact (q.drop _).take _
end
section
variable {G : Gm} {E : WM} {X : Cx} {a b c o : Expr} {ma mb mc : ME} {pos : Pos} {as ks : MA} {es : List Expr}
theorem me_ix (hK : X.K = G.K) (ha : PE X a (rd G E ma)) (hb : PE X b (rd G E mb)) (hs : PlainIx b := by exact fun _ _ => rfl) : PE X (.Subscript a b pos) (rd G E (eOp opIx ma mb)) := by
  refine pe_w (pe_ix ix_LT ha hb hs) ?_
  rw [hK]
  exact rd_op os_ix
theorem me_dget (hu : X.A.units + 1 < cLine) (ha : PE X a (rd G E ma)) (hb : PE X b (rd G E mb)) (hs : NoSl b := by exact fun _ _ => rfl) : PE X (.Subscript a b pos) (rd G E (eOp opDGet ma mb)) :=
  pe_w (pe_dget hu ha hb hs) fun σ H Q ⟨ρ, env, h, hs, hr, w⟩ => ⟨ρ, env, h, hs, hr, w.seq fun x h1 ρ1 H1 v g1 r1 q1 w1 => ⟨ρ1, env, h1, hs.grow g1, r1, w1.seq fun y h2 ρ2 H2 u g2 r2 q2 w2 => by
    have q1 := q1.grow g2
    cases q1 with
    | @loc p l hl =>
      simp only [opDGet] at w2
      split at w2
      · rename_i kds k e1 e2
        obtain ⟨d, e3, w2⟩ := Wp.optR w2
        obtain ⟨kvs, e4, n⟩ := r2.at e1 hl
        obtain ⟨z, e5, q5⟩ := (look_rel n).1 d e3
        refine ⟨p, z, rfl, ?_, w2.val r2 q5⟩
        rw [kOf_rel q2 e2, ← e5]
        exact DGet.k e4
      · exact False.elim w2
    | _ => exact False.elim w2⟩⟩
variable {lo hi : Option Expr} {ml mh : MO}
theorem po_w {e : Option Expr} {t t' : TO} (h : PO X e t) (w : ∀ σ H Q, t' σ H Q → t σ H Q) : PO X e t' := ⟨fun pins s σ H Q I q => h.run pins s σ H Q I (w σ H Q q)⟩
theorem mo_none : PO X none (rdO G E oNone) := po_w po_none fun σ H Q ⟨ρ, env, h, hs, hr, w⟩ => Wp.val w hr rfl
theorem mo_some (ha : PE X a (rd G E ma)) : PO X (some a) (rdO G E (oSome ma)) := po_w (po_some ha) fun σ H Q ⟨ρ, env, h, hs, hr, w⟩ => ⟨ρ, env, h, hs, hr, w.seq fun x h1 ρ1 H1 v g1 r1 q1 w1 => by
  cases q1 with
  | int i => exact ⟨i, rfl, Wp.val w1 r1 rfl⟩
  | _ => exact False.elim w1⟩
theorem me_sl {p2 : Pos} (hK : X.K = G.K) (ha : PE X a (rd G E ma)) (hl : PO X lo (rdO G E ml)) (hh : PO X hi (rdO G E mh)) : PE X (.Subscript a (.Slice lo hi none p2) pos) (rd G E (eSl ma ml mh)) :=
  pe_w (pe_slice sl_list ha hl hh) fun σ H Q ⟨ρ, env, h, hs, hr, w⟩ => ⟨ρ, env, h, hs, hr, w.seq fun x h1 ρ1 H1 v g1 r1 q1 w1 => ⟨ρ1, env, h1, hs.grow g1, r1, w1.seq fun y h2 ρ2 H2 u g2 r2 q2 w2 =>
    ⟨ρ2, env, h2, (hs.grow g1).grow g2, r2, w2.seq fun z h3 ρ3 H3 t g3 r3 q3 w3 => by
      cases q2
      cases q3
      split at w3
      · rename_i xs e
        obtain ⟨p, vs, rfl, hl, qs⟩ := r3.seqL e ((q1.grow g2).grow g3)
        rw [hK]
        exact ⟨p, vs, rfl, hl, fun p' hp => w3.newL r3 (cut_rel qs _ _) hp⟩
      · exact False.elim w3⟩⟩⟩
/-! ### fields -/
theorem me_fld {f : Str} {cs : List Nat} (hK : X.K = G.K) (hC : ∀ c, cs.contains c = true → Cls G.K (G.cA c) ∧ NoAttr G.K (G.cA c) f) {f' : Str} (hf : f' = f) (ha : PE X a (rd G E ma)) (hb : attributeBase a f' X.env (eval a X.env) = eval a X.env := by rfl) : PE X (.Attribute a f' pos) (rd G E (eFld ma cs f)) := by
  subst hf
  exact pe_w (pe_fld ha hb) fun σ H Q ⟨ρ, env, h, hs, hr, w⟩ => ⟨ρ, env, h, hs, hr, w.seq fun x h1 ρ1 H1 v g1 r1 q1 w1 => by
    cases q1 with
    | @loc p l hl =>
      simp only at w1
      split at w1 <;> first | exact False.elim w1 | skip
      rename_i c fs e
      obtain ⟨k, w1⟩ := Wp.ifR w1
      obtain ⟨d, e2, w1⟩ := Wp.optR w1
      obtain ⟨dx, fvs, e3, n⟩ := r1.at e hl
      obtain ⟨z, e4, q4⟩ := (fld_rel n).1 d e2
      obtain ⟨c1, c2⟩ := hC c k
      rw [hK]
      exact ⟨p, _, dx, fvs, z, rfl, e3, c1, c2, e4, w1.val r1 q4⟩
    | _ => exact False.elim w1⟩
/-! ### builtins by their names -/
def BiS (G : Gm) (E : WM) (r : List V → Hp → VK → Prop) (f : Bi) : Prop := ∀ (σ : L2.St) (ρ : List Addr) (H : Hp) (h : Hm) (ds : List D) (vs : List V) (Q : VK), HRel G ρ H h → VRels G ρ H vs ds → Wp G (atW E σ) (VRel G) (f ds h) ρ H Q → r vs H Q
theorem rd_bi {r : List V → Hp → VK → Prop} {f : Bi} (hf : BiS G E r f) (σ : L2.St) (H : Hp) (Q : VK) (w : rd G E (eBi f as) σ H Q) : tCB r (rdA G E as) σ H Q := by
  obtain ⟨ρ, env, h, hs, hr, w⟩ := w
  exact ⟨ρ, env, h, hs, hr, w.seq fun x h1 ρ1 H1 v g1 r1 q1 w1 => hf σ ρ1 H1 h1 x v Q r1 q1 w1⟩
variable {x : Str} {p : Pos}
theorem me_bi {id : String} {r : List V → Hp → VK → Prop} {f : Bi} (hc : CallR X (.builtin id) r) (hf : BiS G E r f) (hg : Gl X x) (hm : X.mg x = none) (hv : bootBuiltins x = some (.builtin id)) (ha : PA X (a :: es) (rdA G E as)) (hn : x ≠ "__name__" := by decide) (hdb : (x == ("__debug__" : Str)) = false := by decide)
    (he : starEach (a :: es) X.env = (false, eval a X.env) :: starEach es X.env := by rfl) (hpl : (backTo pos (starEach es X.env)).any (·.1) = false := by rfl) : PE X (.Call (.Name x p) (a :: es) [] pos) (rd G E (eBi f as)) := pe_w (pe_callB hc hg hm hv ha hn hdb he hpl) (rd_bi hf)
theorem me_bty {T : String} {r : List V → Hp → VK → Prop} {f : Bi} (hc : CallR X (.type T) r) (hf : BiS G E r f) (hg : Gl X x) (hm : X.mg x = none) (hv : bootBuiltins x = some (.type T)) (ha : PA X (a :: es) (rdA G E as)) (hn : x ≠ "__name__" := by decide) (hdb : (x == ("__debug__" : Str)) = false := by decide)
    (he : starEach (a :: es) X.env = (false, eval a X.env) :: starEach es X.env := by rfl) (hpl : (backTo pos (starEach es X.env)).any (·.1) = false := by rfl) : PE X (.Call (.Name x p) (a :: es) [] pos) (rd G E (eBi f as)) := pe_w (pe_callTy hc hg hm hv ha hn hdb he hpl) (rd_bi hf)
end
section
variable {G : Gm} {E : WM}
theorem vs1 {ρ : List Addr} {H : Hp} {vs : List V} {d : D} (q : VRels G ρ H vs [d]) : ∃ v, vs = [v] ∧ VRel G ρ H v d := by
  cases q with
  | cons a b =>
    cases b
    exact ⟨_, rfl, a⟩
theorem vs2 {ρ : List Addr} {H : Hp} {vs : List V} {d e : D} (q : VRels G ρ H vs [d, e]) : ∃ v w, vs = [v, w] ∧ VRel G ρ H v d ∧ VRel G ρ H w e := by
  cases q with
  | cons a b =>
    obtain ⟨w, rfl, k⟩ := vs1 b
    exact ⟨_, w, rfl, a, k⟩
/-- len of a text, a list, a tuple, a dict -/
def rLen (K : PySem.W.Frag) : List V → Hp → VK → Prop := fun xs H Q => (∃ z, xs = [.str z] ∧ z.length ≤ sizeLine ∧ Q (.int z.length) H) ∨ (∃ p ys, xs = [.ref p] ∧ (SqL K H p ys ∨ SqT K H p ys) ∧ Q (.int ys.length) H) ∨ ∃ a kvs, xs = [V.ref a] ∧ H a = some (.dK kvs) ∧ Q (.int kvs.length) H
theorem cl_len {X : Cx} : CallR X (.builtin "len") (rLen X.K) := call_len_str.or (call_len_seq.or call_lenD)
theorem bs_len : BiS G E (rLen G.K) bLen := by
  intro τ ρ H h ds vs Q r q w
  unfold bLen at w
  split at w
  · obtain ⟨v, rfl, k⟩ := vs1 q
    cases k with
    | tup h1 h2 => exact .inr (.inl ⟨_, _, rfl, .inr h1, by rw [h2.length]; exact w.val r (.int _)⟩)
  · obtain ⟨v, rfl, k⟩ := vs1 q
    obtain ⟨c, w⟩ := Wp.ifR w
    cases k with
    | str x => exact .inl ⟨_, rfl, sl_le (of_decide_eq_true c), w.val r (.int _)⟩
  · obtain ⟨v, rfl, k⟩ := vs1 q
    cases k with
    | kl h1 h2 => exact .inr (.inl ⟨_, _, rfl, .inl h1.l, by rw [h2.length]; exact w.val r (.int _)⟩)
  · obtain ⟨v, rfl, k⟩ := vs1 q
    cases k with
    | loc ha =>
      split at w
      · rename_i e
        obtain ⟨ws, e2, k2⟩ := r.at e ha
        exact .inr (.inl ⟨_, ws, rfl, .inl (SqL.of e2), by rw [k2.length]; exact w.val r (.int _)⟩)
      · rename_i e
        obtain ⟨ws, e2, k2⟩ := r.at e ha
        exact .inr (.inr ⟨_, ws, rfl, e2, by rw [k2.length]; exact w.val r (.int _)⟩)
      · exact False.elim w
  · exact False.elim w
theorem bs_list : BiS G E (fun xs H Q => ∃ p ys, xs = [.ref p] ∧ (SqL G.K H p ys ∨ SqT G.K H p ys) ∧ ∀ l, H l = none → Q (.ref l) (upd H l (.lst ys))) bList := by
  intro τ ρ H h ds vs Q r q w
  unfold bList at w
  split at w
  · obtain ⟨v, rfl, k⟩ := vs1 q
    cases k with
    | tup h1 h2 => exact ⟨_, _, rfl, .inr h1, fun l hl => w.newL r h2 hl⟩
  · obtain ⟨v, rfl, k⟩ := vs1 q
    split at w
    · rename_i xs e
      obtain ⟨p, ws, rfl, h1, h2⟩ := r.seqL e k
      exact ⟨p, ws, rfl, .inl h1, fun l hl => w.newL r h2 hl⟩
    · exact False.elim w
  · exact False.elim w
theorem bs_tuple : BiS G E (fun xs H Q => ∃ p ys, xs = [.ref p] ∧ ((SqL G.K H p ys ∧ ∀ l, H l = none → Q (.ref l) (upd H l (.tup ys))) ∨ (SqT G.K H p ys ∧ Q (.ref p) H))) bTuple := by
  intro τ ρ H h ds vs Q r q w
  unfold bTuple at w
  split at w
  · obtain ⟨v, rfl, k⟩ := vs1 q
    cases k with
    | tup h1 h2 => exact ⟨_, _, rfl, .inr ⟨h1, w.val r (.tup h1 h2)⟩⟩
  · obtain ⟨v, rfl, k⟩ := vs1 q
    split at w
    · rename_i xs e
      obtain ⟨p, ws, rfl, h1, h2⟩ := r.seqL e k
      refine ⟨p, ws, rfl, .inl ⟨h1, fun l hl => ?_⟩⟩
      have g := Grow.tmp (ρ := ρ) hl (.tup ws)
      exact w ρ _ _ g (r.tmp hl _) (.tup (SqT.of upd_same) (h2.grow g))
    · exact False.elim w
  · exact False.elim w
/-! ### methods of lists -/
def MbS (G : Gm) (E : WM) (r : V → List V → Hp → VK → Prop) (f : Mb) : Prop := ∀ (σ : L2.St) (ρ : List Addr) (H : Hp) (h : Hm) (x : D) (v : V) (ds : List D) (vs : List V) (Q : VK), HRel G ρ H h → VRel G ρ H v x → VRels G ρ H vs ds → Wp G (atW E σ) (VRel G) (f x ds h) ρ H Q → r v vs H Q
theorem bs_append : MbS G E rAppend mAppend := by
  intro τ ρ H h x v ds vs Q r q qs w
  unfold mAppend at w
  split at w
  · obtain ⟨u, rfl, k⟩ := vs1 qs
    cases q with
    | @loc a l ha =>
      split at w <;> first | exact False.elim w | skip
      rename_i xs e
      obtain ⟨c, w⟩ := Wp.ifR w
      obtain ⟨ws, e2, k2⟩ := r.at e ha
      exact ⟨a, ws, u, rfl, rfl, e2, by rw [k2.length]; exact sl_lt (of_decide_eq_true c), w.putL r ha e2 (k2.append (.cons k .nil)) .non⟩
  · exact False.elim w
end
section
variable {G : Gm} {E : WM}
theorem tyD_v {ρ : List Addr} {H : Hp} {h : Hm} {x : D} {v : V} {T : String} (r : HRel G ρ H h) (q : VRel G ρ H v x) (e : tyD h x = some T) (hT : T = "list" ∨ T = "dict" ∨ T = "str" ∨ T = "int") : tyV G.K T v H := by
  cases q with
  | int i => cases (show some _ = some T from e); rfl
  | str z => cases (show some _ = some T from e); rfl
  | kl h1 h2 => cases (show some _ = some T from e); exact .inl ⟨rfl, _, h1.l⟩
  | @loc a l ha =>
    simp only [tyD] at e
    split at e
    · rename_i e1
      cases e
      obtain ⟨vs, e2, k⟩ := r.at e1 ha
      exact .inl ⟨rfl, vs, SqL.of e2⟩
    · rename_i e1
      cases e
      obtain ⟨vs, e2, k⟩ := r.at e1 ha
      exact .inr (.inr (.inl ⟨rfl, .inl ⟨vs, e2⟩⟩))
    · cases e
  | non => cases (show some _ = some T from e); exact absurd hT (by decide)
  | bl b => cases (show some _ = some T from e); exact absurd hT (by decide)
  | tup _ _ => cases (show some _ = some T from e); exact absurd hT (by decide)
  | ty n => cases e
  | ob k => cases e
end
section
variable {G : Gm} {E : WM} {X : Cx} {a b c o : Expr} {ma mb mc : ME} {pos : Pos} {as ks : MA} {es : List Expr}
/-- o.m(a, ..) of a built-in's type T -/
theorem me_bm {T id : String} {name : Str} {apos cpos : Pos} {r : V → List V → Hp → VK → Prop} {f : Mb} (hK : X.K = G.K) (pa : PlainAttrs T) (slot : Slot T name id) (hty : typeOf (.builtin id) = pure (.type "method_descriptor")) (hm : MtR X id r) (hf : MbS G E r f)
    (hT : T = "list" ∨ T = "dict" ∨ T = "str" ∨ T = "int") (ho : PE X o (rd G E ma)) (ha : PA X (a :: es) (rdA G E as)) (hbase : attributeBase o name X.env (eval o X.env) = eval o X.env := by rfl)
    (hfew : ((backTo cpos (starEach (a :: es) X.env)).all (fun x => !x.1) && (backToKw cpos (keywordEach [] X.env)).all (fun x => x.1.isSome) && decide ((a :: es).length + ([] : List Keyword).length + (if ([] : List Keyword).isEmpty then 0 else 1) < 30)) = true := by rfl)
    (hline : (apos.endLine == cpos.line) = true := by rfl) (hs : starEach (a :: es) X.env = (false, eval a X.env) :: starEach es X.env := by rfl) (hplain : (backTo cpos (starEach es X.env)).any (·.1) = false := by rfl) :
    PE X (.Call (.Attribute o name apos) (a :: es) [] cpos) (rd G E (eBM T f ma as)) :=
  pe_w (pe_bm pa slot hty hm ho ha hbase hfew hline hs hplain) fun σ H Q ⟨ρ, env, h, hs, hr, w⟩ => ⟨ρ, env, h, hs, hr, w.seq fun x h1 ρ1 H1 v g1 r1 q1 w1 => by
    obtain ⟨k, w1⟩ := Wp.ifR w1
    refine ⟨?_, ρ1, env, h1, hs.grow g1, r1, w1.seq fun ds h2 ρ2 H2 vs g2 r2 q2 w2 => hf σ ρ2 H2 h2 x v ds vs Q r2 (q1.grow g2) q2 w2⟩
    rw [hK]
    exact tyD_v r1 q1 (of_decide_eq_true k) hT⟩
theorem me_bm0 {T id : String} {name : Str} {apos cpos : Pos} {r : V → List V → Hp → VK → Prop} {f : Mb} (hK : X.K = G.K) (pa : PlainAttrs T) (slot : Slot T name id) (hty : typeOf (.builtin id) = pure (.type "method_descriptor")) (hm : MtR X id r) (hf : MbS G E r f)
    (hT : T = "list" ∨ T = "dict" ∨ T = "str" ∨ T = "int") (ho : PE X o (rd G E ma)) (hbase : attributeBase o name X.env (eval o X.env) = eval o X.env := by rfl) (hline : (apos.endLine == cpos.line) = true := by rfl) :
    PE X (.Call (.Attribute o name apos) [] [] cpos) (rd G E (eBM T f ma aNil)) :=
  pe_w (pe_bm0 pa slot hty hm ho hbase hline) fun σ H Q ⟨ρ, env, h, hs, hr, w⟩ => ⟨ρ, env, h, hs, hr, w.seq fun x h1 ρ1 H1 v g1 r1 q1 w1 => by
    obtain ⟨k, w1⟩ := Wp.ifR w1
    refine ⟨?_, hf σ ρ1 H1 h1 x v [] [] Q r1 q1 .nil w1⟩
    rw [hK]
    exact tyD_v r1 q1 (of_decide_eq_true k) hT⟩
/-! ### dict displays -/
def trsOf (G : Gm) (E : WM) : List (ME × ME) → List (TE × TE)
  | [] => []
  | (k, v) :: r => (rd G E k, rd G E v) :: trsOf G E r
def DRels (G : Gm) (ρ : List Addr) (H : Hp) : List (V × V) → List (D × D) → Prop := Paired fun p q => VRel G ρ H p.1 q.1 ∧ VRel G ρ H p.2 q.2
theorem pairs_rd : ∀ {ps : List (ME × ME)} {ρ : List Addr} {H : Hp} {h : Hm} {σ : L2.St} {env : Env} {Q : List (V × V) → Hp → Prop}, SRel G ρ H σ env → HRel G ρ H h → Wp G (atW E σ) (DRels G) (pairsM ps env h) ρ H Q → tPairs (trsOf G E ps) σ H Q
  | [], ρ, H, h, σ, env, Q, hs, hr, w => Wp.val w hr .nil
  | (k, v) :: r, ρ, H, h, σ, env, Q, hs, hr, w => by
    have w : Wp G (atW E σ) (DRels G) ((k env h).bind fun x h1 => (v env h1).bind fun y h2 => (pairsM r env h2).bind fun ps h3 => .ok ((x, y) :: ps) h3) ρ H Q := w
    refine ⟨ρ, env, h, hs, hr, w.seq fun x h1 ρ1 H1 vx g1 r1 q1 w1 => ⟨ρ1, env, h1, hs.grow g1, r1, w1.seq fun y h2 ρ2 H2 vy g2 r2 q2 w2 => ?_⟩⟩
    refine pairs_rd ((hs.grow g1).grow g2) r2 (Wp.seq (rel := DRels G) w2 fun qs h3 ρ3 H3 zs g3 r3 q3 w3 => ?_)
    exact Wp.val w3 r3 (.cons ⟨(q1.grow g2).grow g3, q2.grow g3⟩ q3)
theorem keyed_rel {ρ : List Addr} {H : Hp} : ∀ {zs : List (V × V)} {qs : List (D × D)} {kds : List (Key × D)}, DRels G ρ H zs qs → keyed qs = some kds → ∃ kvs : List (Key × V), zs = kvs.map (fun kv => (kV kv.1, kv.2)) ∧ NRel G ρ H kvs kds
  | _, _, kds, .nil, e => by
    cases (show some [] = some kds from e)
    exact ⟨[], rfl, .nil⟩
  | _, _, kds, @Paired.cons _ _ _ p q ps qs r t, e => by
    obtain ⟨x, y⟩ := q
    have e : (match kOf x, keyed qs with | some k, some ps => some ((k, y) :: ps) | _, _ => none) = some kds := e
    split at e
    · rename_i k ps' e1 e2
      cases e
      obtain ⟨kvs, rfl, n⟩ := keyed_rel t e2
      refine ⟨(k, p.2) :: kvs, ?_, .cons ⟨rfl, r.2⟩ n⟩
      rw [List.map_cons, ← kOf_rel r.1 e1]
    · cases e
theorem mp_nil {dpos : Pos} : PPs X dpos [] [] (trsOf G E []) := pps_nil
theorem mp_cons {dpos : Pos} {k v : Expr} {ks : List (Option Expr)} {vs : List Expr} {mk mv : ME} {ps : List (ME × ME)} (hk : PE X k (rd G E mk)) (hv : PE X v (rd G E mv)) (hr : PPs X dpos ks vs (trsOf G E ps)) : PPs X dpos (some k :: ks) (v :: vs) (trsOf G E ((mk, mv) :: ps)) :=
  pps_cons hk hv hr
theorem Grow.adopt {ρ ρ1 : List Addr} {H H1 : Hp} {p : Addr} {o o' : HO} (hp : H p = none) (g : Grow ρ (upd H p o) ρ1 H1) (hf : p ∉ ρ) (hm : Mu o) : H1 p = some o ∧ p ∉ ρ1 ∧ Grow ρ H (ρ1 ++ [p]) (upd H1 p o') := by
  obtain ⟨a, n⟩ := g.out p o upd_same hf (by rintro ps rfl; exact hm)
  have up : ∀ {b : Addr} {u : HO}, H b = some u → b ≠ p ∧ (upd H p o) b = some u := fun {b u} e => ⟨ne_of_none e hp, by rw [upd_ne (ne_of_none e hp)]; exact e⟩
  refine ⟨a, n, let ⟨t, e⟩ := g.pre; ⟨t ++ [p], by rw [e, List.append_assoc]⟩, fun b xs e => ?_, fun b q u e => ?_, fun b u e k kt => ?_⟩
  · rw [upd_ne (up e).1]
    exact g.tup b xs (up e).2
  · rw [upd_ne (up e).1]
    exact g.frz b q u (up e).2
  · obtain ⟨e1, k1⟩ := g.out b u (up e).2 k kt
    refine ⟨by rw [upd_ne (up e).1]; exact e1, fun m => ?_⟩
    rcases List.mem_append.mp m with m | m
    · exact k1 m
    · exact (up e).1 (List.mem_singleton.mp m)
theorem Ext.late {ρ : List Addr} {H : Hp} {p : Addr} {u : HO} (hu : H p = some u) (hm : Mu u) (u' : HO) : Ext ρ H (ρ ++ [p]) (upd H p u') := by
  refine ⟨⟨[p], rfl⟩, fun b xs e => ?_, fun b o v e => ?_⟩
  · rw [upd_ne (ne_of e hu (by rintro rfl; exact hm))]; exact e
  · rw [upd_ne (ne_of e hu (by rintro rfl; exact hm))]; exact e
/-- an object that stood beside comes in, changed -/
theorem HRel.adopt {ρ : List Addr} {H : Hp} {h : Hm} (r : HRel G ρ H h) {p : Addr} {u u' : HO} {o : O} (hn : p ∉ ρ) (hu : H p = some u) (hm : Mu u) (q : ORel G (ρ ++ [p]) (upd H p u') p o) : HRel G (ρ ++ [p]) (upd H p u') (h.new o) := by
  have g : Ext ρ H (ρ ++ [p]) (upd H p u') := Ext.late hu hm u'
  refine ⟨by rw [List.length_append, r.len]; rfl, fun i j a e1 e2 => ?_, fun a m => ?_, fun l u2 e => ?_, r.tabs.put hu hm, fun q hq => (r.root q hq).trans g⟩
  · rw [List.getElem?_append] at e1 e2
    split at e1 <;> split at e2
    · exact r.inj i j a e1 e2
    · have e3 := List.mem_of_getElem? e2
      rw [List.mem_singleton.mp e3] at e1
      exact absurd (List.mem_of_getElem? e1) hn
    · have e3 := List.mem_of_getElem? e1
      rw [List.mem_singleton.mp e3] at e2
      exact absurd (List.mem_of_getElem? e2) hn
    · have h1 := (List.getElem?_eq_some_iff.mp e1).1
      have h2 := (List.getElem?_eq_some_iff.mp e2).1
      simp only [List.length_cons, List.length_nil] at h1 h2
      omega
  · by_cases c : a = p
    · exact ⟨u', by rw [c]; exact upd_same⟩
    · rcases List.mem_append.mp m with m | m
      · obtain ⟨o, e⟩ := r.has a m
        exact ⟨o, by rw [upd_ne c]; exact e⟩
      · exact absurd (List.mem_singleton.mp m) c
  · by_cases hl : l = h.n
    · have e' : (if l = h.n then some o else h.g l) = some u2 := e
      rw [if_pos hl] at e'
      cases e'
      refine ⟨p, ?_, q⟩
      rw [hl, ← r.len]
      simp
    · have e' : (if l = h.n then some o else h.g l) = some u2 := e
      rw [if_neg hl] at e'
      obtain ⟨a, e1, q1⟩ := r.obj l u2 e'
      exact ⟨a, g.at e1, q1.ext g (upd_ne fun z => hn (by rw [← z]; exact List.mem_of_getElem? e1))⟩
theorem me_dict {dpos : Pos} {keys : List (Option Expr)} {values : List Expr} {ps : List (ME × ME)} (h : PPs X dpos keys values (trsOf G E ps)) (hall : keys.all (·.isSome) = true := by rfl) (hl : keys.length = values.length := by rfl) (h0 : keys ≠ [] := by exact fun z => nomatch z)
    (h15 : keys.length ≤ 15 := by decide) : PE X (.Dict keys values dpos) (rd G E (eDict ps)) :=
  pe_w (pe_disp h hall hl h0 h15) fun σ H Q ⟨ρ, env, h, hs, hr, w⟩ => fun p hp => by
    have g := Grow.tmp (ρ := ρ) hp (.dK [])
    unfold eDict at w
    cases e : pairsM ps env h with
    | bad =>
      rw [e] at w
      exact False.elim w
    | exc c fs h1 =>
      rw [e] at w
      refine pairs_rd (hs.grow g) (hr.tmp hp _) ?_
      rw [e]
      exact Wp.grow (rel := VRel G) (r := R.exc c fs h1) g w
    | ok qs h1 =>
      rw [e] at w
      refine pairs_rd (hs.grow g) (hr.tmp hp _) ?_
      rw [e]
      intro ρ1 H1 zs g1 r1 q1
      have w : Wp G (atW E σ) (VRel G) (match keyed qs with | some kvs => ifR (decide (kvs.length ≤ 15)) (.ok (.loc h1.n) (h1.new (.dic (kvs.foldl (fun acc kv => putK acc kv.1 kv.2) [])))) | none => .bad) ρ H Q := w
      split at w
      · rename_i kds e2
        obtain ⟨c, w⟩ := Wp.ifR w
        obtain ⟨kvs, rfl, n⟩ := keyed_rel q1 e2
        obtain ⟨a1, n1, g2⟩ := Grow.adopt (o' := .dK (mergeK [] kvs)) hp g1 (hr.fresh hp) trivial
        refine ⟨a1, kvs, rfl, by rw [n.length]; exact of_decide_eq_true c, ?_⟩
        refine w _ _ _ g2 (r1.adopt n1 a1 trivial ⟨_, upd_same, merge_rel (n.ext (Ext.late a1 trivial _)) .nil⟩) (.loc ?_)
        rw [← r1.len]
        simp
      · exact False.elim w
theorem me_dnew {dpos : Pos} : PE X (.Dict [] [] dpos) (rd G E (eDict [])) := pe_w pe_dnewK fun σ H Q ⟨ρ, env, h, hs, hr, w⟩ => fun p hp => by
  have g := Grow.new hr hp (.dK [])
  refine (show Wp G (atW E σ) (VRel G) (.ok (.loc h.n) (h.new (.dic []))) ρ H Q from w) _ _ _ g (hr.new hp ⟨[], upd_same, .nil⟩) (.loc ?_)
  rw [← hr.len]
  simp
end
end Mo
end
section
/-! Rules: targets, statements, what is walked, loops, comprehensions. -/
namespace Mo
open PySem L2 PyProof.Rows
/-! ### targets -/
section
variable {G : Gm} {E : WM} {X : Cx} {a b c o : Expr} {ma mb mc : ME} {pos : Pos} {as ks : MA} {es : List Expr}
theorem pg_w {e : Expr} {t t' : TG} (h : PG X e t) (w : ∀ v σ H Q, t' v σ H Q → t v σ H Q) : PG X e t' := ⟨fun pins s σ H v u Q I r q => h.run pins s σ H v u Q I r (w v σ H Q q)⟩
theorem pgs_w {e : List Expr} {t t' : TGs} (h : PGs X e t) (w : ∀ v σ H Q, t' v σ H Q → t v σ H Q) : PGs X e t' := ⟨fun pins s σ H v u Q I r q => h.run pins s σ H v u Q I r (w v σ H Q q)⟩
theorem mg_name {i : Nat} {x : Str} (hN : X.N.Nodup) (hi : X.N[i]? = some x) (hx : Loc X.env.scope x) (hf : X.fn x = true ∨ X.env.scope.names.lookup x = some .local := by first | exact .inl rfl | exact .inr rfl | assumption) : PG X (.Name x pos) (rdG G E (gN i)) :=
  pg_w (pg_name hN hi hx hf) fun v σ H Q ⟨ρ, env, h, d, hs, hr, q, w⟩ => Wp.val w hr (hs.set q i)
theorem mgs_nil : PGs X [] (rdGs G E []) := pgs_w pgs_nil fun vs σ H Q ⟨ρ, env, h, ds, hs, hr, q, w⟩ => by
  cases q with
  | nil => exact ⟨rfl, Wp.val w hr hs⟩
  | cons _ _ => exact False.elim w
theorem mgs_cons {g : MG} {gs : List MG} (h1 : PG X a (rdG G E g)) (h2 : PGs X es (rdGs G E gs)) (hs : (assignEach (a :: es) X.env).map (·.2) = assign a X.env :: (assignEach es X.env).map (·.2) := by rfl) : PGs X (a :: es) (rdGs G E (g :: gs)) :=
  pgs_w (pgs_cons h1 h2 hs) fun vs σ H Q ⟨ρ, env, h, ds, hs, hr, q, w⟩ => by
    cases q with
    | nil => exact False.elim w
    | @cons v d vs ds q qs =>
      have w : Wp G (fun _ _ _ => False) (SRel G) ((g d env h).bind fun σ1 h1 => gsAll gs ds σ1 h1) ρ H Q := w
      exact ⟨v, vs, rfl, ρ, env, h, d, hs, hr, q, w.seq fun env1 h1 ρ1 H1 σ1 g1 r1 s1 w1 => ⟨ρ1, env1, h1, ds, s1, r1, qs.grow g1, w1⟩⟩
theorem gsAll_len : ∀ {gs : List MG} {ds : List D} {env : Env} {h : Hm}, ds.length ≠ gs.length → ∀ {ρ : List Addr} {H : Hp} {Q : L2.St → Hp → Prop}, Wp G (fun _ _ _ => False) (SRel G) (gsAll gs ds env h) ρ H Q → (∃ c fs h', gsAll gs ds env h = .exc c fs h') ∨ False
  | [], [], _, _, e, _, _, _, _ => absurd rfl e
  | [], _ :: _, _, _, _, _, _, _, w => False.elim w
  | _ :: _, [], _, _, _, _, _, _, w => False.elim w
  | g :: gs, d :: ds, env, h, e, ρ, H, Q, w => by
    have w : Wp G (fun _ _ _ => False) (SRel G) ((g d env h).bind fun σ1 h1 => gsAll gs ds σ1 h1) ρ H Q := w
    show (∃ c fs h', ((g d env h).bind fun σ1 h1 => gsAll gs ds σ1 h1) = .exc c fs h') ∨ False
    cases e1 : g d env h with
    | bad => rw [e1] at w; exact False.elim w
    | exc c fs h' => exact .inl ⟨c, fs, h', rfl⟩
    | ok env1 h1 =>
      rw [e1] at w
      exact gsAll_len (fun z => e (congrArg (· + 1) z)) (show Wp G (fun _ _ _ => False) (SRel G) (gsAll gs ds env1 h1) ρ H Q from w)
theorem mg_tup {k n : Nat} {gs : List MG} (hK : X.K = G.K) (hc : X.calm = true) (h : PGs X es (rdGs G E gs)) (hg : gs.length = n := by rfl) (hn : (assignEach es X.env).length = n := by rfl) (hst : (assignEach es X.env).findIdx? (·.1) = none := by rfl) : PG X (.Tuple es k pos) (rdG G E (gT n gs)) :=
  pg_w (pg_tup hc h hn hst) fun v σ H Q ⟨ρ, env, h, d, hs, hr, q, w⟩ => by
    cases q with
    | tup h1 h2 =>
      obtain ⟨k, w⟩ := Wp.ifR (show Wp G (fun _ _ _ => False) (SRel G) (ifR (decide (_ = n)) (gsAll gs _ env h)) ρ H Q from w)
      rw [hK]
      exact ⟨_, _, rfl, h1, by rw [h2.length]; exact of_decide_eq_true k, ρ, env, h, _, hs, hr, h2, w⟩
    | _ => exact False.elim w
/-- o[i] = .. of a list -/
theorem mg_ix (ha : PE X a (rd G E ma)) (hb : PE X b (rd G E mb)) (hq : ∀ v, assign (.Subscript a b pos) X.env v = (do
      let ov ← holding [v] (eval a X.env)
      let iv ← holding [v, ov] (eval b X.env)
      standAt pos
      holding [v, ov, iv] (setItem ov iv v)
      release [v, ov, iv] []) := by intro _; rfl) : PG X (.Subscript a b pos) (rdG G E (gIx ma mb)) :=
  pg_w (pg_sub ha hb set_list hq) fun v σ H Q ⟨ρ, env, h, d, hs, hr, q, w⟩ =>
    ⟨ρ, env, h, hs, hr, Wp.seq (Wp.any (E' := atW E σ) w) fun x h1 ρ1 H1 vx g1 r1 q1 w1 => ⟨ρ1, env, h1, hs.grow g1, r1, Wp.seq w1 fun y h2 ρ2 H2 vy g2 r2 q2 w2 => by
      have q1 := q1.grow g2
      have q := (q.grow g1).grow g2
      have hs := (hs.grow g1).grow g2
      cases q1 with
      | @loc p l hl =>
        cases q2 with
        | int k =>
          simp only at w2
          split at w2 <;> first | exact False.elim w2 | skip
          rename_i xs e
          split at w2 <;> first | exact False.elim w2 | skip
          rename_i j e2
          obtain ⟨vs, e3, k3⟩ := r2.at e hl
          have g := Grow.put r2 hl e3 trivial (.lst (vs.set j v))
          refine ⟨p, vs, k, j, rfl, rfl, e3, by rw [k3.length]; exact e2, ?_⟩
          exact w2 _ _ _ g (r2.put hl e3 trivial ⟨_, upd_same, (VRels.set q j k3).grow g⟩) (hs.grow g)
        | _ => exact False.elim w2
      | _ => cases q2 <;> exact False.elim w2⟩⟩
end
/-! ### statements -/
section
variable {G : Gm} {E : WM} {X : Cx} {a b c o : Expr} {ma mb mc : ME} {pos : Pos} {as ks : MA} {es : List Expr} {st : Stmt} {sts : List Stmt} {s1 s2 : MS} {t : MT}
theorem ms_nil : PSs X [] (rdS G E sNext) := pss_w pss_nil fun D σ H ⟨ρ, env, h, hs, hr, w⟩ => w ρ H σ (Grow.refl ρ H) hr hs
theorem rd_seq (D : Ends) (σ : L2.St) (H : Hp) (w : rdS G E (sSeq s1 s2) D σ H) : tSeq (rdS G E s1) (rdS G E s2) D σ H := by
  obtain ⟨ρ, env, h, hs, hr, w⟩ := w
  refine ⟨ρ, env, h, hs, hr, ?_⟩
  unfold sSeq at w
  cases e : s1 env h with
  | nx env1 h1 =>
    rw [e] at w
    exact fun ρ1 H1 σ1 g1 r1 q1 => ⟨ρ1, env1, h1, q1, r1, WpS.grow g1 w⟩
  | rt d h1 => rw [e] at w; exact w
  | bk d h1 => rw [e] at w; exact w
  | ct d h1 => rw [e] at w; exact w
  | exc c fs h1 => rw [e] at w; exact w
  | bad => rw [e] at w; exact w
theorem ms_cons (h1 : PS X st (rdS G E s1)) (h2 : PSs X sts (rdS G E s2)) : PSs X (st :: sts) (rdS G E (sSeq s1 s2)) := pss_w (pss_cons h1 h2) rd_seq
theorem ms_one (h1 : PS X st (rdS G E s1)) : PSs X [st] (rdS G E s1) := pss_one h1
theorem ms_never : PS X st (rdS G E sBad) := ps_w ps_never fun D σ H ⟨ρ, env, h, hs, hr, w⟩ => w
theorem mss_never : PSs X sts (rdS G E sBad) := pss_w pss_never fun D σ H ⟨ρ, env, h, hs, hr, w⟩ => w
theorem ms_pass : PS X (.Pass pos) (rdS G E sNext) := ps_w ps_pass fun D σ H ⟨ρ, env, h, hs, hr, w⟩ => w ρ H σ (Grow.refl ρ H) hr hs
theorem ms_break : PS X (.Break pos) (rdS G E sBreak) := ps_w ps_break fun D σ H ⟨ρ, env, h, hs, hr, w⟩ => w ρ H σ (Grow.refl ρ H) hr hs
theorem ms_continue : PS X (.Continue pos) (rdS G E sCont) := ps_w ps_continue fun D σ H ⟨ρ, env, h, hs, hr, w⟩ => w ρ H σ (Grow.refl ρ H) hr hs
theorem ms_expr (ha : PE X a (rd G E ma)) (hs : swapsWith a none pos.line X.env = pure false := by rfl) : PS X (.Expr a pos) (rdS G E (sExpr ma)) :=
  ps_w (ps_expr ha hs) fun D σ H ⟨ρ, env, h, hs, hr, w⟩ => ⟨ρ, env, h, hs, hr, Wp.stm hs w fun x h1 ρ1 H1 v g1 r1 q1 w1 => w1 ρ1 H1 σ (Grow.refl _ _) r1 (hs.grow g1)⟩
theorem rd_asg {g : MG} (D : Ends) (σ : L2.St) (H : Hp) (w : rdS G E (sAsg ma g) D σ H) : tAsg (rd G E ma) (rdG G E g) D σ H := by
  obtain ⟨ρ, env, h, hs, hr, w⟩ := w
  exact ⟨ρ, env, h, hs, hr, Wp.stm hs w fun x h1 ρ1 H1 v g1 r1 q1 w1 => ⟨ρ1, env, h1, x, hs.grow g1, r1, q1, Wp.stmQ w1 fun env2 h2 ρ2 H2 σ2 g2 r2 q2 w2 => w2 ρ2 H2 σ2 (Grow.refl _ _) r2 q2⟩⟩
theorem ms_asg {tg : Expr} {g : MG} (ha : PE X a (rd G E ma)) (hg : PG X tg (rdG G E g)) (hs : swapsWithSole [tg] a pos.line X.env = pure false := by rfl) (hw : swappedStores [tg] a X.env = pure none := by rfl) (h1 : (assignEach [tg] X.env).map (·.2) = [assign tg X.env] := by rfl) :
    PS X (.Assign [tg] a pos) (rdS G E (sAsg ma g)) := ps_w (ps_asg ha hg hs hw h1) rd_asg
theorem ms_set (i : Nat) {x : Str} {pos' : Pos} (hN : X.N.Nodup) (hi : X.N[i]? = some x) (hx : Loc X.env.scope x) (ha : PE X a (rd G E ma)) (hs : swapsWith a (some (.Name x pos')) pos.line X.env = pure false := by rfl)
    (hf : X.fn x = true ∨ X.env.scope.names.lookup x = some .local := by first | exact .inl rfl | exact .inr rfl | assumption) : PS X (.Assign [.Name x pos'] a pos) (rdS G E (sAsg ma (gN i))) :=
  ps_w (ps_set hN hi hx ha hs hf) fun D σ H ⟨ρ, env, h, hs, hr, w⟩ => ⟨ρ, env, h, hs, hr, Wp.stm hs w fun x h1 ρ1 H1 v g1 r1 q1 w1 => (show WpS G E (.nx (env.set i (some x)) h1) ρ1 H1 D from w1) ρ1 H1 _ (Grow.refl _ _) r1 ((hs.grow g1).set q1 i)⟩
theorem ms_par {i j : Nat} {x y : Str} {px py pt : Pos} {kt k2 pt2} (hc : X.calm = true) (hN : X.N.Nodup) (hi : X.N[i]? = some x) (hj : X.N[j]? = some y) (hij : i ≠ j) (hx : X.env.scope.names.lookup x = some .local) (hy : X.env.scope.names.lookup y = some .local) (ha : PA X [a, b] (rdA G E as))
    (hw : swappedStores [.Tuple [.Name x px, .Name y py] kt pt] (.Tuple [a, b] k2 pt2) X.env = pure (some [x, y]) := by rfl) (hs : swapsWithSole [.Tuple [.Name x px, .Name y py] kt pt] (.Tuple [a, b] k2 pt2) pos.line X.env = pure false := by rfl) :
    PS X (.Assign [.Tuple [.Name x px, .Name y py] kt pt] (.Tuple [a, b] k2 pt2) pos) (rdS G E (sPar [i, j] as)) :=
  ps_w (ps_par hc hN hi hj hij hx hy ha hw hs) fun D σ H ⟨ρ, env, h, hs, hr, w⟩ => ⟨ρ, env, h, hs, hr, Wp.stm hs w fun ds h1 ρ1 H1 vs g1 r1 q1 w1 => by
    split at w1
    · rename_i e
      cases e
      obtain ⟨v, u, rfl, k1, k2⟩ := vs2 q1
      exact ⟨v, u, rfl, w1 ρ1 H1 _ (Grow.refl _ _) r1 (((hs.grow g1).set k1 _).set k2 _)⟩
    · rename_i e
      cases e
    · exact False.elim w1⟩
theorem ms_par3 {i j l : Nat} {x y z : Str} {px py pz pt : Pos} {kt k2 pt2} (hc : X.calm = true) (hN : X.N.Nodup) (hi : X.N[i]? = some x) (hj : X.N[j]? = some y) (hl : X.N[l]? = some z) (hij : i ≠ j) (hil : i ≠ l) (hjl : j ≠ l) (hx : X.env.scope.names.lookup x = some .local) (hy : X.env.scope.names.lookup y = some .local)
    (hz : X.env.scope.names.lookup z = some .local) (ha : PA X [a, b, c] (rdA G E as)) (hw : swappedStores [.Tuple [.Name x px, .Name y py, .Name z pz] kt pt] (.Tuple [a, b, c] k2 pt2) X.env = pure (some [x, y, z]) := by rfl)
    (hs : swapsWithSole [.Tuple [.Name x px, .Name y py, .Name z pz] kt pt] (.Tuple [a, b, c] k2 pt2) pos.line X.env = pure false := by rfl) : PS X (.Assign [.Tuple [.Name x px, .Name y py, .Name z pz] kt pt] (.Tuple [a, b, c] k2 pt2) pos) (rdS G E (sPar [i, j, l] as)) :=
  ps_w (ps_par3 hc hN hi hj hl hij hil hjl hx hy hz ha hw hs) fun D σ H ⟨ρ, env, h, hs, hr, w⟩ => ⟨ρ, env, h, hs, hr, Wp.stm hs w fun ds h1 ρ1 H1 vs g1 r1 q1 w1 => by
    split at w1
    · rename_i e
      cases e
    · rename_i e
      cases e
      cases q1 with
      | cons k1 q1 =>
        obtain ⟨v, u, rfl, k2, k3⟩ := vs2 q1
        exact ⟨_, v, u, rfl, w1 ρ1 H1 _ (Grow.refl _ _) r1 ((((hs.grow g1).set k1 _).set k2 _).set k3 _)⟩
    · exact False.elim w1⟩
theorem ms_aug (i : Nat) {x : Str} {op : Operator} {r : R2} {f : D → D → Hm → R D} {pos' : Pos} (hN : X.N.Nodup) (hi : X.N[i]? = some x) (hx : Loc X.env.scope x) (ho : PIp X op r) (hf' : OpS G E r f) (ha : PE X a (rd G E ma))
    (hf : X.fn x = true ∨ X.env.scope.names.lookup x = some .local := by first | exact .inl rfl | exact .inr rfl | assumption) : PS X (.AugAssign (.Name x pos') op a pos) (rdS G E (sAug i f ma)) :=
  ps_w (ps_aug hN hi hx ha ho hf) fun D σ H ⟨ρ, env, h, hs, hr, w⟩ => by
    unfold sAug at w
    split at w
    · rename_i d e
      obtain ⟨v, e1, q⟩ := hs.2 i d e
      exact ⟨v, e1, ρ, env, h, hs, hr, Wp.stm hs w fun y h1 ρ1 H1 u g1 r1 q1 w1 => hf' σ ρ1 H1 h1 d y v u _ r1 (q.grow g1) q1 (Wp.stm (hs.grow g1) w1 fun z h2 ρ2 H2 u2 g2 r2 q2 w2 => w2 ρ2 H2 _ (Grow.refl _ _) r2 (((hs.grow g1).grow g2).set q2 i))⟩
    · exact False.elim w
theorem os_ip {g : Int → Int → Int} {f : D → D → Hm → R D} (h : OpS G E (rI0 fun i j => .int (g i j)) f) : OpS G E (ipI g) f := h
theorem ms_fld {f f' : Str} {cs : List Nat} {pos' : Pos} (hK : X.K = G.K) (hC : ∀ c, cs.contains c = true → Cls G.K (G.cA c) ∧ NoAttr G.K (G.cA c) f) (hf : f' = f) (ho : PE X o (rd G E mb)) (ha : PE X a (rd G E ma)) (hs : swapsWith a (some (.Attribute o f' pos')) pos.line X.env = pure false := by rfl) :
    PS X (.Assign [.Attribute o f' pos'] a pos) (rdS G E (sFld mb cs f ma)) := by
  subst hf
  exact ps_w (ps_fld ho ha hs) fun D σ H ⟨ρ, env, h, hs, hr, w⟩ => ⟨ρ, env, h, hs, hr, Wp.stm hs w fun y h1 ρ1 H1 v g1 r1 q1 w1 => ⟨ρ1, env, h1, hs.grow g1, r1, Wp.stm (hs.grow g1) w1 fun x h2 ρ2 H2 u g2 r2 q2 w2 => by
    cases q2 with
    | @loc p l hl =>
      simp only at w2
      split at w2 <;> first | exact False.elim w2 | skip
      rename_i c fs e
      split at w2 <;> first | exact False.elim w2 | skip
      rename_i k
      obtain ⟨k1, k2⟩ := (Bool.and_eq_true_iff.mp k : cs.contains c = true ∧ decide (fs.length < 1000) = true)
      obtain ⟨dx, fvs, e3, n⟩ := r2.at e hl
      obtain ⟨c1, c2⟩ := hC c k1
      have g := Grow.put r2 hl e3 trivial (.ins (G.cA c) dx (L2.putF f' v fvs))
      rw [hK]
      refine ⟨p, _, dx, fvs, rfl, e3, c1, c2, by rw [n.length]; exact of_decide_eq_true k2, ?_⟩
      exact w2 _ _ _ g (r2.put hl e3 trivial ⟨dx, _, upd_same, (putF_rel (q1.grow g2) n).grow g⟩) (((hs.grow g1).grow g2).grow g)
    | _ => exact False.elim w2⟩⟩
theorem ms_fldaug {f f' : Str} {cs : List Nat} {pos' : Pos} {op : Operator} {r : V → V → Hp → VK → Prop} {fo : D → D → Hm → R D} (hK : X.K = G.K) (hC : ∀ c, cs.contains c = true → Cls G.K (G.cA c) ∧ NoAttr G.K (G.cA c) f) (hf : f' = f) (hop : InOp X op r) (hfo : OpS G E r fo) (ho : PE X o (rd G E mb)) (ha : PE X a (rd G E ma)) :
    PS X (.AugAssign (.Attribute o f' pos') op a pos) (rdS G E (sAugF mb cs f fo ma)) := by
  subst hf
  exact ps_w (ps_fldaug ho ha hop) fun D σ H ⟨ρ, env, h, hs, hr, w⟩ => ⟨ρ, env, h, hs, hr, Wp.stm hs w fun x h1 ρ1 H1 u g1 r1 q1 w1 => by
    cases q1 with
    | @loc p l hl =>
      simp only at w1
      split at w1 <;> first | exact False.elim w1 | skip
      rename_i c fs e
      split at w1 <;> first | exact False.elim w1 | skip
      rename_i v k1 k2
      obtain ⟨dx, fvs, e3, n⟩ := r1.at e hl
      obtain ⟨c1, c2⟩ := hC c k1
      obtain ⟨z, e4, q4⟩ := (fld_rel n).1 v k2
      rw [hK]
      refine ⟨p, _, dx, fvs, z, rfl, e3, c1, c2, e4, ρ1, env, h1, hs.grow g1, r1, Wp.stm (hs.grow g1) w1 fun y h2 ρ2 H2 vy g2 r2 q2 w2 => ?_⟩
      refine hfo σ ρ2 H2 h2 v y z vy _ r2 (q4.grow g2) q2 (Wp.stm ((hs.grow g1).grow g2) w2 fun zz h3 ρ3 H3 vz g3 r3 q3 w3 => ?_)
      split at w3 <;> first | exact False.elim w3 | skip
      rename_i c' fs' e5
      split at w3 <;> first | exact False.elim w3 | skip
      rename_i k
      obtain ⟨k3, k4⟩ := (Bool.and_eq_true_iff.mp k : (c' == c) = true ∧ decide (fs'.length < 1000) = true)
      have ec : c' = c := by simpa using k3
      subst ec
      obtain ⟨dx', fvs', e6, n'⟩ := r3.at e5 ((g3.at (g2.at hl)))
      have g := Grow.put r3 (g3.at (g2.at hl)) e6 trivial (.ins (G.cA c') dx' (L2.putF f' vz fvs'))
      refine ⟨dx', fvs', e6, by rw [n'.length]; exact of_decide_eq_true k4, ?_⟩
      exact w3 _ _ _ g (r3.put (g3.at (g2.at hl)) e6 trivial ⟨dx', _, upd_same, (putF_rel q3 n').grow g⟩) ((((hs.grow g1).grow g2).grow g3).grow g)
    | _ => exact False.elim w1⟩
theorem ms_dput {pos' : Pos} (hu : X.A.units + 1 < cLine) (ho : PE X o (rd G E mb)) (hi : PE X b (rd G E mc)) (ha : PE X a (rd G E ma)) (hs : swapsWith a (some (.Subscript o b pos')) pos.line X.env = pure false := by rfl) : PS X (.Assign [.Subscript o b pos'] a pos) (rdS G E (sDPut mb mc ma)) :=
  ps_w (ps_dput hu ho hi ha hs) fun D σ H ⟨ρ, env, h, hs, hr, w⟩ => ⟨ρ, env, h, hs, hr, Wp.stm hs w fun v h1 ρ1 H1 vv g1 r1 q1 w1 => ⟨ρ1, env, h1, hs.grow g1, r1, Wp.stm (hs.grow g1) w1 fun x h2 ρ2 H2 vx g2 r2 q2 w2 => ⟨ρ2, env, h2, (hs.grow g1).grow g2, r2, Wp.stm ((hs.grow g1).grow g2) w2 fun y h3 ρ3 H3 vy g3 r3 q3 w3 => by
    have q2 := q2.grow g3
    have q1 := (q1.grow g2).grow g3
    cases q2 with
    | @loc p l hl =>
      simp only at w3
      split at w3 <;> first | exact False.elim w3 | skip
      rename_i kds k e1 e2
      split at w3 <;> first | exact False.elim w3 | skip
      rename_i c
      obtain ⟨kvs, e4, n⟩ := r3.at e1 hl
      have g := Grow.put r3 hl e4 trivial (.dK (L2.putK kvs k vv))
      have e5 := kOf_rel q3 e2
      subst e5
      refine ⟨p, _, rfl, DPut.k e4 (by rw [n.length]; exact sl_lt (of_decide_eq_true c)), ?_⟩
      exact w3 _ _ _ g (r3.put hl e4 trivial ⟨_, upd_same, (put_rel n q1).grow g⟩) ((((hs.grow g1).grow g2).grow g3).grow g)
    | _ => exact False.elim w3⟩⟩⟩
theorem ms_ret (ha : PE X a (rd G E ma)) : PS X (.Return (some a) pos) (rdS G E (sRet ma)) :=
  ps_w (ps_ret ha) fun D σ H ⟨ρ, env, h, hs, hr, w⟩ => ⟨ρ, env, h, hs, hr, Wp.stm hs w fun x h1 ρ1 H1 v g1 r1 q1 w1 => w1 ρ1 H1 v (Grow.refl _ _) r1 q1⟩
theorem ms_retN : PS X (.Return none pos) (rdS G E sRetN) := ps_w ps_retN fun D σ H ⟨ρ, env, h, hs, hr, w⟩ => w ρ H .non (Grow.refl _ _) hr .non
theorem ms_if {A B : List Stmt} (hc : PT X c (rdT G E t)) (h1 : PSs X A (rdS G E s1)) (h2 : PSs X B (rdS G E s2)) : PS X (.If c A B pos) (rdS G E (sIf t s1 s2)) :=
  ps_w (ps_if hc h1 h2) fun D σ H ⟨ρ, env, h, hs, hr, w⟩ => ⟨ρ, env, h, hs, hr, Wp.stm hs w fun k h1 ρ1 H1 v g1 r1 q1 w1 => by
    cases q1
    cases k with
    | true => exact ⟨ρ1, env, h1, hs.grow g1, r1, w1⟩
    | false => exact ⟨ρ1, env, h1, hs.grow g1, r1, w1⟩⟩
end
/-! ### what is walked -/
structure Yld (G : Gm) (J : L2.It) (it : It) (ρ0 : List Addr) (H0 : Hp) : Prop where
  go : ∀ ρ H h i, Grow ρ0 H0 ρ H → HRel G ρ H h → it.ok h = true → i < it.xs.length → J.go i H
  stop : ∀ ρ H h i, Grow ρ0 H0 ρ H → HRel G ρ H h → it.ok h = true → it.xs.length ≤ i → J.stop i H
  yld : ∀ ρ H h i x H', Grow ρ0 H0 ρ H → HRel G ρ H h → it.ok h = true → J.yld i H x H' → ∀ d, it.xs[i]? = some d → ∃ ρ', Grow ρ H ρ' H' ∧ HRel G ρ' H' h ∧ VRel G ρ' H' x d
def rdI (G : Gm) (E : WM) (m : MI) : TI := fun σ H R => ∃ ρ env h, SRel G ρ H σ env ∧ HRel G ρ H h ∧ Wp G (atW E σ) (fun ρ' H' J it => Yld G J it ρ' H') (m env h) ρ H R
section
variable {G : Gm} {E : WM} {X : Cx} {a b c o tg : Expr} {ma mb mc : ME} {pos : Pos} {as ks : MA} {es : List Expr}
theorem pi_w {e : Expr} {t t' : TI} (h : PI X tg e t) (w : ∀ σ H Q, t' σ H Q → t σ H Q) : PI X tg e t' := ⟨fun pins s σ H Q I q => h.run pins s σ H Q I (w σ H Q q)⟩
theorem pi_or {e : Expr} {t t' : TI} (h : PI X tg e t) (h' : PI X tg e t') : PI X tg e (fun σ H Q => t σ H Q ∨ t' σ H Q) := ⟨fun pins s σ H Q I q => q.elim (h.run pins s σ H Q I) (h'.run pins s σ H Q I)⟩
theorem yld_list {ρ : List Addr} {H : Hp} {x : D} {p : Addr} {xs : List D} (q : VRel G ρ H (.ref p) x) : Yld G (Itl G.K p) ⟨xs, fun h' => decide (h'.seq x = some xs)⟩ ρ H := by
  have at' : ∀ {ρ' : List Addr} {H' : Hp} {h : Hm}, Grow ρ H ρ' H' → HRel G ρ' H' h → decide (h.seq x = some xs) = true → ∃ vs, SqL G.K H' p vs ∧ VRels G ρ' H' vs xs := fun g r e => by
    obtain ⟨a, vs, e1, k1, k2⟩ := r.seqL (of_decide_eq_true e) (q.grow g)
    cases e1
    exact ⟨vs, k1, k2⟩
  refine ⟨fun ρ' H' h i g r e hi => ?_, fun ρ' H' h i g r e hi => ?_, fun ρ' H' h i y H2 g r e yl d ed => ?_⟩
  · obtain ⟨vs, k1, k2⟩ := at' g r e
    have hi : i < xs.length := hi
    have hi' : i < vs.length := by rw [k2.length]; exact hi
    exact ⟨vs, vs[i], k1, by simp [hi']⟩
  · obtain ⟨vs, k1, k2⟩ := at' g r e
    exact ⟨vs, k1, by rw [k2.length]; exact hi⟩
  · obtain ⟨vs, k1, k2⟩ := at' g r e
    obtain ⟨e2, yl⟩ := yl
    subst e2
    obtain ⟨v, e3, k3⟩ := k2.get ed
    have e4 := yl vs k1
    rw [e3] at e4
    cases e4
    exact ⟨ρ', Grow.refl _ _, r, k3⟩
theorem yld_tup {ρ : List Addr} {H : Hp} {p : Addr} {vs : List V} {xs : List D} (h1 : SqT G.K H p vs) (h2 : VRels G ρ H vs xs) : Yld G (Itt G.K p) ⟨xs, fun _ => true⟩ ρ H := by
  refine ⟨fun ρ' H' h i g r e hi => ?_, fun ρ' H' h i g r e hi => ?_, fun ρ' H' h i y H2 g r e yl d ed => ?_⟩
  · have hi : i < xs.length := hi
    have hi' : i < vs.length := by rw [h2.length]; exact hi
    exact ⟨vs, vs[i], g.ext.sqT h1, by simp [hi']⟩
  · exact ⟨vs, g.ext.sqT h1, by rw [h2.length]; exact hi⟩
  · obtain ⟨e2, yl⟩ := yl
    subst e2
    obtain ⟨v, e3, k3⟩ := h2.get ed
    have e4 := yl vs (g.ext.sqT h1)
    rw [e3] at e4
    cases e4
    exact ⟨ρ', Grow.refl _ _, r, k3.grow g⟩
theorem intsFrom_get {lo : Int} {n i : Nat} (h : i < n) : (intsFrom lo n)[i]? = some (.int (lo + i)) := by
  unfold intsFrom
  rw [List.getElem?_map, List.getElem?_range h]
  rfl
theorem intsFrom_len {lo : Int} {n : Nat} : (intsFrom lo n).length = n := by
  unfold intsFrom
  rw [List.length_map, List.length_range]
theorem yld_rng {ρ : List Addr} {H : Hp} {lo : Int} {n : Nat} : Yld G (Itr lo n) ⟨intsFrom lo n, fun _ => true⟩ ρ H := by
  refine ⟨fun ρ' H' h i g r e hi => ?_, fun ρ' H' h i g r e hi => ?_, fun ρ' H' h i y H2 g r e yl d ed => ?_⟩
  · show i < n
    rw [← intsFrom_len (lo := lo) (n := n)]
    exact hi
  · show n ≤ i
    rw [← intsFrom_len (lo := lo) (n := n)]
    exact hi
  · obtain ⟨e2, e3⟩ := yl
    subst e2 e3
    have hl := (List.getElem?_eq_some_iff.mp ed).1
    rw [intsFrom_len] at hl
    have ed : (intsFrom lo n)[i]? = some d := ed
    rw [intsFrom_get hl] at ed
    cases ed
    exact ⟨ρ', Grow.refl _ _, r, .int _⟩
theorem numbered_get : ∀ {xs : List D} {k i : Nat}, (numbered k xs)[i]? = xs[i]?.map fun x => .tup [.int ((k + i : Nat) : Int), x]
  | [], k, i => by simp [numbered]
  | x :: xs, k, 0 => by simp [numbered]
  | x :: xs, k, i + 1 => by
    have e := numbered_get (xs := xs) (k := k + 1) (i := i)
    have e2 : k + 1 + i = k + (i + 1) := by omega
    rw [e2] at e
    simpa [numbered] using e
theorem numbered_len : ∀ (xs : List D) (k : Nat), (numbered k xs).length = xs.length
  | [], _ => rfl
  | x :: xs, k => congrArg (· + 1) (numbered_len xs (k + 1))
theorem yld_enum {ρ : List Addr} {H : Hp} {x : D} {p : Addr} {xs : List D} (q : VRel G ρ H (.ref p) x) : Yld G (Ite G.K p) ⟨numbered 0 xs, fun h' => decide (h'.seq x = some xs)⟩ ρ H := by
  have at' : ∀ {ρ' : List Addr} {H' : Hp} {h : Hm}, Grow ρ H ρ' H' → HRel G ρ' H' h → decide (h.seq x = some xs) = true → ∃ vs, SqL G.K H' p vs ∧ VRels G ρ' H' vs xs := fun g r e => by
    obtain ⟨a, vs, e1, k1, k2⟩ := r.seqL (of_decide_eq_true e) (q.grow g)
    cases e1
    exact ⟨vs, k1, k2⟩
  refine ⟨fun ρ' H' h i g r e hi => ?_, fun ρ' H' h i g r e hi => ?_, fun ρ' H' h i y H2 g r e yl d ed => ?_⟩
  · obtain ⟨vs, k1, k2⟩ := at' g r e
    have hi : i < (numbered 0 xs).length := hi
    rw [numbered_len] at hi
    have hi' : i < vs.length := by rw [k2.length]; exact hi
    exact ⟨vs, vs[i], k1, by simp [hi']⟩
  · obtain ⟨vs, k1, k2⟩ := at' g r e
    have hi : (numbered 0 xs).length ≤ i := hi
    rw [numbered_len] at hi
    exact ⟨vs, k1, by rw [k2.length]; exact hi⟩
  · obtain ⟨vs, k1, k2⟩ := at' g r e
    obtain ⟨T, z, e2, hT, e3, yl⟩ := yl
    subst e2 e3
    have ed : (numbered 0 xs)[i]? = some d := ed
    rw [numbered_get] at ed
    obtain ⟨w, e4, e5⟩ := Option.map_eq_some_iff.mp ed
    subst e5
    obtain ⟨v, e6, k3⟩ := k2.get e4
    have e7 := yl vs k1
    rw [e6] at e7
    rw [Option.some.inj e7] at k3
    have g2 := Grow.tmp (ρ := ρ') hT (.tup [.int (i : Nat), z])
    refine ⟨ρ', g2, r.tmp hT _, .tup (SqT.of upd_same) (.cons ?_ (.cons (k3.grow g2) .nil))⟩
    have e8 : (0 + i : Nat) = i := Nat.zero_add i
    rw [e8]
    exact .int _
theorem mi_seq (hK : X.K = G.K) (ha : PE X a (rd G E ma)) : PI X tg a (rdI G E (iSeq ma)) := pi_w (pi_or (pi_list ha) (pi_tup ha)) fun σ H R ⟨ρ, env, h, hs, hr, w⟩ => by
  rw [hK]
  unfold iSeq at w
  cases e : ma env h with
  | bad => rw [e] at w; exact False.elim w
  | exc c fs h1 => rw [e] at w; exact .inl ⟨ρ, env, h, hs, hr, by rw [e]; exact w⟩
  | ok x h1 =>
    rw [e] at w
    by_cases ht : ∃ ds, x = .tup ds
    · obtain ⟨ds, rfl⟩ := ht
      refine .inr ⟨ρ, env, h, hs, hr, ?_⟩
      rw [e]
      intro ρ1 H1 v g1 r1 q1
      cases q1 with
      | tup k1 k2 => exact ⟨_, rfl, ⟨_, k1⟩, Wp.val (Wp.grow g1 w) r1 (yld_tup k1 k2)⟩
    · have w : Wp G (atW E σ) (fun ρ' H' J it => Yld G J it ρ' H') (match h1.seq x with | some xs => .ok ⟨xs, fun h' => decide (h'.seq x = some xs)⟩ h1 | none => .bad) ρ H R := by
        cases x <;> first | exact w | exact (ht ⟨_, rfl⟩).elim
      refine .inl ⟨ρ, env, h, hs, hr, ?_⟩
      rw [e]
      intro ρ1 H1 v g1 r1 q1
      split at w
      · rename_i xs e1
        obtain ⟨p, vs, rfl, k1, k2⟩ := r1.seqL e1 q1
        exact ⟨p, rfl, ⟨vs, k1⟩, Wp.val (Wp.grow g1 w) r1 (yld_list q1)⟩
      · exact False.elim w
variable {p : Pos}
theorem mi_rng1 (hg : Gl X "range") (hm : X.mg "range" = none) (ha : PA X [a] (rdA G E as)) (hs : starEach [a] X.env = [(false, eval a X.env)] := by rfl) (h1 : ∀ env h ds h', as env h = .ok ds h' → ds.length = 1) : PI X tg (.Call (.Name "range" p) [a] [] pos) (rdI G E (iRng as)) :=
  pi_w (pi_range1 hg hm ha hs) fun σ H R ⟨ρ, env, h, hs, hr, w⟩ => by
    refine ⟨ρ, env, h, hs, hr, ?_⟩
    unfold iRng at w
    cases e : as env h with
    | bad => rw [e] at w; exact False.elim w
    | exc c fs h1 => rw [e] at w; exact w
    | ok ds h2 =>
      have l := h1 _ _ _ _ e
      rw [e] at w
      refine fun ρ1 H1 vs g1 r1 q1 => ?_
      have w : Wp G (atW E σ) (fun ρ' H' J it => Yld G J it ρ' H') (rngOf ds h2) ρ H R := w
      unfold rngOf at w
      split at w
      · obtain ⟨v, rfl, k⟩ := vs1 q1
        cases k
        obtain ⟨c, w⟩ := Wp.ifR w
        obtain ⟨c1, c2⟩ := of_decide_eq_true c
        exact ⟨_, rfl, c1, c2, Wp.val (Wp.grow g1 w) r1 yld_rng⟩
      · simp at l
      · exact False.elim w
theorem mi_rng2 (hg : Gl X "range") (hm : X.mg "range" = none) (ha : PA X [a, b] (rdA G E as)) (hs : starEach [a, b] X.env = [(false, eval a X.env), (false, eval b X.env)] := by rfl) (hs2 : starEach [b] X.env = [(false, eval b X.env)] := by rfl) (h1 : ∀ env h ds h', as env h = .ok ds h' → ds.length = 2) :
    PI X tg (.Call (.Name "range" p) [a, b] [] pos) (rdI G E (iRng as)) :=
  pi_w (pi_range2 hg hm ha hs hs2) fun σ H R ⟨ρ, env, h, hs, hr, w⟩ => by
    refine ⟨ρ, env, h, hs, hr, ?_⟩
    unfold iRng at w
    cases e : as env h with
    | bad => rw [e] at w; exact False.elim w
    | exc c fs h1 => rw [e] at w; exact w
    | ok ds h2 =>
      have l := h1 _ _ _ _ e
      rw [e] at w
      refine fun ρ1 H1 vs g1 r1 q1 => ?_
      have w : Wp G (atW E σ) (fun ρ' H' J it => Yld G J it ρ' H') (rngOf ds h2) ρ H R := w
      unfold rngOf at w
      split at w
      · simp at l
      · obtain ⟨v, u, rfl, k, k'⟩ := vs2 q1
        cases k
        cases k'
        obtain ⟨c, w⟩ := Wp.ifR w
        exact ⟨_, _, rfl, of_decide_eq_true c, Wp.val (Wp.grow g1 w) r1 yld_rng⟩
      · exact False.elim w
theorem aLen1 {m : ME} : ∀ env h ds h', aCons m aNil env h = .ok ds h' → ds.length = 1 := fun env h ds h' e => by
  unfold aCons aNil at e
  cases e1 : m env h with
  | ok x h1 => rw [e1] at e; cases e; rfl
  | exc c fs h1 => rw [e1] at e; cases e
  | bad => rw [e1] at e; cases e
theorem aLen2 {m n : ME} : ∀ env h ds h', aCons m (aCons n aNil) env h = .ok ds h' → ds.length = 2 := fun env h ds h' e => by
  unfold aCons at e
  cases e1 : m env h with
  | ok x h1 =>
    rw [e1] at e
    cases e2 : n env h1 with
    | ok y h2 => simp only [R.bind, e2, aNil] at e; cases e; rfl
    | exc c fs h1 => simp only [R.bind, e2] at e; cases e
    | bad => simp only [R.bind, e2] at e; cases e
  | exc c fs h1 => rw [e1] at e; cases e
  | bad => rw [e1] at e; cases e
theorem mi_enum {elts : List Expr} {kk : Nat} {tpos : Pos} (hK : X.K = G.K) (hg : Gl X "enumerate") (hm : X.mg "enumerate" = none) (ha : PA X [a] (rdA G E (aCons ma aNil))) (hs : starEach [a] X.env = [(false, eval a X.env)] := by rfl) : PI X (.Tuple elts kk tpos) (.Call (.Name "enumerate" p) [a] [] pos) (rdI G E (iEnum ma)) :=
  pi_w (pi_enum hg hm ha hs) fun σ H R ⟨ρ, env, h, hs, hr, w⟩ => by
    rw [hK]
    refine ⟨ρ, env, h, hs, hr, ?_⟩
    unfold iEnum at w
    unfold aCons aNil
    cases e : ma env h with
    | bad => rw [e] at w; exact False.elim w
    | exc c fs h1 => rw [e] at w; exact w
    | ok x h1 =>
      rw [e] at w
      refine fun ρ1 H1 vs g1 r1 q1 => ?_
      obtain ⟨v, rfl, k⟩ := vs1 q1
      have w : Wp G (atW E σ) (fun ρ' H' J it => Yld G J it ρ' H') (match h1.seq x with | some xs => .ok ⟨numbered 0 xs, fun h' => decide (h'.seq x = some xs)⟩ h1 | none => .bad) ρ H R := w
      split at w
      · rename_i xs e1
        obtain ⟨p, vs, rfl, k1, k2⟩ := r1.seqL e1 k
        exact ⟨p, vs, rfl, k1, Wp.val (Wp.grow g1 w) r1 (yld_enum k)⟩
      · exact False.elim w
end
end Mo
end
section
/-! Rules: for, while, comprehensions. -/
namespace Mo
open PySem L2 PyProof.Rows
section
variable {G : Gm} {E : WM} {X : Cx} {a b c o tg : Expr} {ma mb mc : ME} {pos : Pos} {as ks : MA} {es : List Expr}
/-- what goes on behind a turn -/
theorem turn_ends {r : RS} {ρ : List Addr} {H : Hp} {D : Ends} {go : MS} {N : L2.St → Hp → Prop} (w : WpS G E (match r with | .nx σ2 h2 => go σ2 h2 | .ct σ2 h2 => go σ2 h2 | .bk σ2 h2 => .nx σ2 h2 | .rt d h2 => .rt d h2 | .exc c fs σ2 h2 => .exc c fs σ2 h2 | .bad => .bad) ρ H D)
    (hN : ∀ env h, WpS G E (go env h) ρ H D → ∀ ρ' H' σ', Grow ρ H ρ' H' → HRel G ρ' H' h → SRel G ρ' H' σ' env → N σ' H') : WpS G E r ρ H { D with nx := N, ct := N, bk := D.nx } := by
  cases r with
  | nx e h => exact hN e h w
  | ct e h => exact hN e h w
  | bk e h => exact w
  | rt d h => exact w
  | exc c fs h => exact w
  | bad => exact w
theorem ms_for {it : Expr} {body : List Stmt} {mi : MI} {g : MG} {mb : MS} (hp : PassesOwn (model X.prog X.w) X.A X.env X.xe) (hc : X.calm = true) (hi : PI X tg it (rdI G E mi)) (hg : PG X tg (rdG G E g)) (hb : PSs X body (rdS G E mb))
    (hs : ∀ x, foldedSetIterable it X.env x = pure x := by intro _; rfl) : PS X (.For tg it body [] pos) (rdS G E (sFor mi g mb)) :=
  ps_w (ps_for hp hc hi hg hb hs) fun D σ H ⟨ρ, env, h, hs, hr, w⟩ => ⟨ρ, env, h, hs, hr, Wp.stm hs w fun J h1 ρ1 H1 JJ g1 r1 y w1 => by
    have s1 := hs.grow g1
    refine ⟨fun i m σ2 H2 => m = J.xs.length - i ∧ i ≤ J.xs.length ∧ ∃ ρ2 env2 h2, Grow ρ1 H1 ρ2 H2 ∧ SRel G ρ2 H2 σ2 env2 ∧ HRel G ρ2 H2 h2 ∧ WpS G E (forGo g mb J.ok (J.xs.drop i) env2 h2) ρ2 H2 D, ⟨_, rfl, Nat.zero_le _, ρ1, env, h1, Grow.refl _ _, s1, r1, w1⟩, ?_⟩
    rintro i m σ2 H2 ⟨rfl, hle, ρ2, env2, h2, g2, s2, r2, w2⟩
    by_cases hlt : i < J.xs.length
    · rw [List.drop_eq_getElem_cons hlt] at w2
      unfold forGo at w2
      split at w2 <;> first | exact False.elim w2 | skip
      rename_i ok
      refine .inr ⟨y.go ρ2 H2 h2 i g2 r2 ok hlt, fun σ' H' => ∃ m', m' < J.xs.length - i ∧ m' = J.xs.length - (i + 1) ∧ i + 1 ≤ J.xs.length ∧ ∃ ρ2 env2 h2, Grow ρ1 H1 ρ2 H' ∧ SRel G ρ2 H' σ' env2 ∧ HRel G ρ2 H' h2 ∧ WpS G E (forGo g mb J.ok (J.xs.drop (i + 1)) env2 h2) ρ2 H' D, fun σ' H' ⟨m', l, q⟩ => ⟨m', l, q⟩, fun x H3 yl => ?_⟩
      obtain ⟨ρ3, g3, r3, q3⟩ := y.yld ρ2 H2 h2 i x H3 g2 r2 ok yl J.xs[i] (by simp [hlt])
      refine ⟨ρ3, env2, h2, J.xs[i], s2.grow g3, r3, q3, Wp.stmQ (WpS.grow g3 w2) fun env4 h4 ρ4 H4 σ4 g4 r4 s4 w4 => ?_⟩
      refine ⟨ρ4, env4, h4, s4, r4, turn_ends (go := forGo g mb J.ok (J.xs.drop (i + 1))) w4 fun e5 h5 w5 ρ5 H5 σ5 g5 r5 s5 => ?_⟩
      exact ⟨J.xs.length - (i + 1), by omega, rfl, hlt, ρ5, e5, h5, ((g2.trans g3).trans g4).trans g5, s5, r5, WpS.grow g5 w5⟩
    · have e : i = J.xs.length := by omega
      subst e
      rw [List.drop_length] at w2
      unfold forGo at w2
      split at w2 <;> first | exact False.elim w2 | skip
      rename_i ok
      exact .inl ⟨y.stop ρ2 H2 h2 _ g2 r2 ok (Nat.le_refl _), w2 ρ2 H2 σ2 (Grow.refl _ _) r2 s2⟩⟩
theorem ms_while {body : List Stmt} {t : MT} {mb : MS} {n : Nat} (hp : PassesOwn (model X.prog X.w) X.A X.env X.xe) (hc : PT X c (rdT G E t)) (hb : PSs X body (rdS G E mb)) : PS X (.While c body [] pos) (rdS G E (sWhile n t mb)) :=
  ps_w (ps_while hp hc hb) fun D σ H ⟨ρ, env, h, hs, hr, w⟩ => by
    refine ⟨fun m σ2 H2 => ∃ ρ2 env2 h2, SRel G ρ2 H2 σ2 env2 ∧ HRel G ρ2 H2 h2 ∧ WpS G E (whileGo t mb m env2 h2) ρ2 H2 D, ⟨n, ρ, env, h, hs, hr, w⟩, ?_⟩
    rintro m σ2 H2 ⟨ρ2, env2, h2, s2, r2, w2⟩
    cases m with
    | zero => exact False.elim w2
    | succ m =>
      unfold whileGo at w2
      refine ⟨ρ2, env2, h2, s2, r2, Wp.stm s2 w2 fun k h3 ρ3 H3 v g3 r3 q3 w3 => ?_⟩
      cases q3
      cases k with
      | false => exact w3 ρ3 H3 _ (Grow.refl _ _) r3 (s2.grow g3)
      | true =>
        refine ⟨fun σ' H' => ∃ ρ2 env2 h2, SRel G ρ2 H' σ' env2 ∧ HRel G ρ2 H' h2 ∧ WpS G E (whileGo t mb m env2 h2) ρ2 H' D, fun σ' H' q => ⟨m, Nat.lt_succ_self m, q⟩, ?_⟩
        refine ⟨ρ3, env2, h3, s2.grow g3, r3, turn_ends (go := whileGo t mb m) w3 fun e5 h5 w5 ρ5 H5 σ5 g5 r5 s5 => ⟨ρ5, e5, h5, s5, r5, WpS.grow g5 w5⟩⟩
/-! ### comprehensions -/
theorem Wp.seqQ {α β γ : Type} {rel : List Addr → Hp → β → α → Prop} {ρ : List Addr} {H : Hp} {r : R α} {f : α → Hm → R γ} {Q1 : β → Hp → Prop} (P : R γ → Prop) (hb : ¬ P .bad) (w : P (r.quiet.bind f))
    (k : ∀ a h' ρ' H' b, Grow ρ H ρ' H' → HRel G ρ' H' h' → rel ρ' H' b a → P (f a h') → Q1 b H') : Wp G E0 rel r ρ H Q1 := by
  cases r with
  | ok a h' => exact fun ρ' H' b g hr q => k a h' ρ' H' b g hr q w
  | exc c fs h' => exact (hb w).elim
  | bad => exact (hb w).elim
theorem wipe_set {σ : L2.St} {i : Nat} {x : Option V} : ∀ {vs : List Nat}, i ∈ vs → L2.wipe (σ.set i x) vs = L2.wipe σ vs
  | v :: vs, hi => by
    show (L2.wipe (σ.set i x) vs).set v none = (L2.wipe σ vs).set v none
    by_cases c : i ∈ vs
    · rw [wipe_set c]
    · have e : i = v := by
        rcases List.mem_cons.mp hi with e | e
        · exact e
        · exact absurd e c
      subst e
      have out : ∀ {ws : List Nat}, i ∉ ws → L2.wipe (σ.set i x) ws = (L2.wipe σ ws).set i x := by
        intro ws
        induction ws with
        | nil => intro _; rfl
        | cons w ws ih =>
          intro hn
          show (L2.wipe (σ.set i x) ws).set w none = ((L2.wipe σ ws).set w none).set i x
          rw [ih fun z => hn (List.mem_cons_of_mem _ z), List.set_comm _ _ (fun z => hn (by rw [z]; exact List.mem_cons_self))]
      rw [out c, List.set_set]
theorem wipe_wipe {σ : L2.St} : ∀ (vs : List Nat), L2.wipe (L2.wipe σ vs) vs = L2.wipe σ vs := by
  have out : ∀ {ws : List Nat} {τ : L2.St}, (∀ v ∈ ws, τ[v]? = some none ∨ τ[v]? = none) → L2.wipe τ ws = τ := by
    intro ws
    induction ws with
    | nil => intro τ _; rfl
    | cons w ws ih =>
      intro τ h
      show (L2.wipe τ ws).set w none = τ
      rw [ih fun v hv => h v (List.mem_cons_of_mem _ hv)]
      rcases h w List.mem_cons_self with e | e
      · apply List.ext_getElem?
        intro j
        by_cases c : w = j
        · subst c
          rw [List.getElem?_set, if_pos rfl, e, if_pos (List.getElem?_eq_some_iff.mp e).1]
        · rw [List.getElem?_set_ne c]
      · rw [List.set_eq_of_length_le (List.getElem?_eq_none_iff.mp e)]
  intro vs
  apply out
  intro v hv
  cases e : (L2.wipe σ vs)[v]? with
  | none => exact .inr rfl
  | some o =>
    cases o with
    | none => exact .inl rfl
    | some x => exact absurd hv (wipe_some e).2
/-- how a block's target binds -/
def BdOk (G : Gm) (bd : D → Env → Option Env) (g : TG) (vs : List Nat) : Prop := ∀ ρ H d v env env2 (σ : L2.St), VRel G ρ H v d → SRel G ρ H σ env → bd d env = some env2 →
  ∀ k : L2.St → Hp → Prop, (∀ σ2, SRel G ρ H σ2 env2 → L2.wipe σ2 vs = L2.wipe σ vs → k σ2 H) → g v σ H k
theorem bd_one {i : Nat} {vs : List Nat} (h : i ∈ vs) : BdOk G (bindC true [i]) (gName i) vs := fun ρ H d v env env2 σ q s e k hk => by
  cases (show some (env.set i (some d)) = some env2 from e)
  exact hk _ (s.set q i) (wipe_set h)
def gNames : List Nat → TGs
  | [] => gNil
  | i :: is => gCons (gName i) (gNames is)
theorem bd_names {vs : List Nat} : ∀ {is : List Nat}, (∀ i ∈ is, i ∈ vs) → ∀ ρ H ds ws env env2 (σ : L2.St), VRels G ρ H ws ds → SRel G ρ H σ env → setsN is ds env = some env2 →
    ∀ k : L2.St → Hp → Prop, (∀ σ2, SRel G ρ H σ2 env2 → L2.wipe σ2 vs = L2.wipe σ vs → k σ2 H) → gNames is ws σ H k
  | [], _, ρ, H, [], _, env, env2, σ, .nil, s, e, k, hk => by
    cases (show some env = some env2 from e)
    exact ⟨rfl, hk σ s rfl⟩
  | [], _, ρ, H, _ :: _, _, env, env2, σ, _, s, e, k, hk => nomatch e
  | i :: is, h, ρ, H, [], _, env, env2, σ, _, s, e, k, hk => nomatch e
  | i :: is, h, ρ, H, d :: ds, _, env, env2, σ, .cons q qs, s, e, k, hk => by
    refine ⟨_, _, rfl, ?_⟩
    exact bd_names (fun j hj => h j (List.mem_cons_of_mem _ hj)) ρ H ds _ _ env2 _ qs (s.set q i) e k fun σ2 s2 e2 => hk σ2 s2 (e2.trans (wipe_set (h i List.mem_cons_self)))
theorem bd_tup {is vs : List Nat} (h : ∀ i ∈ is, i ∈ vs) : BdOk G (bindC false is) (gTup G.K is.length (gNames is)) vs := fun ρ H d v env env2 σ q s e k hk => by
  cases q with
  | tup h1 h2 =>
    have e : setsN is _ env = some env2 := e
    refine ⟨_, _, rfl, h1, ?_, bd_names h ρ H _ _ env env2 σ h2 s e k hk⟩
    rw [h2.length]
    have len : ∀ {is : List Nat} {ds : List D} {env : Env}, setsN is ds env = some env2 → ds.length = is.length := by
      intro is
      induction is with
      | nil =>
        intro ds env e
        cases ds with
        | nil => rfl
        | cons _ _ => cases e
      | cons i is ih =>
        intro ds env e
        cases ds with
        | nil => cases e
        | cons d ds => exact congrArg (· + 1) (ih (show setsN is ds _ = some env2 from e))
    exact len e
  | _ => cases e
theorem HRel.aside {ρ : List Addr} {H : Hp} {h : Hm} (r : HRel G ρ H h) {p : Addr} {u u' : HO} (hn : p ∉ ρ) (hu : H p = some u) (hm : Mu u) : HRel G ρ (upd H p u') h ∧ Ext ρ H ρ (upd H p u') := by
  have g : Ext ρ H ρ (upd H p u') := by
    refine ⟨⟨[], by simp⟩, fun b xs e => ?_, fun b o v e => ?_⟩
    · rw [upd_ne (ne_of e hu (by rintro rfl; exact hm))]; exact e
    · rw [upd_ne (ne_of e hu (by rintro rfl; exact hm))]; exact e
  refine ⟨⟨r.len, r.inj, fun a m => ?_, fun l v e => ?_, r.tabs.put hu hm, fun q hq => (r.root q hq).trans g⟩, g⟩
  · obtain ⟨w, e⟩ := r.has a m
    exact ⟨w, by rw [upd_ne (fun z => hn (by rw [← z]; exact m))]; exact e⟩
  · obtain ⟨a, e1, k⟩ := r.obj l v e
    exact ⟨a, e1, k.ext g (upd_ne fun z => hn (by rw [← z]; exact List.mem_of_getElem? e1))⟩
theorem SRel.ext {ρ ρ' : List Addr} {H H' : Hp} (g : Ext ρ H ρ' H') {σ : L2.St} {env : Env} (s : SRel G ρ H σ env) : SRel G ρ' H' σ env := ⟨s.1, fun i d e => let ⟨v, e1, q⟩ := s.2 i d e; ⟨v, e1, q.ext g⟩⟩
theorem rd_compG {mi : MI} {own : List Nat} {one : Bool} {is : List Nat} {t : MT} {g : TG} (fin : List D → Hm → R D) (hb : BdOk G (bindC one is) g own) (σ : L2.St) (H : Hp) (Q Q' : VK)
    (hf : ∀ ρ1 H1 ρ2 H2 h2 L acc dacc, H1 L = none → Grow ρ1 H1 ρ2 H2 → HRel G ρ2 H2 h2 → L ∉ ρ2 → H2 L = some (.lst acc) → VRels G ρ2 H2 acc dacc → Wp G (atW E σ) (VRel G) (fin dacc h2) ρ1 H1 Q → Q' (.ref L) H2)
    (w : rd G E (fun σ h => (mi σ h).bind fun J h1 => (compGo (bindC one is) t ma J.ok (wipe σ own) J.xs [] h1).bind fin) σ H Q) : tLc (rdI G E mi) g (rdT G EW t) (rd G EW ma) own σ H Q' := by
  obtain ⟨ρ, env, h, hs, hr, w⟩ := w
  refine ⟨ρ, env, h, hs, hr, Wp.seq w fun J h1 ρ1 H1 JJ g1 r1 y w1 => ?_⟩
  intro L hL
  have s1 := hs.grow g1
  have nL := r1.fresh hL
  have gL := Grow.tmp (ρ := ρ1) hL (.lst [])
  refine ⟨fun i m H2 => m = J.xs.length - i ∧ i ≤ J.xs.length ∧ ∃ ρ2 h2 acc dacc, Grow ρ1 H1 ρ2 H2 ∧ HRel G ρ2 H2 h2 ∧ L ∉ ρ2 ∧ H2 L = some (.lst acc) ∧ VRels G ρ2 H2 acc dacc ∧
    Wp G (atW E σ) (VRel G) ((compGo (bindC one is) t ma J.ok (wipe env own) (J.xs.drop i) dacc h2).bind fin) ρ1 H1 Q, ⟨_, rfl, Nat.zero_le _, ρ1, h1, [], [], gL, r1.tmp hL _, nL, upd_same, .nil, w1⟩, ?_⟩
  rintro i m H2 ⟨rfl, hle, ρ2, h2, acc, dacc, g2, r2, n2, e2, q2, w2⟩
  by_cases hlt : i < J.xs.length
  · rw [List.drop_eq_getElem_cons hlt] at w2
    unfold compGo at w2
    split at w2 <;> first | exact False.elim w2 | skip
    rename_i env3 ok eb
    refine .inr ⟨y.go ρ2 H2 h2 i g2 r2 ok hlt, fun H' => ∃ m', m' < J.xs.length - i ∧ m' = J.xs.length - (i + 1) ∧ i + 1 ≤ J.xs.length ∧ ∃ ρ2 h2 acc dacc, Grow ρ1 H1 ρ2 H' ∧ HRel G ρ2 H' h2 ∧ L ∉ ρ2 ∧ H' L = some (.lst acc) ∧ VRels G ρ2 H' acc dacc ∧
      Wp G (atW E σ) (VRel G) ((compGo (bindC one is) t ma J.ok (wipe env own) (J.xs.drop (i + 1)) dacc h2).bind fin) ρ1 H1 Q, fun H' ⟨m', l, q⟩ => ⟨m', l, q⟩, fun x H3 yl => ?_⟩
    obtain ⟨ρ3, g3, r3, q3⟩ := y.yld ρ2 H2 h2 i x H3 g2 r2 ok yl J.xs[i] (by simp [hlt])
    refine hb ρ3 H3 J.xs[i] x _ env3 _ q3 (((s1.grow g2).grow g3).wipe own) eb _ fun σ4 s4 ew => ⟨by rw [ew, wipe_wipe], ρ3, env3, h2, s4, r3, ?_⟩
    obtain ⟨e3, n3⟩ := g3.out L _ e2 n2
    let P : R (List D) → Prop := fun r => Wp G (atW E σ) (VRel G) (r.bind fin) ρ1 H1 Q
    refine Wp.seqQ P (fun z => z) w2 fun k h4 ρ4 H4 b g4 r4 q4 w4 => ?_
    have q4 : b = k := q4
    subst q4
    obtain ⟨e4, n4⟩ := g4.out L _ e3 n3
    cases b with
    | false =>
      show ∃ m', m' < J.xs.length - i ∧ _
      exact ⟨J.xs.length - (i + 1), by omega, rfl, hlt, ρ4, h4, acc, dacc, (g2.trans g3).trans g4, r4, n4, e4, (q2.grow g3).grow g4, w4⟩
    | true =>
      show rd G EW ma σ4 H4 _
      refine ⟨ρ4, env3, h4, s4.grow g4, r4, Wp.seqQ P (fun z => z) w4 fun d h5 ρ5 H5 v g5 r5 q5 w5 => ?_⟩
      obtain ⟨e5, n5⟩ := g5.out L _ e4 n4
      have w5 : P (ifR (decide (dacc.length < SL)) (compGo (bindC one is) t ma J.ok (wipe env own) (J.xs.drop (i + 1)) (dacc ++ [d]) h5)) := w5
      have q6 := ((q2.grow g3).grow g4).grow g5
      cases c : decide (dacc.length < SL) with
      | false =>
        rw [c] at w5
        exact False.elim w5
      | true =>
        rw [c] at w5
        obtain ⟨r6, x6⟩ := r5.aside (u' := .lst (acc ++ [v])) n5 e5 trivial
        refine ⟨acc, e5, by rw [q2.length]; exact sl_lt (of_decide_eq_true c), J.xs.length - (i + 1), by omega, rfl, hlt, ρ5, h5, acc ++ [v], dacc ++ [d], ?_, r6, n5, upd_same, (q6.append (.cons q5 .nil)).ext x6, w5⟩
        have g6 := ((g2.trans g3).trans g4).trans g5
        refine ⟨g6.pre, fun b xs e => ?_, fun b o u e => ?_, fun b o e n kt => ?_⟩
        · rw [upd_ne (ne_of_none e hL)]; exact g6.tup b xs e
        · rw [upd_ne (ne_of_none e hL)]; exact g6.frz b o u e
        · rw [upd_ne (ne_of_none e hL)]; exact g6.out b o e n kt
  · have e : i = J.xs.length := by omega
    subst e
    rw [List.drop_length] at w2
    unfold compGo at w2
    cases ok : J.ok h2 with
    | false => rw [ok] at w2; exact False.elim w2
    | true =>
      rw [ok] at w2
      exact .inl ⟨y.stop ρ2 H2 h2 _ g2 r2 ok (Nat.le_refl _), hf ρ1 H1 ρ2 H2 h2 L acc dacc hL ⟨g2.pre, g2.tup, g2.frz, g2.outT⟩ r2 n2 e2 q2 w2⟩
theorem rd_comp {mi : MI} {own : List Nat} {one : Bool} {is : List Nat} {t : MT} {g : TG} (hb : BdOk G (bindC one is) g own) (σ : L2.St) (H : Hp) (Q : VK) (w : rd G E (eComp mi own one is t ma) σ H Q) : tLc (rdI G E mi) g (rdT G EW t) (rd G EW ma) own σ H Q :=
  rd_compG (fun acc h2 => .ok (.loc h2.n) (h2.new (.lst acc))) hb σ H Q Q (fun ρ1 H1 ρ2 H2 h2 L acc dacc hL g2 r2 n2 e2 q2 w2 => by
    have e3 : upd H2 L (.lst acc) = H2 := by
      funext b
      by_cases c : b = L
      · rw [c, upd_same, e2]
      · rw [upd_ne c]
    have r3 := r2.adopt (u' := .lst acc) (o := .lst dacc) n2 e2 trivial ⟨acc, upd_same, q2.ext (Ext.late e2 trivial _)⟩
    rw [e3] at r3
    refine (show Wp G (atW E σ) (VRel G) (.ok (.loc h2.n) (h2.new (.lst dacc))) ρ1 H1 Q from w2) (ρ2 ++ [L]) H2 _ ⟨?_, g2.tup, g2.frz, fun b o e n kt => ?_⟩ r3 (.loc ?_)
    · obtain ⟨u, e⟩ := g2.pre
      exact ⟨u ++ [L], by rw [e, List.append_assoc]⟩
    · obtain ⟨e4, n4⟩ := g2.out b o e n kt
      refine ⟨e4, fun m => ?_⟩
      rcases List.mem_append.mp m with m | m
      · exact n4 m
      · exact ne_of_none e hL (List.mem_singleton.mp m)
    · rw [← r2.len]
      simp) w
variable {it elt : Expr} {ifs : List Expr} {scope : Scope} {own : List (Str × Nat)} {mi : MI} {t : MT} {one : Bool} {is : List Nat} {g : TG}
theorem mts_nil {Y : Cx} : PTs Y [] (rdT G E tYes) := ⟨fun pins s σ H Q I ⟨ρ, env, h, hs, hr, w⟩ => pts_nil.run pins s σ H Q I (Wp.val w hr rfl)⟩
theorem mts_one {Y : Cx} {e : Expr} (h : PT Y e (rdT G E t)) : PTs Y [e] (rdT G E t) := pts_one h
theorem me_comp (hc : X.calm = true) (hN : X.N.Nodup) (hi : PI X tg it (rdI G E mi)) (ok : BlkOk X.N X.env.scope scope own) (hbd : BdOk G (bindC one is) g (own.map (·.2)))
    (hg : ∀ (s : Shared) (H : Hp) (C : Addr) (cl : List (Str × Addr)) (fp : List Addr), PG (X.blk s H scope (compEnvC scope cl C X.env) fp) tg g) (ht : ∀ (s : Shared) (H : Hp) (C : Addr) (cl : List (Str × Addr)) (fp : List Addr), PTs (X.blk s H scope (compEnvC scope cl C X.env) fp) ifs (rdT G EW t))
    (he : ∀ (s : Shared) (H : Hp) (C : Addr) (cl : List (Str × Addr)) (fp : List Addr), PE (X.blk s H scope (compEnvC scope cl C X.env) fp) elt (rd G EW ma)) (hs : ∀ x, foldedSetIterable it X.env x = pure x := by intro _; rfl) :
    PE X (.ListComp elt [⟨tg, it, ifs, 0⟩] scope pos) (rd G E (eComp mi (own.map (·.2)) one is t ma)) := pe_w (pe_lc hc hN hi ok hg ht he hs) (rd_comp hbd)
theorem ms_setComp (i : Nat) {y : Str} {py spos : Pos} (hc : X.calm = true) (hN : X.N.Nodup) (hy : X.N[i]? = some y) (hyl : X.env.scope.names.lookup y = some .local) (hsw : swapsWith (.ListComp elt [⟨tg, it, ifs, 0⟩] scope pos) (some (.Name y py)) spos.line X.env = pure true)
    (hi : PI X tg it (rdI G E mi)) (ok : BlkOk X.N X.env.scope scope own) (hbd : BdOk G (bindC one is) g (own.map (·.2)))
    (hg : ∀ (s : Shared) (H : Hp) (C : Addr) (cl : List (Str × Addr)) (fp : List Addr), PG (X.blk s H scope (compEnvC scope cl C X.env) fp) tg g) (ht : ∀ (s : Shared) (H : Hp) (C : Addr) (cl : List (Str × Addr)) (fp : List Addr), PTs (X.blk s H scope (compEnvC scope cl C X.env) fp) ifs (rdT G EW t))
    (he : ∀ (s : Shared) (H : Hp) (C : Addr) (cl : List (Str × Addr)) (fp : List Addr), PE (X.blk s H scope (compEnvC scope cl C X.env) fp) elt (rd G EW ma)) (hs : ∀ x, foldedSetIterable it X.env x = pure x := by intro _; rfl) :
    PS X (.Assign [.Name y py] (.ListComp elt [⟨tg, it, ifs, 0⟩] scope pos) spos) (rdS G E (sAsg (eComp mi (own.map (·.2)) one is t ma) (gN i))) :=
  ps_w (ps_setLc hc hN hy hyl hsw hi ok hg ht he hs) fun D σ H w => by
    have w2 : tAsg (rd G E (eComp mi (own.map (·.2)) one is t ma)) (gName i) D σ H := by
      obtain ⟨ρ, env, h, hs, hr, w⟩ := w
      exact ⟨ρ, env, h, hs, hr, Wp.stm hs w fun x h1 ρ1 H1 v g1 r1 q1 w1 => (show WpS G E (.nx (env.set i (some x)) h1) ρ1 H1 D from w1) ρ1 H1 _ (Grow.refl _ _) r1 ((hs.grow g1).set q1 i)⟩
    exact rd_comp hbd σ H _ w2
end
end Mo
end
section
/-! Rules: defs and their calls. The promise is that of M; it is kept where no text is being shown around. -/
namespace Mo
open PySem L2 PyProof.Rows
def spOf (G : Gm) (n : Nat) (F : Fn) : Sp := fun vs H Q E => ∃ ρ ds h, HRel G ρ H h ∧ VRels G ρ H vs ds ∧ vs.length = n ∧ Wp G E (VRel G) (F ds h) ρ H Q
/-- room, and no text is being shown -/
structure RG (k : Nat) (A : Around) : Prop where
  r : Room k A
  g : A.guards = some []
theorem RG.mono {j k : Nat} {A : Around} (r : RG k A) (h : j ≤ k := by decide) : RG j A := ⟨r.r.mono h, r.g⟩
structure FnG (P : Program) (w : World) (K : PySem.W.Frag) (mg : Str → Option Value) (base : Heap) (k : Nat) (f : Addr) (fd : FuncData) (ps : List Str) (sp : Sp) : Prop where
  len : ∀ vs H Q E, sp vs H Q E → vs.length = ps.length
  go : ∀ (A : Around) (rg : RG k A) (outer : List PySem.Env) (s : Shared) (H : Hp) (args : Args) (us : List Value) (vs : List V) (Q : VK) (E : XK), Env0 P w K mg base A outer s H → BindsTo s fd args (ps.zip us) → Vals vs us → sp vs H Q E → codeAny (model P w) A (.call (.ref f) args) (CR (L2.CX P w) outer P w H s Q E) s
section
variable {P : Program} {w : World} {K : PySem.W.Frag} {mg : Str → Option Value} {base : Heap}
theorem start_rel {G : Gm} {ρ : List Addr} {H : Hp} {N : List Str} {vs : List V} {ds : List D} (q : VRels G ρ H vs ds) : SRel G ρ H (L2.start N vs) (ds.map some ++ List.replicate (N.length - ds.length) none) := by
  unfold L2.start
  refine ⟨by simp [q.length], fun i d e => ?_⟩
  by_cases hi : i < ds.length
  · rw [List.getElem?_append_left (by simpa using hi), List.getElem?_map] at e
    obtain ⟨d', e1, e2⟩ := Option.map_eq_some_iff.mp e
    cases e2
    obtain ⟨v, e3, k⟩ := q.get e1
    exact ⟨v, by rw [List.getElem?_append_left (by simpa [q.length] using hi), List.getElem?_map, e3]; rfl, k⟩
  · rw [List.getElem?_append_right (by simpa using hi), List.getElem?_replicate] at e
    split at e <;> cases e
/-- a def, by its body -/
theorem fg_of {G : Gm} {x qual : Str} {params : Arguments} {body : List Stmt} {scope : Scope} {dvs : List V} {kws : List (Str × V)} {f : Addr} {fd : FuncData} {N ps : List Str} {k : Nat} {m : MS} (F : FunD K x qual params body scope dvs kws f fd) (S : FnScope N ps scope)
    (hb : ∀ (cdv : Value), (∃ c, cdv = .ref c ∧ ∀ oc od fd osl, K.lookup f = some ⟨oc, od, .func fd, osl⟩ → fd.code = .ref c) → ∀ (A : Around) (outer : List PySem.Env) (s : Shared) (H : Hp) (E : XK), RG k (A.deeper (envOfC qual scope s.heap.objs.size f cdv)) → PSs (cxOf (L2.CX P w) P w K mg base N qual scope f cdv A outer s H E) body (rdS G (fun cls d _ H => E cls d H) m)) :
    FnG P w K mg base (k + 1) f fd ps (spOf G ps.length (fnOf N.length m)) := by
  obtain ⟨oc, od, dV, kV, doc, pm, an, cdv, ct, osl, rfl, lk, hcd, _, _⟩ := F.ex
  refine ⟨fun vs H Q E ⟨_, _, _, _, _, h, _⟩ => h, fun A rg outer s H args us vs Q E e0 bnd rv ⟨ρ, ds, h, hr, hv, hn, wq⟩ => ?_⟩
  have inK : K.In s.heap := e0.mod.kin.keeps fun c u z => (e0.bs c u z).1
  have lim : s.heap.NoLimit := e0.mod.nolimit.keeps fun c u z => (e0.bs c u z).1
  have kinds : ∀ y ∈ ps.zip us, scope.names.lookup y.1 = some .local ∨ (scope.names.lookup y.1 = some .cell ∧ ((cellsFrom (s.heap.objs.size + 1) scope.names []).lookup y.1).isSome = true) := by
    rintro ⟨n, v⟩ hy
    rcases S.par n (List.of_mem_zip hy).1 with z | z
    · exact Or.inl z
    · exact Or.inr ⟨z, PySem.W.cellsFrom_some _ _ _ (Or.inl z)⟩
  refine codeAny_call_function rg.r.depth (inK _ _ lk) rfl S.co S.gen rfl (PySem.W.codeRec_of inK hcd) (bnd _ _ _ _ (wpAny_newFunctionEnv_cells S.kind kinds fun env he s1 x => ?_))
  subst he
  refine ⟨lim.keeps x.toInCall.keep, codeAny_func ?_⟩
  have J0 := inv_start (CX := L2.CX P w) (P := P) (w := w) (E := E) S rg.r.hd e0 hn rv x
  have rg1 : ∀ j, RG (j + 1) A → RG j (A.deeper (envOfC qual scope s.heap.objs.size f cdv)) := fun j z => ⟨z.r.deeper _, z.g⟩
  have cdR : ∃ c, cdv = .ref c ∧ ∀ oc od fd osl, K.lookup f = some ⟨oc, od, .func fd, osl⟩ → fd.code = .ref c := by
    obtain ⟨c, rfl⟩ := He.codeIn_ref hcd
    refine ⟨c, rfl, fun oc' od' fd' osl' e => ?_⟩
    rw [lk] at e
    cases e
    rfl
  have body := (hb cdv cdR A outer s H E (rg1 k rg)).run [] s1 (L2.start N vs) H { nx := fun _ H' => Q .non H', rt := Q } J0 ⟨ρ, _, h, start_rel hv, hr, by
    have wq : Wp G E (VRel G) (match m (ds.map some ++ List.replicate (N.length - ds.length) none) h with | .nx _ h1 => .ok .non h1 | .rt d h1 => .ok d h1 | .exc c fs _ h1 => .exc c fs h1 | _ => .bad) ρ H Q := wq
    cases e : m (ds.map some ++ List.replicate (N.length - ds.length) none) h with
    | nx env h1 => rw [e] at wq; exact fun ρ1 H1 σ1 g1 r1 q1 => wq ρ1 H1 .non g1 r1 .non
    | rt d h1 => rw [e] at wq; exact wq
    | exc c fs env h1 => rw [e] at wq; exact fun ρ1 H1 d σ1 g1 r1 s1 e1 => wq ρ1 H1 d g1 r1 e1
    | bk env h1 => rw [e] at wq; exact False.elim wq
    | ct env h1 => rw [e] at wq; exact False.elim wq
    | bad => rw [e] at wq; exact False.elim wq⟩
  refine wpAny_mono body (fun fl s' hs => ?_) fun _ _ z => z
  cases fl with
  | ret u =>
    obtain ⟨v, σ', H', J, r, q⟩ := hs
    exact ⟨v, H', J.os, J.bare, J.base, J.hok, r, q⟩
  | next =>
    obtain ⟨σ', H', J, q⟩ := hs
    exact ⟨.non, H', J.os, J.bare, J.base, J.hok, rfl, q⟩
  | brk => exact (let ⟨_, _, _, q⟩ := hs; q : False).elim
  | cont => exact (let ⟨_, _, _, q⟩ := hs; q : False).elim
end
/-! ### calls -/
/-- an exception of a callee reaches what this body wants of exceptions, with the names -/
def PassW (X : Cx) (E : WM) : Prop := ∀ (pins : List (Addr × Obj)) (σ : L2.St) (H : Hp) (s : Shared) (e : Value) (s' : Shared), Inv X pins σ H s → L2.CX X.prog X.w X.stack H s (atW E σ) e s' → X.xe e s'
/-- the value fv called: F of the things by place and by name -/
def CallsF (X : Cx) (G : Gm) (E : WM) (fv : Value) (kn : List Str) (F : List D → List D → Hm → R D) : Prop := ∀ (pins : List (Addr × Obj)) (s : Shared) (σ : L2.St) (H : Hp) (us ws : List Value) (vs zs : List V) (ρ : List Addr) (h : Hm) (ds es : List D) (Q : VK),
  Inv X pins σ H s → Vals vs us → Vals zs ws → HRel G ρ H h → VRels G ρ H vs ds → VRels G ρ H zs es → Wp G (atW E σ) (VRel G) (F ds es h) ρ H Q → wpAny (model X.prog X.w) X.A (call fv us (kn.zip ws)) (EP X pins σ Q) X.xe s
def PermR (G : Gm) (n m : Nat) (gV : List V → List V → List V) (p : List D → List D → List D) : Prop := ∀ ρ H vs ds zs es, VRels G ρ H vs ds → VRels G ρ H zs es → ds.length = n → es.length = m → VRels G ρ H (gV vs zs) (p ds es) ∧ (gV vs zs).length = (p ds es).length
section
variable {G : Gm} {E : WM} {X : Cx} {k n : Nat} {f : Addr} {fd : FuncData} {ps kn : List Str} {F : Fn} {g : List Value → List Value → List Value} {gV : List V → List V → List V} {p : List D → List D → List D}
theorem back_to {pins : List (Addr × Obj)} {σ : L2.St} {H : Hp} {s : Shared} {Q : VK} (hx : PassW X E) (I : Inv X pins σ H s) {r : Result} {s' : Shared} (h : CR (L2.CX X.prog X.w) X.stack X.prog X.w H s Q (atW E σ) r s') :
    (match r with | .ok (.ret u) => EP X pins σ Q u s' | .ok _ => False | .error e => X.xe e s') := by
  cases r with
  | error e => exact hx pins σ H s e s' I h
  | ok fl =>
    cases fl with
    | ret u => exact I.after h
    | _ => exact (h : False)
theorem calls_of (FG : FnG X.prog X.w X.K X.mg X.base k f fd ps (spOf G ps.length F)) (rg : RG k X.A) (hb : KBn X.K fd ps n kn g gV) (hx : PassW X E) (hp : PermR G n kn.length gV p) (hl : ∀ ds es, ds.length = n → es.length = kn.length → (p ds es).length = ps.length) : CallsF X G E (.ref f) kn (callP n kn.length p F) := by
  intro pins s σ H us ws vs zs ρ h ds es Q I rv rz hr qv qz w
  obtain ⟨c, w⟩ := Wp.ifR w
  obtain ⟨c1, c2⟩ := Bool.and_eq_true_iff.mp c
  have c1 := of_decide_eq_true c1
  have c2 := of_decide_eq_true c2
  obtain ⟨k1, k2⟩ := hp ρ H vs ds zs es qv qz c1 c2
  have r2 := hb.rel rv rz
  have l1 : us.length = n := by rw [← rv.length, qv.length, c1]
  have l2 : ws.length = kn.length := by rw [← rz.length, qz.length, c2]
  refine wpAny_call (codeAny_mono (FG.go X.A rg X.stack s H ⟨us, kn.zip ws⟩ (g us ws) (gV vs zs) Q (atW E σ) I.env0 (hb.to s us ws I.kIn l1 l2) r2 ⟨ρ, p ds es, h, hr, k1, by rw [k2, hl ds es c1 c2], w⟩) fun r s' hq => ?_)
  have z := back_to hx I hq
  cases r with
  | error e => exact z
  | ok fl =>
    cases fl with
    | ret u => exact z
    | _ => exact (z : False).elim
theorem rg_make {A : Around} (rg : RG (k + 1) A) (C : Addr) (us : List Value) (kw : List (Str × Value)) : RG k (A.under (.builtin "type.__call__" ⟨.ref C :: us, kw⟩)) := by
  refine ⟨rg.r.make C us kw, ?_⟩
  have e := rg.g
  show pushGuards (Code.guards (.builtin "type.__call__" ⟨.ref C :: us, kw⟩)) A.guards = some []
  rw [e]
  rfl
/-- a class called: its new instance, then F, its __init__ -/
theorem makes_of {c : Nat} (M : Mk X.K (G.cA c) f) (FG : FnG X.prog X.w X.K X.mg X.base k f fd ps (spOf G ps.length F)) (rg : RG (k + 1) X.A) (hb : KBn X.K fd ps (n + 1) kn g gV) (hx : PassW X E) (hp : PermR G (n + 1) kn.length gV p)
    (hl : ∀ ds es, ds.length = n + 1 → es.length = kn.length → (p ds es).length = ps.length) : CallsF X G E (.ref (G.cA c)) kn (mkNew c (callP (n + 1) kn.length p F)) := by
  intro pins s σ H us ws vs zs ρ h ds es Q I rv rz hr qv qz w
  have w : Wp G (atW E σ) (VRel G) ((callP (n + 1) kn.length p F (.loc h.n :: ds) es (h.new (.ins c []))).bind fun v h1 => match v with | .non => .ok (.loc h.n) h1 | _ => .bad) ρ H Q := w
  have hd := I.hok.fresh (Nat.le_refl s.heap.objs.size)
  have hx0 := I.hok.fresh (Nat.le_succ s.heap.objs.size)
  have I2 := Inv.made (C := G.cA c) I
  have ne : s.heap.objs.size + 1 ≠ s.heap.objs.size := Nat.succ_ne_self _
  -- the new instance among what M knows
  have g1 := Grow.tmp (ρ := ρ) hd (.own (s.heap.objs.size + 1))
  have r1 := hr.tmp hd (.own (s.heap.objs.size + 1))
  have hx1 : upd H s.heap.objs.size (.own (s.heap.objs.size + 1)) (s.heap.objs.size + 1) = none := by rw [upd_ne ne]; exact hx0
  have g2 := Grow.new r1 hx1 (.ins (G.cA c) s.heap.objs.size [])
  have r2 : HRel G (ρ ++ [s.heap.objs.size + 1]) _ (h.new (.ins c [])) := r1.new hx1 (ho := .ins (G.cA c) s.heap.objs.size []) ⟨s.heap.objs.size, [], upd_same, .nil⟩
  have gg := g1.trans g2
  have at' : (ρ ++ [s.heap.objs.size + 1])[h.n]? = some (s.heap.objs.size + 1) := by
    rw [← hr.len]
    simp
  cases e : callP (n + 1) kn.length p F (.loc h.n :: ds) es (h.new (.ins c [])) with
  | bad => rw [e] at w; exact False.elim w
  | _ =>
    have e' : ∃ b : Unit, (decide ((D.loc h.n :: ds).length = n + 1) && decide (es.length = kn.length)) = true := by
      cases q : (decide ((D.loc h.n :: ds).length = n + 1) && decide (es.length = kn.length)) with
      | true => exact ⟨(), rfl⟩
      | false =>
        unfold callP at e
        rw [q] at e
        cases e
    obtain ⟨_, e'⟩ := e'
    obtain ⟨c1, c2⟩ := Bool.and_eq_true_iff.mp e'
    have c1 := of_decide_eq_true c1
    have c2 := of_decide_eq_true c2
    have e2 : F (p (.loc h.n :: ds) es) (h.new (.ins c [])) = callP (n + 1) kn.length p F (.loc h.n :: ds) es (h.new (.ins c [])) := by
      show _ = ifR _ _
      rw [e']
      rfl
    have qv2 : VRels G (ρ ++ [s.heap.objs.size + 1]) _ (V.ref (s.heap.objs.size + 1) :: vs) (.loc h.n :: ds) := .cons (.loc at') (qv.grow gg)
    obtain ⟨k1, k2⟩ := hp _ _ _ _ zs es qv2 (qz.grow gg) c1 c2
    have rv2 : Vals (V.ref (s.heap.objs.size + 1) :: vs) (Value.ref (s.heap.objs.size + 1) :: us) := .cons rfl rv
    have r3 := hb.rel rv2 rz
    have l1 : (Value.ref (s.heap.objs.size + 1) :: us).length = n + 1 := by rw [← rv2.length, qv2.length, c1]
    have l2 : ws.length = kn.length := by rw [← rz.length, qz.length, c2]
    have goal := FG.go _ (rg_make rg (G.cA c) us (kn.zip ws)) X.stack _ _ ⟨Value.ref (s.heap.objs.size + 1) :: us, kn.zip ws⟩ (g (Value.ref (s.heap.objs.size + 1) :: us) ws) _ (fun v H2 => v = .non ∧ Q (.ref (s.heap.objs.size + 1)) H2) (atW E σ)
      (I2.env0.make (G.cA c) us (kn.zip ws)) (hb.to _ (Value.ref (s.heap.objs.size + 1) :: us) ws I2.kIn l1 l2) r3 ⟨_, p (.loc h.n :: ds) es, _, r2, k1, by rw [k2, hl _ es c1 c2], by
        rw [e2]
        have w2 := Wp.grow gg w
        rw [e] at w2 ⊢
        first
          | exact w2
          | exact fun ρ3 H3 d3 g3 r4 e3 => w2 ρ3 H3 d3 g3 r4 e3
          | (intro ρ3 H3 v g3 r4 q3
             have w3 := Wp.grow g3 w2
             cases q3 with
             | non => exact ⟨rfl, Wp.val w3 r4 (.loc (g3.at at'))⟩
             | _ => exact False.elim w3)⟩
    refine wpAny_call (make_map (f := f) I.kIn M.makes M.init (beq_iff_eq.mp M.fn) (codeAny_mono goal fun r s' hq => ?_))
    have z := back_to hx I2 hq
    cases r with
    | error e => exact z
    | ok fl =>
      cases fl with
      | ret u =>
        obtain ⟨v, H', I3, rv', ev, q3⟩ := z
        subst ev
        exact ⟨rv', ⟨V.ref (s.heap.objs.size + 1), H', I3, rfl, q3⟩⟩
      | _ => exact (z : False).elim
end
section
variable {G : Gm} {E : WM} {X : Cx} {a b o : Expr} {pos q apos : Pos} {x : Str} {es : List Expr} {as ks : MA} {ma : ME} {F : List D → List D → Hm → R D} {fv : Addr} {kn : List Str} {kws : List Keyword}
theorem pk_w {kws : List Keyword} {t t' : TA} (h : PK X kws t) (w : ∀ σ H Q, t' σ H Q → t σ H Q) : PK X kws t' := ⟨fun pos pins s σ H Q I q => h.run pos pins s σ H Q I (w σ H Q q)⟩
theorem mk_nil : PK X [] (rdA G E aNil) := pk_w pk_nil rd_aNil
theorem mk_cons {nm : Option Str} {kpos : Pos} (ha : PE X a (rd G E ma)) (hr : PK X kws (rdA G E ks)) : PK X (⟨nm, a, kpos⟩ :: kws) (rdA G E (aCons ma ks)) := pk_w (pk_cons ha hr) rd_aCons
/-- the arguments' reading, and what stands behind it -/
def AFt (G : Gm) (E : XK) (f : List D → Hm → R D) (Q : VK) : List V → Hp → Prop := fun vs H => ∃ ρ h ds, HRel G ρ H h ∧ VRels G ρ H vs ds ∧ Wp G E (VRel G) (f ds h) ρ H Q
theorem aft {m : MA} {f : List D → Hm → R D} {ρ : List Addr} {σ : L2.St} {H : Hp} {env : Env} {h : Hm} {Q : VK} (hs : SRel G ρ H σ env) (hr : HRel G ρ H h) (w : Wp G (atW E σ) (VRel G) ((m env h).bind f) ρ H Q) : rdA G E m σ H (AFt G (atW E σ) f Q) :=
  ⟨ρ, env, h, hs, hr, Wp.seq w fun ds h1 ρ1 H1 vs g1 r1 q1 w1 => ⟨ρ1, h1, ds, r1, q1, w1⟩⟩
/-- .. of two rows of things -/
def AFt2 (G : Gm) (E : WM) (σ : L2.St) (env : Env) (m2 : MA) (f : List D → List D → Hm → R D) (Q : VK) : List V → Hp → Prop := fun vs H => ∃ ρ h ds, SRel G ρ H σ env ∧ HRel G ρ H h ∧ VRels G ρ H vs ds ∧ Wp G (atW E σ) (VRel G) ((m2 env h).bind fun es h2 => f ds es h2) ρ H Q
theorem aft2 {m m2 : MA} {f : List D → List D → Hm → R D} {ρ : List Addr} {σ : L2.St} {H : Hp} {env : Env} {h : Hm} {Q : VK} (hs : SRel G ρ H σ env) (hr : HRel G ρ H h) (w : Wp G (atW E σ) (VRel G) ((m env h).bind fun ds h1 => (m2 env h1).bind fun es h2 => f ds es h2) ρ H Q) :
    rdA G E m σ H (AFt2 G E σ env m2 f Q) := ⟨ρ, env, h, hs, hr, Wp.seq w fun ds h1 ρ1 H1 vs g1 r1 q1 w1 => ⟨ρ1, h1, ds, hs.grow g1, r1, q1, w1⟩⟩
theorem aft2k {m2 : MA} {f : List D → List D → Hm → R D} {ρ : List Addr} {σ : L2.St} {H : Hp} {env : Env} {h : Hm} {ds : List D} {vs : List V} {Q : VK} (hs : SRel G ρ H σ env) (hr : HRel G ρ H h) (q : VRels G ρ H vs ds) (w : Wp G (atW E σ) (VRel G) ((m2 env h).bind fun es h2 => f ds es h2) ρ H Q) :
    rdA G E m2 σ H (fun zs H1 => ∃ ρ h es, HRel G ρ H1 h ∧ VRels G ρ H1 vs ds ∧ VRels G ρ H1 zs es ∧ Wp G (atW E σ) (VRel G) (f ds es h) ρ H1 Q) := ⟨ρ, env, h, hs, hr, Wp.seq w fun es h1 ρ1 H1 zs g1 r1 q1 w1 => ⟨ρ1, h1, es, r1, q.grow g1, q1, w1⟩⟩
/-- f(a, ..) -/
theorem me_call (hc : CallsF X G E (.ref fv) [] F) (hg : Gl X x) (hm : X.mg x = some (.ref fv)) (hk : PySem.W.keepIn X.K (.ref fv) = true) (ha : PA X (a :: es) (rdA G E as)) (hdb : (x == ("__debug__" : Str)) = false := by decide)
    (he : starEach (a :: es) X.env = (false, eval a X.env) :: starEach es X.env := by rfl) (hpl : (backTo pos (starEach es X.env)).any (·.1) = false := by rfl) : PE X (.Call (.Name x q) (a :: es) [] pos) (rd G E (eCall F as aNil)) :=
  ⟨fun pins s σ H Q I ⟨ρ, env, h, hs, hr, w⟩ => by
    have A1 := ha.run pos pins s σ H _ I (aft (f := fun ds h1 => F ds [] h1) hs hr w)
    refine wpAny_Call_Name_kw (ld_glob I hg hm (PySem.W.callWith_K (h₀ := X.base) I.ok.mod.kin hk (thn A1 fun us s1 ⟨vs, H1, I1, rv, ρ1, h1, ds, r1, q1, w1⟩ => ⟨I1.kIn, ?_⟩) he hpl) hdb)
    exact hc pins s1 σ H1 us [] vs [] ρ1 h1 ds [] Q I1 rv .nil r1 q1 .nil w1⟩
/-- f() -/
theorem me_call0 (hc : CallsF X G E (.ref fv) [] F) (hg : Gl X x) (hm : X.mg x = some (.ref fv)) (hk : PySem.W.keepIn X.K (.ref fv) = true) (hdb : (x == ("__debug__" : Str)) = false := by decide) : PE X (.Call (.Name x q) [] [] pos) (rd G E (eCall F aNil aNil)) :=
  ⟨fun pins s σ H Q I ⟨ρ, env, h, hs, hr, w⟩ => wpAny_Call_Name_kw (ld_glob I hg hm (PySem.W.callWith_K0 I.kIn hk (hc pins s σ H [] [] [] [] ρ h [] [] Q I .nil .nil hr .nil .nil w)) hdb)⟩
/-- f(a, .., k = b, ..) -/
theorem me_callK (hc : CallsF X G E (.ref fv) kn F) (hg : Gl X x) (hm : X.mg x = some (.ref fv)) (hk : PySem.W.keepIn X.K (.ref fv) = true) (ha : PA X (a :: es) (rdA G E as)) (hkw : PK X kws (rdA G E ks)) (hall : (backToKw pos (keywordEach kws X.env)).all (·.1.isSome) = true := by rfl)
    (hks : (backToKw pos (keywordEach kws X.env)).filterMap (·.1) = kn := by rfl) (hdb : (x == ("__debug__" : Str)) = false := by decide) (he : starEach (a :: es) X.env = (false, eval a X.env) :: starEach es X.env := by rfl)
    (hpl : ((backTo pos (starEach (a :: es) X.env)).any (·.1) || (backToKw pos (keywordEach kws X.env)).any (·.1.isNone)) = false := by rfl) : PE X (.Call (.Name x q) (a :: es) kws pos) (rd G E (eCall F as ks)) :=
  ⟨fun pins s σ H Q I ⟨ρ, env, h, hs, hr, w⟩ => by
    have A1 := ha.run pos pins s σ H _ I (aft2 hs hr w)
    refine wpAny_Call_Name_kw (ld_glob I hg hm (PySem.W.callWith_KW (h₀ := X.base) I.ok.mod.kin hk hall (thn A1 fun us s1 ⟨vs, H1, I1, rv, ρ1, h1, ds, s1', r1, q1, w1⟩ => ?_) hpl he) hdb)
    have A2 := hkw.run pos pins s1 σ H1 _ I1 (aft2k s1' r1 q1 w1)
    refine thn A2 fun ws s2 ⟨zs, H2, I2, rz, ρ2, h2, es', r2, q2, q3, w2⟩ => ⟨I2.kIn, ?_⟩
    rw [hks]
    exact hc pins s2 σ H2 us ws vs zs ρ2 h2 ds es' Q I2 rv rz r2 q2 q3 w2⟩
/-- f(k = b, ..) -/
theorem me_callK0 (hc : CallsF X G E (.ref fv) kn F) (hg : Gl X x) (hm : X.mg x = some (.ref fv)) (hk : PySem.W.keepIn X.K (.ref fv) = true) (hkw : PK X kws (rdA G E ks)) (hall : (backToKw pos (keywordEach kws X.env)).all (·.1.isSome) = true := by rfl)
    (hks : (backToKw pos (keywordEach kws X.env)).filterMap (·.1) = kn := by rfl) (hdb : (x == ("__debug__" : Str)) = false := by decide)
    (hpl : ((backTo pos (starEach [] X.env)).any (·.1) || (backToKw pos (keywordEach kws X.env)).any (·.1.isNone)) = false := by rfl) : PE X (.Call (.Name x q) [] kws pos) (rd G E (eCall F aNil ks)) :=
  ⟨fun pins s σ H Q I ⟨ρ, env, h, hs, hr, w⟩ => by
    refine wpAny_Call_Name_kw (ld_glob I hg hm (PySem.W.callWith_KW0 (h₀ := X.base) I.ok.mod.kin hk hall ?_ hpl) hdb)
    have A2 := hkw.run pos pins s σ H _ I (aft2k (f := F) (ds := []) (vs := []) hs hr .nil w)
    refine thn A2 fun ws s2 ⟨zs, H2, I2, rz, ρ2, h2, es', r2, q2, q3, w2⟩ => ⟨I2.kIn, ?_⟩
    rw [hks]
    exact hc pins s2 σ H2 [] ws [] zs ρ2 h2 [] es' Q I2 .nil rz r2 q2 q3 w2⟩
/-- what stands for each class that may be met -/
def MethsF (X : Cx) (G : Gm) (E : WM) (m : Str) (kn : List Str) (ms : List (Nat × (List D → List D → Hm → R D))) : Prop := ∀ c F, pickF c ms = some F → ∃ f, Cls X.K (G.cA c) ∧ Meth X.K (G.cA c) m f ∧ CallsF X G E (.ref f) kn F
theorem meths_nil {m : Str} : MethsF X G E m kn [] := fun c F e => nomatch e
theorem meths_cons {m : Str} {c : Nat} {f : Addr} {ms : List (Nat × (List D → List D → Hm → R D))} (h1 : Cls X.K (G.cA c)) (h2 : Meth X.K (G.cA c) m f) (h3 : CallsF X G E (.ref f) kn F) (hr : MethsF X G E m kn ms) : MethsF X G E m kn ((c, F) :: ms) := fun d F' e => by
  have e : (if c = d then some F else pickF d ms) = some F' := e
  by_cases k : c = d
  · rw [if_pos k] at e
    cases e
    subst k
    exact ⟨f, h1, h2, h3⟩
  · rw [if_neg k] at e
    exact hr d F' e
variable {m m' : Str} {ms : List (Nat × (List D → List D → Hm → R D))}
/-- the receiver -/
theorem meth_at (hM : MethsF X G E m kn ms) {ρ : List Addr} {H : Hp} {h : Hm} {x : D} {v : V} (r : HRel G ρ H h) (q : VRel G ρ H v x) (e : selM m ms h x = some F) :
    ∃ a dx c fvs f, v = .ref a ∧ H a = some (.ins (G.cA c) dx fvs) ∧ fvs.lookup m = none ∧ Cls X.K (G.cA c) ∧ Meth X.K (G.cA c) m f ∧ CallsF X G E (.ref f) kn F := by
  cases q with
  | @loc a l hl =>
    simp only [selM] at e
    split at e <;> first | cases e | skip
    rename_i c fs e1
    split at e <;> first | cases e | skip
    rename_i e4 e3
    obtain ⟨dx, fvs, e5, n⟩ := r.at e1 hl
    obtain ⟨f, k1, k2, k3⟩ := hM c F e3
    exact ⟨a, dx, c, fvs, f, rfl, e5, (fld_rel n).2 e4, k1, k2, k3⟩
  | _ => cases e
/-- o.m(a, ..) -/
theorem me_meth {pl : Sem Bool} (hf : m' = m) (hM : MethsF X G E m [] ms) (ho : PE X o (rd G E ma)) (ha : PA X (a :: es) (rdA G E as)) (hst : starEach (a :: es) X.env = (false, eval a X.env) :: starEach es X.env := by rfl) (hpl : (backTo pos (starEach es X.env)).any (·.1) = false := by rfl)
    (ht : eval (.Call (.Attribute o m' apos) (a :: es) [] pos) X.env = (do
      let ov ← eval o X.env
      standAt apos.atName
      let (f, first) ← holding [ov] (getMethod ov m' pl)
      callWith pos f first (backTo pos (starEach (a :: es) X.env)) (backToKw pos (keywordEach [] X.env))) := by rfl) : PE X (.Call (.Attribute o m' apos) (a :: es) [] pos) (rd G E (eMeth ma m ms as aNil)) := by
  subst hf
  refine ⟨fun pins s σ H Q I ⟨ρ, env, h, hs, hr, w⟩ => ?_⟩
  have A0 := ho.run pins s σ H (fun v H1 => ∃ ρ1 h1 x, SRel G ρ1 H1 σ env ∧ HRel G ρ1 H1 h1 ∧ VRel G ρ1 H1 v x ∧ Wp G (atW E σ) (VRel G) (match selM m' ms h1 x with | some f => (as env h1).bind fun ds h2 => (aNil env h2).bind fun es h3 => f (x :: ds) es h3 | none => .bad) ρ1 H1 Q) I
    ⟨ρ, env, h, hs, hr, Wp.seq w fun x h1 ρ1 H1 v g1 r1 q1 w1 => ⟨ρ1, h1, x, hs.grow g1, r1, q1, w1⟩⟩
  refine PySem.W.methodCall_KW (pl := pl) (thn A0 fun u s1 ⟨v, H1, I1, rx, ρ1, h1, x, s1', r1, q1, w1⟩ => ?_) ht
  split at w1 <;> first | exact False.elim w1 | skip
  rename_i F' e3
  obtain ⟨a', dx, c, fvs, f, rfl, e2, e4, k1, k2, k3⟩ := meth_at hM r1 q1 e3
  obtain rfl : u = Value.ref a' := rx
  refine getmeth_ok I1 e2 k1 k2 e4 ?_
  have A1 := ha.run pos pins s1 σ H1 (fun vs H2 => ∃ ρ2 h2 ds, HRel G ρ2 H2 h2 ∧ VRels G ρ2 H2 (.ref a' :: vs) (x :: ds) ∧ Wp G (atW E σ) (VRel G) (F' (x :: ds) [] h2) ρ2 H2 Q) I1
    ⟨ρ1, env, h1, s1', r1, Wp.seq w1 fun ds h2 ρ2 H2 vs g2 r2 q2 w3 => ⟨ρ2, h2, ds, r2, .cons (q1.grow g2) q2, w3⟩⟩
  refine PySem.W.callWith_K (first := [.ref a']) (h₀ := X.base) I.ok.mod.kin k2.kp (thn A1 fun us s2 ⟨vs, H2, I2, rv, ρ2, h2, ds, r2, q2, w3⟩ => ⟨I2.kIn, ?_⟩) hst hpl
  exact k3 pins s2 σ H2 (.ref a' :: us) [] (.ref a' :: vs) [] ρ2 h2 _ [] Q I2 (.cons rfl rv) .nil r2 q2 .nil w3
/-- o.m() -/
theorem me_meth0 {pl : Sem Bool} (hf : m' = m) (hM : MethsF X G E m [] ms) (ho : PE X o (rd G E ma))
    (ht : eval (.Call (.Attribute o m' apos) [] [] pos) X.env = (do
      let ov ← eval o X.env
      standAt apos.atName
      let (f, first) ← holding [ov] (getMethod ov m' pl)
      callWith pos f first (backTo pos (starEach [] X.env)) (backToKw pos (keywordEach [] X.env))) := by rfl) : PE X (.Call (.Attribute o m' apos) [] [] pos) (rd G E (eMeth ma m ms aNil aNil)) := by
  subst hf
  refine ⟨fun pins s σ H Q I ⟨ρ, env, h, hs, hr, w⟩ => ?_⟩
  have A0 := ho.run pins s σ H (fun v H1 => ∃ ρ1 h1 x, HRel G ρ1 H1 h1 ∧ VRel G ρ1 H1 v x ∧ Wp G (atW E σ) (VRel G) (match selM m' ms h1 x with | some f => f [x] [] h1 | none => .bad) ρ1 H1 Q) I
    ⟨ρ, env, h, hs, hr, Wp.seq w fun x h1 ρ1 H1 v g1 r1 q1 w1 => ⟨ρ1, h1, x, r1, q1, w1⟩⟩
  refine PySem.W.methodCall_KW (pl := pl) (thn A0 fun u s1 ⟨v, H1, I1, rx, ρ1, h1, x, r1, q1, w1⟩ => ?_) ht
  split at w1 <;> first | exact False.elim w1 | skip
  rename_i F' e3
  obtain ⟨a', dx, c, fvs, f, rfl, e2, e4, k1, k2, k3⟩ := meth_at hM r1 q1 e3
  obtain rfl : u = Value.ref a' := rx
  refine getmeth_ok I1 e2 k1 k2 e4 ?_
  exact PySem.W.callWith_K0 (first := [.ref a']) I1.kIn k2.kp (k3 pins s1 σ H1 [.ref a'] [] [.ref a'] [] ρ1 h1 [x] [] Q I1 (.cons rfl .nil) .nil r1 (.cons q1 .nil) .nil w1)
/-- o.m(k = b, ..) -/
theorem me_methK0 {pl : Sem Bool} (hf : m' = m) (hM : MethsF X G E m kn ms) (ho : PE X o (rd G E ma)) (hkw : PK X kws (rdA G E ks)) (hall : (backToKw pos (keywordEach kws X.env)).all (·.1.isSome) = true := by rfl)
    (hks : (backToKw pos (keywordEach kws X.env)).filterMap (·.1) = kn := by rfl) (hpl : ((backTo pos (starEach [] X.env)).any (·.1) || (backToKw pos (keywordEach kws X.env)).any (·.1.isNone)) = false := by rfl)
    (ht : eval (.Call (.Attribute o m' apos) [] kws pos) X.env = (do
      let ov ← eval o X.env
      standAt apos.atName
      let (f, first) ← holding [ov] (getMethod ov m' pl)
      callWith pos f first (backTo pos (starEach [] X.env)) (backToKw pos (keywordEach kws X.env))) := by rfl) : PE X (.Call (.Attribute o m' apos) [] kws pos) (rd G E (eMeth ma m ms aNil ks)) := by
  subst hf
  refine ⟨fun pins s σ H Q I ⟨ρ, env, h, hs, hr, w⟩ => ?_⟩
  have A0 := ho.run pins s σ H (fun v H1 => ∃ ρ1 h1 x, SRel G ρ1 H1 σ env ∧ HRel G ρ1 H1 h1 ∧ VRel G ρ1 H1 v x ∧ Wp G (atW E σ) (VRel G) (match selM m' ms h1 x with | some f => (ks env h1).bind fun es h3 => f [x] es h3 | none => .bad) ρ1 H1 Q) I
    ⟨ρ, env, h, hs, hr, Wp.seq w fun x h1 ρ1 H1 v g1 r1 q1 w1 => ⟨ρ1, h1, x, hs.grow g1, r1, q1, w1⟩⟩
  refine PySem.W.methodCall_KW (pl := pl) (thn A0 fun u s1 ⟨v, H1, I1, rx, ρ1, h1, x, s1', r1, q1, w1⟩ => ?_) ht
  split at w1 <;> first | exact False.elim w1 | skip
  rename_i F' e3
  obtain ⟨a', dx, c, fvs, f, rfl, e2, e4, k1, k2, k3⟩ := meth_at hM r1 q1 e3
  obtain rfl : u = Value.ref a' := rx
  refine getmeth_ok I1 e2 k1 k2 e4 ?_
  have A2 := hkw.run pos pins s1 σ H1 _ I1 (aft2k (f := F') (ds := [x]) (vs := [.ref a']) s1' r1 (.cons q1 .nil) w1)
  refine PySem.W.callWith_KW0 (first := [.ref a']) (h₀ := X.base) I.ok.mod.kin k2.kp hall (thn A2 fun ws s2 ⟨zs, H2, I2, rz, ρ2, h2, es', r2, q2, q3, w3⟩ => ⟨I2.kIn, ?_⟩) hpl
  rw [hks]
  exact k3 pins s2 σ H2 [.ref a'] ws [.ref a'] zs ρ2 h2 _ es' Q I2 (.cons rfl .nil) rz r2 q2 q3 w3
end
end Mo
end
section
/-! repr, isinstance, the law's end. -/
namespace Mo
open PySem L2 PyProof.Rows
/-! ### shown texts -/
theorem int_len {i : Int} (h : i.natAbs < 2 ^ 140) : (PyData.shown (.int i)).length ≤ 150 := by
  have e : PyData.shown (.int i) = Str.ofString (toString i) := rfl
  rw [e, PySem.ofString_length]
  cases i with
  | ofNat n =>
    have h1 : (Nat.repr n).length ≤ 140 := nat_repr_length_le (by decide) h
    have h2 : (toString (Int.ofNat n)).length = (Nat.repr n).length := rfl
    omega
  | negSucc n =>
    have h1 : (Nat.repr (n + 1)).length ≤ 140 := nat_repr_length_le (by decide) h
    have h2 : (toString (Int.negSucc n)) = "-" ++ Nat.repr (n + 1) := rfl
    rw [h2, String.length_append]
    have h3 : ("-" : String).length = 1 := rfl
    omega
mutual
theorem tame_short : ∀ (p : PyData), tame p = true → p.leavesShort 150 = true ∧ p.showable = true
  | .none, _ => ⟨by simp only [PyData.leavesShort], by simp only [PyData.showable]⟩
  | .bool b, _ => ⟨by simp only [PyData.leavesShort], by simp only [PyData.showable]⟩
  | .int i, h => by
    simp only [tame, decide_eq_true_eq] at h
    refine ⟨?_, ?_⟩
    · simp only [PyData.leavesShort, decide_eq_true_eq]
      exact int_len h
    · simp only [PyData.showable, decide_eq_true_eq]
      have h2 : i.natAbs.log2 ≤ 140 := by
        by_cases z : i.natAbs = 0
        · rw [z]
          decide
        · exact Nat.le_of_lt ((Nat.log2_lt z).mpr h)
      omega
  | .str x, h => by
    simp only [tame] at h
    refine ⟨?_, by simp only [PyData.showable]⟩
    simp only [PyData.leavesShort]
    rw [List.all_eq_true]
    intro c hc
    unfold PyData.strOk at h
    rw [Array.all_eq_true_iff_forall_mem] at h
    have h3 := h c (by simpa using hc)
    simp only [decide_eq_true_eq] at h3 ⊢
    omega
  | .list xs, h => by
    simp only [tame] at h
    obtain ⟨a, b⟩ := tame_shorts xs h
    exact ⟨by simp only [PyData.leavesShort]; exact a, by simp only [PyData.showable]; exact b⟩
  | .tuple xs, h => by
    simp only [tame] at h
    obtain ⟨a, b⟩ := tame_shorts xs h
    exact ⟨by simp only [PyData.leavesShort]; exact a, by simp only [PyData.showable]; exact b⟩
  | .dict _, h => by
    simp only [tame] at h
    cases h
theorem tame_shorts : ∀ (ps : List PyData), tameL ps = true → PyData.leavesShortAll 150 ps = true ∧ PyData.showableAll ps = true
  | [], _ => ⟨by simp only [PyData.leavesShortAll], by simp only [PyData.showableAll]⟩
  | p :: ps, h => by
    simp only [tameL, Bool.and_eq_true] at h
    obtain ⟨a, b⟩ := tame_short p h.1
    obtain ⟨c, d⟩ := tame_shorts ps h.2
    exact ⟨by simp only [PyData.leavesShortAll, a, c, Bool.and_self], by simp only [PyData.showableAll, b, d, Bool.and_self]⟩
end
theorem fits_ok {p : PyData} (h : fits p = true) : p.showable = true ∧ p.shown.length ≤ sizeLine := by
  unfold fits at h
  simp only [Bool.and_eq_true, decide_eq_true_eq] at h
  obtain ⟨a, b⟩ := tame_short p h.1
  have c := PyData.shown_le_bulk 150 (by decide) p a
  refine ⟨b, Nat.le_trans c ?_⟩
  have d := h.2
  unfold sizeLine
  omega
def rRepr (K : PySem.W.Frag) : List V → Hp → VK → Prop := fun xs H Q => ∃ x d, xs = [x] ∧ Dp K H x d ∧ d.showable = true ∧ d.shown.length ≤ sizeLine ∧ d.hasDict = false ∧ d.depth ≤ 64 ∧ Q (.str d.shown) H
theorem cl_repr {X : Cx} {k : Nat} (rg : RG k X.A) : CallR X (.builtin "repr") (rRepr X.K) := by
  intro pins s σ H xs us Q I r h
  obtain ⟨x, d, rfl, hd, h1, h2, h3, h4, q⟩ := h
  obtain ⟨u, rfl, ru⟩ := vals1 r
  have hu := rg.r.un
  have fin : ∀ (h' : Heap) (t : Tok) (tk : Nat), (∀ b o, s.heap.get? b = some o → h'.get? b = some o) → EP X pins σ Q (.str d.shown t) { s with heap := h', toks := tk } := fun h' t tk hk => ⟨.str d.shown, H, I.kept (t' := tk) hk, ⟨t, rfl⟩, q⟩
  cases hd with
  | non =>
    cases (show u = Value.none from ru)
    exact PySem.P.repr_of_none (fin s.heap _ _ fun _ _ e => e)
  | bl b =>
    cases (show u = Value.bool b from ru)
    exact PySem.P.repr_of_bool (fin s.heap _ _ fun _ _ e => e)
  | int i =>
    obtain ⟨t, rfl⟩ := ru
    simp only [PyData.showable, decide_eq_true_eq] at h1
    exact PySem.P.repr_of_int h1 (fin s.heap _ _ fun _ _ e => e)
  | str z =>
    obtain ⟨t, rfl⟩ := ru
    exact PySem.P.repr_of_str (fin s.heap _ _ fun _ _ e => e) h2
  | @lst a xs ds k1 k2 =>
    cases (show u = Value.ref a from ru)
    obtain ⟨as, rr⟩ := Dp.reads I _ _ _ (.lst k1 k2) rfl
    exact repr_of_reads' (h₀ := s.heap) rr h1 (PyData.noDict_hsm h3) rg.g (by omega) (fun _ _ e => e) (fun h' t tk hk => fin h' t tk hk) h2
  | @tup a xs ds k1 k2 =>
    cases (show u = Value.ref a from ru)
    obtain ⟨as, rr⟩ := Dp.reads I _ _ _ (.tup k1 k2) rfl
    exact repr_of_reads' (h₀ := s.heap) rr h1 (PyData.noDict_hsm h3) rg.g (by omega) (fun _ _ e => e) (fun h' t tk hk => fin h' t tk hk) h2
section
variable {G : Gm} {E : WM}
theorem bs_repr : BiS G E (rRepr G.K) bRepr := by
  intro τ ρ H h ds vs Q r q w
  unfold bRepr at w
  split at w
  · obtain ⟨v, rfl, k⟩ := vs1 q
    split at w
    · rename_i p e
      obtain ⟨c, w⟩ := Wp.ifR w
      obtain ⟨a, b⟩ := fits_ok c
      obtain ⟨c1, c2⟩ := dat_sh _ _ _ e
      exact ⟨v, p, rfl, dat_dp r _ _ _ _ e k, a, b, PyData.hasDict_of_canLay _ c1, Nat.le_trans c2 (by decide), w.val r (.str _)⟩
    · exact False.elim w
  · exact False.elim w
/-! ### kinds -/
theorem kit_all : ∀ T ∈ ["int", "bool", "str", "list", "tuple", "dict"], ∀ t ∈ ["NoneType", "bool", "int", "str", "tuple", "list", "dict"], kitB t T = some (t == T || (t == "bool" && T == "int")) := by decide +kernel
theorem tyD_x {ρ : List Addr} {H : Hp} {h : Hm} {x : D} {v : V} {t : String} (r : HRel G ρ H h) (q : VRel G ρ H v x) (e : tyD h x = some t) : TyX G.K H v (.type t) ∧ t ∈ ["NoneType", "bool", "int", "str", "tuple", "list", "dict"] := by
  cases q with
  | non => cases (show some _ = some t from e); exact ⟨.base .non, by decide⟩
  | bl b => cases (show some _ = some t from e); exact ⟨.base (.bl b), by decide⟩
  | int i => cases (show some _ = some t from e); exact ⟨.base (.int i), by decide⟩
  | str z => cases (show some _ = some t from e); exact ⟨.base (.str z), by decide⟩
  | kl h1 h2 =>
    cases (show some _ = some t from e)
    rcases h1 with ⟨o, h1⟩ | ⟨its, n, e1, _⟩
    · exact ⟨.base (.frz h1), by decide⟩
    · exact ⟨.kList e1 rfl, by decide⟩
  | tup h1 h2 =>
    cases (show some _ = some t from e)
    rcases h1 with (h1 | ⟨o, h1⟩) | ⟨o, its, n, e1, e2, _⟩
    · exact ⟨.base (.tup h1), by decide⟩
    · exact ⟨.fTuple h1, by decide⟩
    · exact ⟨.kTuple e1 e2, by decide⟩
  | @loc a l ha =>
    simp only [tyD] at e
    split at e
    · rename_i e1
      cases e
      obtain ⟨vs, e2, k⟩ := r.at e1 ha
      exact ⟨.base (.lst e2), by decide⟩
    · rename_i e1
      cases e
      obtain ⟨vs, e2, k⟩ := r.at e1 ha
      exact ⟨.base (.dK e2), by decide⟩
    · cases e
  | ty n => cases e
  | ob k => cases e
theorem bs_isi {T : String} (hT : T ∈ ["int", "bool", "str", "list", "tuple", "dict"]) : BiS G E (rIsi G.K) (bIsi T) := by
  intro τ ρ H h ds vs Q r q w
  unfold bIsi at w
  split at w
  · obtain ⟨v, u, rfl, k1, k2⟩ := vs2 q
    cases k2
    split at w
    · rename_i t e c
      have c := of_decide_eq_true c
      subst c
      obtain ⟨ty, ht⟩ := tyD_x r k1 e
      exact ⟨v, _, _, _, _, rfl, .ty _, ty, kit_ty (kit_all _ hT _ ht), w.val r (.bl _)⟩
    · exact False.elim w
  · exact False.elim w
theorem me_ty {X : Cx} {x : Str} {T : String} {pos : Pos} (hg : Gl X x) (hm : X.mg x = none) (hv : bootBuiltins x = some (.type T)) (hn : x ≠ "__name__" := by decide) (hd : (x == ("__debug__" : Str)) = false := by decide) : PE X (.Name x pos) (rd G E (eC (.ty T))) :=
  pe_w (pe_bltn (v := .ty T) hg hm hv rfl hn hd) (rd_c fun _ _ => .ty T)
end
/-! ### the law's end -/
theorem law_go {P : Program} {w : World} {K : PySem.W.Frag} {mg mb : Str → Option Value} {G : Gm} {F : Fn} {k : Nat} {fa a : Addr} {fd : FuncData} {x : Str} {s : Shared} {its : List Value} {ns : List Int} {cs : List (Addr × Addr)} (hG : G.K = K) (hrt : G.rt = []) (hTT : ∀ p ∈ G.T, p.1 ∈ cs.map (·.2))
    (inK : K.In s.heap) (hns : s.heap.Ns mainGlobals mg) (hbn : s.heap.Ns builtinsNs mb) (hbb : ∀ x : Str, x ≠ "__name__" → mb x = bootBuiltins x) (lim : s.heap.NoLimit) (gens : s.gens = #[])
    {o1 : Obj} (sysE : s.heap.get? sysModules = some o1) (sysC : o1.cls = .type "dict") (sysN : K.lookup sysModules = none) (sysT : ∀ p ∈ cs, p.1 ≠ sysModules ∧ p.2 ≠ sysModules)
    (tabE : ∀ p ∈ cs, s.heap.get? p.2 = some { cls := .none, data := .fields #[] }) (tabN : ∀ p ∈ cs, K.lookup p.2 = none) (tabC : ∀ p ∈ cs, PySem.W.CodeHd s.heap p.1 p.2)
    (bmain : ∃ (bm : Addr) (ob : Obj), mg "__builtins__" = some (.ref bm) ∧ bm ≠ builtinsNs ∧ s.heap.get? bm = some ob ∧ ob.cls = .type "module" ∧ ob.dict = some builtinsNs ∧ ob.data = .plain)
    (ha : s.heap.get? a = some { cls := .type "list", data := .seq its.toArray }) (hi : IntsAre its ns) (hl : ns.length ≤ sizeLine) (rg : RG k callerA)
    (FG : ∀ base : Heap, K.In base → base.Ns mainGlobals mg → (∀ p ∈ cs, LamX.TabB base mg p.1 p.2) → FnG P w K mg base k fa fd [x] (spOf G 1 F)) (bnd : ∀ (s : Shared) (u : Value), BindsTo s fd ⟨[u], []⟩ [(x, u)])
    (hT : ∃ h', F [.kl (ns.map .int)] Hm.start = .ok (.bl true) h') :
    codeAny (model P w) callerA (.call (.ref fa) ⟨[.ref a], []⟩) (fun r s' => r = .ok (.ret (.bool true)) ∧ OldK s.heap s'.heap ∧ s'.os = s.os ∧ AllBare s'.gens) s := by
  have rv : Vals (ns.map V.int) its := vals_ints hi
  have len := hi.length
  have relI : ∀ (ρ : List Addr) (H : Hp) (l : List Int), VRels G ρ H (l.map V.int) (l.map D.int) := fun ρ H l => by
    induction l with
    | nil => exact .nil
    | cons n l ih => exact .cons (.int n) ih
  have tabAt : ∀ b, b ∈ cs.map (·.2) → s.heap.get? b = some { cls := .none, data := .fields #[] } := fun b hb => by
    obtain ⟨p, hp, rfl⟩ := List.mem_map.mp hb
    exact tabE p hp
  have aN : a ∉ cs.map (·.2) := fun hz => by
    have z := tabAt a hz
    rw [ha] at z
    have z2 := congrArg Obj.data (Option.some.inj z)
    cases z2
  -- the script: known to its object, or the module's own; the tables are empty
  have main : ∀ H : Hp, SqK K H a (ns.map V.int) → HOk P w H s.heap → (∀ b u, H b = some u → (b = a ∧ K.lookup a = none ∧ ∃ o xs, u = .frz o (.lst xs)) ∨ (b ∈ cs.map (·.2) ∧ u = .tbl #[]) ∨ (b = sysModules ∧ u = fix1 o1)) → (∀ b ∈ cs.map (·.2), H b = some (.tbl #[])) → H sysModules = some (fix1 o1) →
      codeAny (model P w) callerA (.call (.ref fa) ⟨[.ref a], []⟩) (fun r s' => r = .ok (.ret (.bool true)) ∧ OldK s.heap s'.heap ∧ s'.os = s.os ∧ AllBare s'.gens) s := by
    intro H hS hok only isT isS
    have out : ∀ {b : Addr} {o : Obj}, s.heap.get? b = some o → b ≠ sysModules → (∀ vs n, o.data ≠ .seq vs n) → o.data ≠ .fields #[] → H b = none := fun {b o} e ns d1 d2 => by
      cases q : H b with
      | none => rfl
      | some u =>
        rcases only b u q with ⟨e1, _⟩ | ⟨e1, _⟩ | ⟨e1, _⟩
        · subst e1
          rw [ha] at e
          cases e
          exact absurd rfl (d1 _ _)
        · rw [tabAt b e1] at e
          cases e
          exact absurd rfl d2
        · exact absurd e1 ns
    have free : ∀ {b : Addr} {m : Str → Option Value}, s.heap.Ns b m → b ≠ sysModules → (hidT s.heap H).Ns b m := fun {b m} n nb => by
      obtain ⟨o, es, ep, e, d, r⟩ := n
      exact ⟨o, es, ep, hidT_get e (out e nb (fun vs n z => by rw [d] at z; cases z) fun z => by rw [d] at z; cases z), d, r⟩
    have inB : K.In (hidT s.heap H) := fun b o e => hidT_get (inK b o e) (by
      cases q : H b with
      | none => rfl
      | some u =>
        rcases only b u q with ⟨e1, e2, _⟩ | ⟨e1, _⟩ | ⟨e1, _⟩
        · rw [e1, e2] at e
          cases e
        · obtain ⟨p, hp, ep⟩ := List.mem_map.mp e1
          have z := tabN p hp
          rw [show p.2 = b from ep, e] at z
          cases z
        · rw [e1, sysN] at e
          cases e)
    have md : Mod K mg (hidT s.heap H) := by
      obtain ⟨mc, z1, z2⟩ := lim
      exact ⟨inB, free hns (by decide), ⟨mb, free hbn (by decide), hbb⟩, ⟨mc, free z1 (by decide), z2⟩⟩
    have tabB : ∀ p ∈ cs, LamX.TabB (hidT s.heap H) mg p.1 p.2 := fun p hp => by
      have tp := tabE p hp
      constructor
      · obtain ⟨oc, us, file, tf, flags, tg, inF, text, tt, c1, cc, c2, c3, c4⟩ := tabC p hp
        refine ⟨oc, us, file, tf, flags, tg, inF, text, tt, hidT_get c1 (out c1 (sysT p hp).1 (fun vs n z => ?_) fun z => ?_), cc, c2, c3, c4⟩
        · have c2' := c2
          rw [z] at c2'
          cases c2'
        · rw [z] at c2
          cases c2
          simp at c3
      · obtain ⟨bm, ob, m1, m2, m3, m4, m5, m6⟩ := bmain
        refine ⟨bm, ob, m1, m2, fun z => ?_, fun z => ?_, hidT_get m3 (out m3 (fun z => by rw [z, sysE] at m3; cases m3; rw [sysC] at m4; injection m4 with y; exact absurd y (by decide)) (fun vs n z => by rw [m6] at z; cases z) fun z => by rw [m6] at z; cases z), m4, m5, m6⟩
        · obtain ⟨og, es, ep, e, d, _⟩ := hns
          rw [← z, m3] at e
          cases e
          rw [m6] at d
          cases d
        · rw [z, tp] at m3
          cases m3
          cases m6
      · intro z
        obtain ⟨og, es, ep, e, d, _⟩ := hns
        rw [z, tp] at e
        cases e
        cases d
    have e0 : Env0 P w K mg (hidT s.heap H) callerA [] s H := ⟨rfl, md, fun b o e => of_hidT e, Nat.le_of_eq (hidT_size _ _), trivial, (fun b hb => absurd (show b ∈ ([] : List Addr) from hb) (by simp)), hok, .of_eq gens⟩
    obtain ⟨h', eF⟩ := hT
    have sp : spOf G 1 F [.ref a] H (fun v _ => v = .bl true) E0 := by
      refine ⟨[], [.kl (ns.map .int)], Hm.start, ⟨rfl, (fun i j a e => by simp at e), (fun a m => by simp at m), (fun l o e => nomatch e), ⟨fun p hp => ⟨#[], isT p.1 (hTT p hp), True.intro, fun pos cv e => ?_⟩, o1, isS⟩, fun p hp => ?_⟩, .cons (.kl (by rw [hG]; exact hS) (relI _ _ ns)) .nil, rfl, ?_⟩
      · have e : codeAmong pos [] = some cv := e
        simp [codeAmong] at e
      · rw [hrt] at hp
        cases hp
      · rw [eF]
        intro ρ' H' v g r q
        cases q
        rfl
    refine codeAny_mono ((FG _ inB (free hns (by decide)) tabB).go callerA rg [] s H ⟨[.ref a], []⟩ [.ref a] [.ref a] _ E0 e0 (bnd s (.ref a)) (.cons rfl .nil) sp) fun r s' h => ?_
    cases r with
    | error e =>
      obtain ⟨_, _, _, _, _, _, _, _, _, _, _, _, z⟩ := h
      exact z.elim
    | ok fl =>
      cases fl with
      | ret u =>
        obtain ⟨v, H', os, bare, un, hok', r', q⟩ := h
        cases (show v = .bl true from q)
        cases (show u = Value.bool true from r')
        have stays : ∀ b o, b ∉ cs.map (·.2) → s.heap.get? b = some o → s'.heap.get? b = some o := fun b o nb e => by
          cases q : H b with
          | none => exact un.keep b o e q (by intro z; exact absurd (show b ∈ ([] : List Addr) from z) (by simp)) (by simp)
          | some u =>
            rcases only b u q with ⟨_, _, ob, xs, rfl⟩ | ⟨z, _⟩ | ⟨_, rfl⟩
            · obtain ⟨e1, _⟩ := hok b _ q
              obtain ⟨e2, _⟩ := hok' b _ (un.frzs b ob _ q)
              rw [e] at e1
              cases e1
              exact e2
            · exact absurd z nb
            · obtain ⟨e1, _⟩ := hok b _ q
              obtain ⟨e2, _⟩ := hok' b _ (un.frzs b o1 _ q)
              rw [e] at e1
              cases e1
              exact e2
        have more : ∀ b ∈ cs.map (·.2), ∃ ms : Array Value, s'.heap.get? b = some { cls := .none, data := .fields ms } := fun b hb => by
          obtain ⟨ms, z⟩ := un.tbls b #[] (isT b hb)
          exact ⟨_, hok' b _ z⟩
        refine ⟨rfl, ⟨fun b o e => ?_, fun b o e => ?_⟩, os, bare⟩
        · by_cases hb : b ∈ cs.map (·.2)
          · obtain ⟨ms, hm⟩ := more b hb
            obtain ⟨p, hp, rfl⟩ := List.mem_map.mp hb
            rw [tabE p hp] at e
            cases e
            exact .inr (.inl ⟨((tabC p hp).tab (tabE p hp)).isCodeTable, rfl, #[], ms, rfl, by rw [Array.empty_append]; exact hm⟩)
          · exact .inl (stays b o hb e)
        · by_cases hb : b ∈ cs.map (·.2)
          · obtain ⟨ms, hm⟩ := more b hb
            exact ⟨_, hm⟩
          · exact ⟨o, stays b o hb e⟩
      | _ => exact (show False from h).elim
  let H0 : Hp := fun b => if b ∈ cs.map (·.2) then some (.tbl #[]) else if b = sysModules then some (fix1 o1) else none
  have nS : sysModules ∉ cs.map (·.2) := fun z => by
    obtain ⟨p, hp, e⟩ := List.mem_map.mp z
    exact (sysT p hp).2 e
  have aS : a ≠ sysModules := fun z => by
    rw [z, sysE] at ha
    cases ha
    injection sysC with y
    exact absurd y (by decide)
  have h0S : H0 sysModules = some (fix1 o1) := (if_neg nS).trans (if_pos rfl)
  have t0 : ∀ b u, H0 b = some u → (b ∈ cs.map (·.2) ∧ u = .tbl #[]) ∨ (b = sysModules ∧ u = fix1 o1) := fun b u z => by
    by_cases c : b ∈ cs.map (·.2)
    · have z2 := (if_pos c).symm.trans z
      cases z2
      exact .inl ⟨c, rfl⟩
    · by_cases c2 : b = sysModules
      · subst c2
        rw [h0S] at z
        cases z
        exact .inr ⟨rfl, rfl⟩
      · have z2 := (if_neg c).symm.trans z
        exact absurd ((if_neg c2).symm.trans z2) (fun q => nomatch q)
  have ok0 : ∀ H' b u, H0 b = some u → ObjOk P w H' s.heap b u := fun H' b u z => by
    rcases t0 b u z with ⟨c, rfl⟩ | ⟨rfl, rfl⟩
    · exact tabAt b c
    · exact ⟨sysE, o1, sysE⟩
  cases hk : K.lookup a with
  | some o =>
    have e := inK a o hk
    rw [ha] at e
    cases e
    exact main H0 (.inr ⟨its.toArray, _, hk, by rw [List.size_toArray, len]; exact hl, by simpa using rv⟩) (ok0 _) (fun b u z => .inr (t0 b u z)) (fun b hb => if_pos hb) h0S
  | none =>
    have h0a : H0 a = none := (if_neg aN).trans (if_neg aS)
    refine main (upd H0 a (.frz { cls := .type "list", data := .seq its.toArray } (.lst (ns.map V.int)))) (.inl ⟨_, upd_same⟩) (fun b u z => ?_) (fun b u z => ?_) (fun b hb => ?_) (by rw [upd_ne (Ne.symm aS)]; exact h0S)
    · by_cases c : b = a
      · subst c
        rw [upd_same] at z
        cases z
        exact ⟨ha, by rw [List.length_map]; exact hl, its, _, rv, ha⟩
      · rw [upd_ne c] at z
        exact ok0 _ b u z
    · by_cases c : b = a
      · subst c
        rw [upd_same] at z
        cases z
        exact .inl ⟨rfl, hk, _, _, rfl⟩
      · rw [upd_ne c] at z
        exact .inr (t0 b u z)
    · rw [upd_ne (fun z => aN (by rw [← z]; exact hb))]
      exact if_pos hb
end Mo
end
section
/-! Attribute targets; the top's facts by names; a def's promise and its calls. -/
namespace Mo
open PySem L2 PyProof.Rows He
section
variable {G : Gm} {E : WM} {X : Cx} {o : Expr} {mb : ME}
theorem mg_fld {f f' : Str} {cs : List Nat} {pos : Pos} (hK : X.K = G.K) (hC : ∀ c, cs.contains c = true → Cls G.K (G.cA c) ∧ NoAttr G.K (G.cA c) f) (hf : f' = f) (ho : PE X o (rd G E mb)) : PG X (.Attribute o f' pos) (rdG G E (gFld mb cs f)) := by
  subst hf
  refine ⟨fun pins s σ H v u Q I rv ⟨ρ, env, h, d, hs, hr, q, w⟩ => ?_⟩
  have A0 := ho.run pins s σ H (fun vo H1 => ∃ ρ1 h1 x, Grow ρ H ρ1 H1 ∧ HRel G ρ1 H1 h1 ∧ VRel G ρ1 H1 vo x ∧ Wp G (atW E σ) (SRel G) (fldK cs f' d env x h1) ρ1 H1 Q) I
    ⟨ρ, env, h, hs, hr, Wp.seq (Wp.any (E' := atW E σ) w) fun x h1 ρ1 H1 vo g1 r1 q1 w1 => ⟨ρ1, h1, x, g1, r1, q1, w1⟩⟩
  suffices A1 : wpAny (model X.prog X.w) X.A (eval o X.env) (fun ov s2 => wpAny (model X.prog X.w) X.A (setAttr ov f' u) (fun _ s' => ∃ σ' H', Inv X pins σ' H' s' ∧ Q σ' H') X.xe s2) X.xe s by
    refine fun Γ p hΓ => ?_
    simp only [assign_Attribute, Sem.wp_bind', Sem.wp_holding, Sem.wp_cmd_standAt, Sem.wp_release, Sem.wp_pure']
    exact Sem.wp_mono _ Γ _ (fun ov _ s2 h2 => h2 Γ _ hΓ) (fun _ _ _ h' => h') _ _ (A1 Γ _ hΓ)
  refine thn A0 fun ov s1 ⟨vo, H1, I1, ro, ρ1, h1, x, g1, r1, q1, w1⟩ => ?_
  cases q1 with
  | @loc p l hl =>
    obtain rfl : ov = Value.ref p := ro
    unfold fldK at w1
    simp only at w1
    split at w1 <;> first | exact False.elim w1 | skip
    rename_i c fs e
    obtain ⟨k, w1⟩ := Wp.ifR w1
    obtain ⟨k1, k2⟩ := (Bool.and_eq_true_iff.mp k : cs.contains c = true ∧ decide (fs.length < 1000) = true)
    obtain ⟨dx, fvs, e3, n⟩ := r1.at e hl
    obtain ⟨c1, c2⟩ := hC c k1
    have g := Grow.put r1 hl e3 trivial (.ins (G.cA c) dx (L2.putF f' v fvs))
    exact setattr_ok I1 e3 (by rw [hK]; exact c1) (by rw [hK]; exact c2) (by rw [n.length]; exact of_decide_eq_true k2) rv fun s' I' => ⟨_, _, I', w1 _ _ _ g (r1.put hl e3 trivial ⟨dx, _, upd_same, (putF_rel (q.grow g1) n).grow g⟩) ((hs.grow g1).grow g)⟩
  | _ => exact False.elim w1
end
theorem hC_nil {K : PySem.W.Frag} {cA : Nat → Addr} {f : Str} : ∀ c, ([] : List Nat).contains c = true → Cls K (cA c) ∧ NoAttr K (cA c) f := fun c z => nomatch z
theorem hC_cons {K : PySem.W.Frag} {cA : Nat → Addr} {f : Str} {c0 : Nat} {cs : List Nat} (h1 : Cls K (cA c0)) (h2 : NoAttr K (cA c0) f) (hr : ∀ c, cs.contains c = true → Cls K (cA c) ∧ NoAttr K (cA c) f) : ∀ c, (c0 :: cs).contains c = true → Cls K (cA c) ∧ NoAttr K (cA c) f := fun c z => by
  rw [List.contains_cons, Bool.or_eq_true] at z
  rcases z with z | z
  · rw [beq_iff_eq.mp z]
    exact ⟨h1, h2⟩
  · exact hr c z
theorem hx_of {P : Program} {w : World} {K : PySem.W.Frag} {mg : Str → Option Value} {base : Heap} {N : List Str} {qual : Str} {scope : Scope} {f : Addr} {cdv : Value} {A : Around} {outer : List PySem.Env} {s : Shared} {H : Hp} {E : XK} :
    PassW (cxOf (L2.CX P w) P w K mg base N qual scope f cdv A outer s H E) (fun cls d _ H => E cls d H) := fun pins σ H s e s' I c => passes_call (E := E) (takes_of rfl rfl rfl rfl) (fun _ _ _ _ z => z) pins σ H s e s' I c
theorem passEW {X : Cx} : PassW X EW := fun pins σ H s e s' I c => passL pins σ H s e s' I c
/-- within a try's body -/
theorem passW {X : Cx} {W : WM} (tk : Takes X W) : PassW X W := fun pins σ H s e s' I c => tk e s' (XE.of_call I (fun cls d H' h => h) c)
theorem hp_of {P : Program} {w : World} {K : PySem.W.Frag} {mg : Str → Option Value} {base : Heap} {N : List Str} {qual : Str} {scope : Scope} {f : Addr} {cdv : Value} {A : Around} {outer : List PySem.Env} {s : Shared} {H : Hp} {E : XK} :
    PassesOwn (model P w) (A.deeper (envOfC qual scope s.heap.objs.size f cdv)) (cxOf (L2.CX P w) P w K mg base N qual scope f cdv A outer s H E).env (cxOf (L2.CX P w) P w K mg base N qual scope f cdv A outer s H E).xe := passes_of rfl
/-! ### the top's facts -/
/-- the addresses that are looked at -/
def asX (g : Addr → Option Obj) (n : Nat) : List Addr := asD g n ++ [cStatics]
/-- the defs that make lambdas, with the name of these -/
abbrev TqL := List (Defn × Str)
/-- what is looked at: without empty tables, without the modules' dict -/
def frM (g : Addr → Option Obj) (as : List Addr) : PySem.W.Frag := (frG g as).filter fun q => !emptyTab q.2 && !(q.1 == sysModules)
theorem frM_mem {g : Addr → Option Obj} {as : List Addr} {a : Addr} {o : Obj} (h : (frM g as).lookup a = some o) : g a = some o ∧ emptyTab o = false ∧ a ≠ sysModules := by
  obtain ⟨h1, h2⟩ := List.mem_filter.mp (lookup_mem h)
  obtain ⟨h3, h4⟩ := ba h2
  refine ⟨frG_mem h1, ?_, fun z => ?_⟩
  · cases q : emptyTab o with
    | false => rfl
    | true =>
      have h3 : (!emptyTab o) = true := h3
      rw [q] at h3
      cases h3
  · have h4 : (!(a == sysModules)) = true := h4
    rw [z, show (sysModules == sysModules) = true from rfl] at h4
    cases h4
theorem frM_in {as : List Addr} {h : Heap} : (frM h.get? as).In h := fun _ _ e => (frM_mem e).1
theorem frM_tab {g : Addr → Option Obj} {as : List Addr} {a : Addr} {o : Obj} (h : g a = some o) (ht : emptyTab o = true) : (frM g as).lookup a = none := by
  cases e : (frM g as).lookup a with
  | none => rfl
  | some u =>
    obtain ⟨h1, h2, _⟩ := frM_mem e
    rw [h] at h1
    rw [← Option.some.inj h1, ht] at h2
    cases h2
theorem frM_sys {g : Addr → Option Obj} {as : List Addr} : (frM g as).lookup sysModules = none := by
  cases e : (frM g as).lookup sysModules with
  | none => rfl
  | some u => exact absurd rfl (frM_mem e).2.2
def sysB (g : Addr → Option Obj) : Bool := match g sysModules with
  | some ⟨.type c, _, _, _⟩ => decide (c = "dict")
  | _ => false
theorem sysB_ok {g : Addr → Option Obj} (h : sysB g = true) : ∃ o, g sysModules = some o ∧ o.cls = .type "dict" := by
  unfold sysB at h
  split at h
  · rename_i c d e f q
    exact ⟨_, q, congrArg Value.type (of_decide_eq_true h)⟩
  · cases h
def tqB (K : PySem.W.Frag) (tq : TqL) : Bool := decide ((tq.map fun p => (cT K p.1).2).Nodup) && tq.all fun p => !((cT K p.1).2 == sysModules)
def obsM (n : Nat) (fa : List Fa) (fn : List DefD) (tq : TqL) (ex : PySem.W.Frag → Bool) (g : Addr → Option Obj) : AlD × Bool := (obsD fa fn (frM g (asX g n)), ex (frM g (asX g n)) && (tabsB g (tq.map (·.1)) (frM g (asX g n)) && (tqB (frM g (asX g n)) tq && sysB g)))
structure SaysM (fa : List Fa) (fn : List DefD) (ex : PySem.W.Frag → Bool) (K : PySem.W.Frag) : Prop where
  d : SaysD fa fn K
  e : ex K = true
structure SaysL (fa : List Fa) (fn : List DefD) (tq : TqL) (ex : PySem.W.Frag → Bool) (h : Heap) (K : PySem.W.Frag) : Prop where
  m : SaysM fa fn ex K
  hd : ∀ p ∈ tq, PySem.W.codeHdIn K (cT K p.1).1 (cT K p.1).2 = true
  out : ∀ p ∈ tq, K.lookup (cT K p.1).2 = none
  emp : ∀ p ∈ tq, h.get? (cT K p.1).2 = some { cls := .none, data := .fields #[] }
  nd : (tq.map fun p => (cT K p.1).2).Nodup
  ns : ∀ p ∈ tq, (cT K p.1).1 ≠ sysModules ∧ (cT K p.1).2 ≠ sysModules
  sk : K.lookup sysModules = none
  sy : ∃ o, h.get? sysModules = some o ∧ o.cls = .type "dict"
theorem codeHd_some {K : PySem.W.Frag} {c P : Addr} (e : PySem.W.codeHdIn K c P = true) : ∃ o, K.lookup c = some o := by
  unfold PySem.W.codeHdIn at e
  split at e
  · rename_i q
    exact ⟨_, q⟩
  · cases e
theorem saysL_of {n : Nat} {fa : List Fa} {fn : List DefD} {tq : TqL} {ex : PySem.W.Frag → Bool} {h : Heap} (e : obsM n fa fn tq ex h.get? = (valD fn, true)) : SaysL fa fn tq ex h (frM h.get? (asX h.get? n)) := by
  have e1 := congrArg (fun z : AlD × Bool => z.1) e
  have e2 : (ex (frM h.get? (asX h.get? n)) && (tabsB h.get? (tq.map (·.1)) (frM h.get? (asX h.get? n)) && (tqB (frM h.get? (asX h.get? n)) tq && sysB h.get?))) = true := congrArg (fun z : AlD × Bool => z.2) e
  obtain ⟨h1, h2⟩ := ba e2
  obtain ⟨h3, h4⟩ := ba h2
  obtain ⟨h5, h6⟩ := ba h4
  obtain ⟨h7, h8⟩ := ba h5
  have all : ∀ p ∈ tq, PySem.W.codeHdIn (frM h.get? (asX h.get? n)) (cT (frM h.get? (asX h.get? n)) p.1).1 (cT (frM h.get? (asX h.get? n)) p.1).2 = true ∧ ∃ o, h.get? (cT (frM h.get? (asX h.get? n)) p.1).2 = some o ∧ emptyTab o = true := fun p hp => by
    obtain ⟨u1, u2⟩ := ba (List.all_eq_true.mp h3 p.1 (List.mem_map_of_mem hp))
    cases z : h.get? (cT (frM h.get? (asX h.get? n)) p.1).2 with
    | none => rw [z] at u2; cases u2
    | some o => rw [z] at u2; exact ⟨u1, o, rfl, u2⟩
  refine ⟨⟨e1, h1⟩, fun p hp => (all p hp).1, fun p hp => ?_, fun p hp => ?_, of_decide_eq_true h7, fun p hp => ⟨fun z => ?_, fun z => ?_⟩, frM_sys, sysB_ok h6⟩
  · obtain ⟨_, o, z1, z2⟩ := all p hp
    exact frM_tab z1 z2
  · obtain ⟨_, o, z1, z2⟩ := all p hp
    rw [z1, emptyTab_eq z2]
  · obtain ⟨o, y⟩ := codeHd_some (all p hp).1
    rw [z, frM_sys] at y
    cases y
  · have y := List.all_eq_true.mp h8 p hp
    rw [z, show (sysModules == sysModules) = true from rfl] at y
    cases y
def hookM (n : Nat) (fa : List Fa) (fn : List DefD) (tq : TqL) (ex : PySem.W.Frag → Bool) : PySem.W.Hook where
  α := AlD × Bool
  obs := fun s => obsM n fa fn tq ex s.heap.get?
  val := fun _ => (valD fn, true)
  says := fun _ h => ∃ K : PySem.W.Frag, K.In h ∧ SaysL fa fn tq ex h K
  of := fun _ _ e => ⟨_, frM_in, saysL_of e⟩
  keeps := fun _ _ _ ⟨K, hK, c⟩ k => ⟨K, PySem.W.Frag.In.keeps hK k, c.m, c.hd, c.out, (fun p hp => k _ _ (c.emp p hp)), c.nd, c.ns, c.sk, let ⟨o, e1, e2⟩ := c.sy; ⟨o, k _ _ e1, e2⟩⟩
theorem obsM_eq {n : Nat} {fa : List Fa} {fn : List DefD} {tq : TqL} {ex : PySem.W.Frag → Bool} {g : Addr → Option Obj} {s : Shared} (h : ∀ a, g a = s.heap.get? a) : obsM n fa fn tq ex g = (hookM n fa fn tq ex).obs s := by
  have e : g = s.heap.get? := funext h
  rw [e] <;> rfl
/-- what the makers of lambdas lean on -/
structure TbL (tq : TqL) (K : PySem.W.Frag) (mg : Str → Option Value) (base : Heap) : Prop where
  tb : ∀ p ∈ tq, LamX.TabB base mg (cT K p.1).1 (cT K p.1).2
  nd : (tq.map fun p => (cT K p.1).2).Nodup
/-- the tables, with their names -/
abbrev tabT (tq : TqL) (K : PySem.W.Frag) : List (Addr × Str) := tq.map fun p => ((cT K p.1).2, p.2)
theorem nodup_snd {α β γ : Type} {f : α → β} {g : α → γ} : ∀ {l : List α}, (l.map f).Nodup → ∀ {p q : α}, p ∈ l → q ∈ l → f p = f q → g p = g q
  | [], _, _, _, hp, _, _ => nomatch hp
  | a :: l, nd, p, q, hp, hq, e => by
    rw [List.map_cons, List.nodup_cons] at nd
    rcases List.mem_cons.mp hp with e1 | hp2
    · rcases List.mem_cons.mp hq with e2 | hq2
      · rw [e1, e2]
      · exact absurd (by rw [← e1, e]; exact List.mem_map_of_mem hq2) nd.1
    · rcases List.mem_cons.mp hq with e2 | hq2
      · exact absurd (by rw [← e2, ← e]; exact List.mem_map_of_mem hp2) nd.1
      · exact nodup_snd nd.2 hp2 hq2 e
theorem TbL.one {tq : TqL} {K : PySem.W.Frag} {mg : Str → Option Value} {base : Heap} (B : TbL tq K mg base) {p : Defn × Str} (hp : p ∈ tq) : ((cT K p.1).2, p.2) ∈ tabT tq K ∧ ∀ z ∈ tabT tq K, z.1 = (cT K p.1).2 → z.2 = p.2 :=
  ⟨List.mem_map_of_mem (f := fun p : Defn × Str => ((cT K p.1).2, p.2)) hp, fun z hz e => by
    obtain ⟨r, hr, rfl⟩ := List.mem_map.mp hz
    exact nodup_snd (g := fun p : Defn × Str => p.2) B.nd hr hp e⟩
/-- what the top has left -/
structure Tp (fa : List Fa) (fn : List DefD) (ex : PySem.W.Frag → Bool) (K : PySem.W.Frag) (mg : Str → Option Value) : Prop where
  c : SaysM fa fn ex K
  h : ∃ h : Heap, K.In h ∧ h.Ns mainGlobals mg
section
variable {fa : List Fa} {fn : List DefD} {ex : PySem.W.Frag → Bool} {K : PySem.W.Frag} {mg : Str → Option Value}
theorem Tp.glo (T : Tp fa fn ex K mg) (i : Nat) {x : Str} (h : fa[i]? = some (.glo x) := by rfl) : mg x = some (.ref (ga K x)) := let ⟨_, a, b⟩ := T.h; glo_ok a b (T.c.d.fact i h)
theorem Tp.free (T : Tp fa fn ex K mg) (i : Nat) {x : Str} (h : fa[i]? = some (.free x) := by rfl) : mg x = none := let ⟨_, a, b⟩ := T.h; free_ok a b (T.c.d.fact i h)
theorem Tp.cls (T : Tp fa fn ex K mg) (i : Nat) {x : Str} (h : fa[i]? = some (.cls x) := by rfl) : Cls K (ga K x) := cls_ok (T.c.d.fact i h)
theorem Tp.noat (T : Tp fa fn ex K mg) (i : Nat) {x f : Str} (h : fa[i]? = some (.noat x f) := by rfl) : NoAttr K (ga K x) f := noat_ok (T.c.d.fact i h)
theorem Tp.meth (T : Tp fa fn ex K mg) (i : Nat) {x m : Str} (h : fa[i]? = some (.meth x m) := by rfl) : Meth K (ga K x) m (ma K (ga K x) m) := meth_ok (T.c.d.fact i h)
theorem Tp.mkr (T : Tp fa fn ex K mg) (i : Nat) {x : Str} (h : fa[i]? = some (.mkr x) := by rfl) : Mk K (ga K x) (ma K (ga K x) "__init__") := mkr_ok (T.c.d.fact i h)
theorem Tp.int (T : Tp fa fn ex K mg) (i : Nat) {x : Str} {n : Int} (h : fa[i]? = some (.int x n) := by rfl) : ∃ t, mg x = some (.int n t) := let ⟨_, a, b⟩ := T.h; int_ok a b (T.c.d.fact i h)
theorem Tp.str (T : Tp fa fn ex K mg) (i : Nat) {x z : Str} (h : fa[i]? = some (.str x z) := by rfl) : ∃ t, mg x = some (.str z t) := let ⟨_, a, b⟩ := T.h; str_ok a b (T.c.d.fact i h)
theorem Tp.fd (T : Tp fa fn ex K mg) (i : Nat) {d : DefD} (h : fn[i]? = some d := by rfl) : ∃ fd, FunD K d.name d.qual d.params d.body d.scope (d.dvs K) (d.kws K) (fAd K d.at_) fd := T.c.d.def_ i h
theorem Tp.kp (T : Tp fa fn ex K mg) (i : Nat) {d : DefD} (h : fn[i]? = some d := by rfl) : PySem.W.keepIn K (.ref (fAd K d.at_)) = true := let ⟨_, F⟩ := T.fd i h; F.kp
end
section
variable {fa : List Fa} {fn : List DefD} {ex : PySem.W.Frag → Bool} {G : Gm} {E : WM} {X : Cx}
theorem me_gint (T : Tp fa fn ex X.K X.mg) (i : Nat) {x : Str} {n : Int} {pos : Pos} (hg : Gl X x) (h : fa[i]? = some (.int x n) := by rfl) (hd : (x == ("__debug__" : Str)) = false := by decide) : PE X (.Name x pos) (rd G E (eC (.int n))) :=
  let ⟨_, e⟩ := T.int i h; me_glob (v := .int n) hg e ⟨_, rfl⟩ (fun _ _ => .int n) hd
theorem me_gstr (T : Tp fa fn ex X.K X.mg) (i : Nat) {x z : Str} {pos : Pos} (hg : Gl X x) (h : fa[i]? = some (.str x z) := by rfl) (hd : (x == ("__debug__" : Str)) = false := by decide) : PE X (.Name x pos) (rd G E (eC (.str z))) :=
  let ⟨_, e⟩ := T.str i h; me_glob (v := .str z) hg e ⟨_, rfl⟩ (fun _ _ => .str z) hd
/-- a name of the module that stands for a tuple -/
theorem me_gtup (T : Tp fa fn ex X.K X.mg) (i : Nat) {x : Str} {vs : List Dv} {ds : List D} {pos : Pos} (hG : G.K = X.K) (hg : Gl X x) (ht : tupB X.K x vs = true) (q : ∀ ρ H, VRels G ρ H (vs.map (Dv.v X.K)) ds) (h : fa[i]? = some (.glo x) := by rfl) (hd : (x == ("__debug__" : Str)) = false := by decide) :
    PE X (.Name x pos) (rd G E (eC (.tup ds))) := me_glob hg (T.glo i h) (v := .ref (ga X.K x)) rfl (fun ρ H => .tup (by rw [hG]; exact tupB_ok ht H) (q ρ H)) hd
end
/-! ### a def's promise -/
def OkD (P : Program) (w : World) (K : PySem.W.Frag) (mg : Str → Option Value) (base : Heap) (k : Nat) (d : DefD) (ps : List Str) (F : Fn) (G : Gm) : Prop :=
  ∃ fd, FunD K d.name d.qual d.params d.body d.scope (d.dvs K) (d.kws K) (fAd K d.at_) fd ∧ FnG P w K mg base k (fAd K d.at_) fd ps (spOf G ps.length F)
theorem okD_of {P : Program} {w : World} {K : PySem.W.Frag} {mg : Str → Option Value} {base : Heap} {fa : List Fa} {fn : List DefD} {ex : PySem.W.Frag → Bool} {k : Nat} {N ps : List Str} {G : Gm} {m : MS} (T : Tp fa fn ex K mg) (i : Nat) {d : DefD} (S : FnScope N ps d.scope)
    (hb : ∀ (cdv : Value) (A : Around) (outer : List PySem.Env) (s : Shared) (H : Hp) (E : XK), RG k (A.deeper (envOfC d.qual d.scope s.heap.objs.size (fAd K d.at_) cdv)) → PSs (cxOf (L2.CX P w) P w K mg base N d.qual d.scope (fAd K d.at_) cdv A outer s H E) d.body (rdS G (fun cls d _ H => E cls d H) m)) (h : fn[i]? = some d := by rfl) :
    OkD P w K mg base (k + 1) d ps (fnOf N.length m) G := let ⟨fd, F⟩ := T.fd i h; ⟨fd, F, fg_of F S fun cdv _ => hb cdv⟩
/-- .. of a def that makes lambdas -/
theorem okD_ofL {P : Program} {w : World} {K : PySem.W.Frag} {mg : Str → Option Value} {base : Heap} {fa : List Fa} {fn : List DefD} {ex : PySem.W.Frag → Bool} {k : Nat} {N ps : List Str} {G : Gm} {m : MS} (T : Tp fa fn ex K mg) (i : Nat) {d : DefD} (S : FnScope N ps d.scope)
    (hb : ∀ (cdv : Value), cdv = .ref (cT K d.at_).1 → ∀ (A : Around) (outer : List PySem.Env) (s : Shared) (H : Hp) (E : XK), RG k (A.deeper (envOfC d.qual d.scope s.heap.objs.size (fAd K d.at_) cdv)) → PSs (cxOf (L2.CX P w) P w K mg base N d.qual d.scope (fAd K d.at_) cdv A outer s H E) d.body (rdS G (fun cls d _ H => E cls d H) m)) (h : fn[i]? = some d := by rfl) :
    OkD P w K mg base (k + 1) d ps (fnOf N.length m) G := by
  obtain ⟨fd, F⟩ := T.fd i h
  refine ⟨fd, F, fg_of F S fun cdv hc => hb cdv ?_⟩
  obtain ⟨c, e, k⟩ := hc
  obtain ⟨oc, od, dV, kV, doc, pm, an, cdv', ct, osl, _, lk, _⟩ := F.ex
  rw [e]
  exact congrArg Value.ref (codeOf_eq lk (k _ _ _ _ lk)).symm
/-- how a call's things reach a def's parameters -/
def Form (K : PySem.W.Frag) (G : Gm) (d : DefD) (ps : List Str) (n : Nat) (kn : List Str) (p : List D → List D → List D) : Prop := ∃ gV : List V → List V → List V,
  (∀ fd, FunD K d.name d.qual d.params d.body d.scope (d.dvs K) (d.kws K) (fAd K d.at_) fd → ∃ g, KBn K fd ps n kn g gV) ∧ PermR G n kn.length gV p ∧ ∀ ds es : List D, ds.length = n → es.length = kn.length → (p ds es).length = ps.length
section
variable {K : PySem.W.Frag} {G : Gm} {d : DefD} {ps : List Str} {n : Nat} {kn : List Str}
/-- all by place, no defaults -/
theorem form_pos (hd : d.dfl = []) (h : ∀ (kV doc pm : Value) (an : Option Addr) (cdv ct : Value) (us : List Value), us.length = ps.length → bindArgs (PySem.W.fnOf d.name d.qual d.params d.body d.scope .none kV doc pm an cdv ct) ⟨us, []⟩ = pure (ps.zip us)) : Form K G d ps ps.length [] (fun ds _ => ds) := by
  refine ⟨fun vs _ => vs, fun fd F => ⟨fun us _ => us, ⟨fun s us ws X l1 l2 => ?_, fun r _ => r⟩⟩, fun ρ H vs ds zs es q1 q2 _ _ => ⟨q1, q1.length⟩, fun ds es l _ => l⟩
  have F2 : FunD K d.name d.qual d.params d.body d.scope [] (d.kws K) (fAd K d.at_) fd := by
    have e : d.dvs K = [] := by unfold DefD.dvs; rw [hd]; rfl
    rw [e] at F
    exact F
  exact F2.bindsA h s us l1
/-- keyword-only ones, some of them by name -/
theorem form_kw0 (g : {α : Type} → List α → List α → List α → List α) (ms : List (Str × Dv)) (mds : List D) (hd : d.dfl = []) (hk : d.kwd ≠ []) (is : List Nat) (hms : is.map (fun i => d.kwd[i]?) = ms.map some) (hm : ∀ ρ H, VRels G ρ H (ms.map fun q => q.2.v K) mds)
    (hrel : ∀ {vs mz zs : List V} {us mv ws : List Value}, Vals vs us → Vals mz mv → Vals zs ws → Vals (g vs mz zs) (g us mv ws)) (hrelD : ∀ {ρ : List Addr} {H : Hp} {vs mz zs : List V} {us mv ws : List D}, VRels G ρ H vs us → VRels G ρ H mz mv → VRels G ρ H zs ws → VRels G ρ H (g vs mz zs) (g us mv ws))
    (hl : ∀ ds es : List D, ds.length = n → es.length = kn.length → (g ds mds es).length = ps.length)
    (h : ∀ (A : Addr) (doc pm : Value) (an : Option Addr) (cdv ct : Value) (us mv ws : List Value), us.length = n → mv.length = ms.length → ws.length = kn.length →
      KwChain A ((ms.map (·.1)).zip mv) (bindArgs (PySem.W.fnOf d.name d.qual d.params d.body d.scope .none (.ref A) doc pm an cdv ct) ⟨us, kn.zip ws⟩) (ps.zip (g us mv ws))) : Form K G d ps n kn (fun ds es => g ds mds es) := by
  refine ⟨fun vs zs => g vs (ms.map fun q => q.2.v K) zs, fun fd F => ?_, fun ρ H vs ds zs es q1 q2 _ _ => ⟨hrelD q1 (hm ρ H) q2, (hrelD q1 (hm ρ H) q2).length⟩, hl⟩
  have F2 : FunD K d.name d.qual d.params d.body d.scope [] (d.kws K) (fAd K d.at_) fd := by
    have e : d.dvs K = [] := by unfold DefD.dvs; rw [hd]; rfl
    rw [e] at F
    exact F
  obtain ⟨mv, kb⟩ := F2.kbinds0 (ps := ps) n kn (ms.map fun q => (q.1, q.2.v K)) g (by unfold DefD.kws; intro z; exact hk (List.map_eq_nil_iff.mp z))
    (fun q hq => by
      obtain ⟨q', hq', rfl⟩ := List.mem_map.mp hq
      have k : some q' ∈ is.map (fun i => d.kwd[i]?) := by rw [hms]; exact List.mem_map.mpr ⟨q', hq', rfl⟩
      obtain ⟨i, _, e⟩ := List.mem_map.mp k
      exact List.mem_map.mpr ⟨q', List.mem_of_getElem? e, rfl⟩) hrel fun A doc pm an cdv ct us mv ws l1 l2 l3 => by
      have z := h A doc pm an cdv ct us mv ws l1 (by simpa using l2) l3
      rw [List.map_map]
      exact z
  refine ⟨fun us ws => g us mv ws, ?_⟩
  have e : (ms.map fun q => (q.1, q.2.v K)).map (·.2) = ms.map fun q => q.2.v K := by rw [List.map_map]; rfl
  rw [e] at kb
  exact kb
end
section
variable {G : Gm} {E : WM} {X : Cx} {j k n : Nat} {d : DefD} {ps kn : List Str} {F : Fn} {p : List D → List D → List D}
theorem OkD.calls (O : OkD X.prog X.w X.K X.mg X.base k d ps F G) (B : Form X.K G d ps n kn p) (hx : PassW X E) (rg : RG j X.A) (h : k ≤ j := by decide) : CallsF X G E (.ref (fAd X.K d.at_)) kn (callP n kn.length p F) := by
  obtain ⟨fd, FD, FG⟩ := O
  obtain ⟨gV, b1, b2, b3⟩ := B
  obtain ⟨g, kb⟩ := b1 fd FD
  exact calls_of FG (rg.mono h) kb hx b2 b3
theorem OkD.makes {c : Nat} (O : OkD X.prog X.w X.K X.mg X.base k d ps F G) (B : Form X.K G d ps (n + 1) kn p) (M : Mk X.K (G.cA c) (fAd X.K d.at_)) (hx : PassW X E) (rg : RG j X.A) (h : k + 1 ≤ j := by decide) :
    CallsF X G E (.ref (G.cA c)) kn (mkNew c (callP (n + 1) kn.length p F)) := by
  obtain ⟨fd, FD, FG⟩ := O
  obtain ⟨gV, b1, b2, b3⟩ := B
  obtain ⟨g, kb⟩ := b1 fd FD
  exact makes_of M FG (rg.mono h) kb hx b2 b3
end
/-! ### the end -/
theorem law_endE {l : PySem.W.OpenLaw} {n k : Nat} {q : Program} {loose : List Str} {XP : (Str → Option Value) → Heap → Prop} {fa : List Fa} {fn : List DefD} {tq : TqL} {ex : PySem.W.Frag → Bool} {dr : DefRec} {F : Fn} {x : Str} {d : DefD} {G : PySem.W.Frag → Gm} {YP : World → Heap → Prop}
    (i0 : Nat) (hfn : fn[i0]? = some d) (hn : l.most = some n) (hn2 : n ≤ sizeLine) (hdf : dr.params.defaults = []) (rg : RG k callerA) (hG : ∀ K, (G K).K = K) (hGT : ∀ K, (G K).T = tabT tq K) (hGR : ∀ K, (G K).rt = []) (hY : ∀ w h, YP w h → ∃ K : PySem.W.Frag, K.In h ∧ SaysL fa fn tq ex h K)
    (hg : ∀ K mg, Tp fa fn ex K mg → mg dr.name = some (.ref (fAd K d.at_))) (hdd : d.dfl = []) (hb : ∀ (kV doc pm : Value) (an : Option Addr) (cdv ct : Value) (us : List Value), us.length = [x].length → bindArgs (PySem.W.fnOf d.name d.qual d.params d.body d.scope .none kV doc pm an cdv ct) ⟨us, []⟩ = pure ([x].zip us))
    (FG : ∀ (w : World) (mg : Str → Option Value) (K : PySem.W.Frag) (base : Heap), Tp fa fn ex K mg → TbL tq K mg base → OkD l.prog w K mg base k d [x] F (G K))
    (hT : ∀ ns : List Int, ns.length ≤ n → ∃ h', F [.kl (ns.map .int)] Hm.start = .ok (.bl true) h') : PySem.W.WalkO q loose XP YP l.row.toRowW dr [] (fun f vs => PySem.call f vs) := by
  refine Att.attach_call hn hdf fun w s0 s1 mg mb fa o pm cd doc a vs ns Gr Y ho hd hcd hmg hobj hints hlen hgens => ?_
  obtain ⟨K, KX, c⟩ := hY _ _ Y
  have T : Tp _ _ _ K mg := ⟨c.m, _, KX, Gr.T.g⟩
  have e := hg K mg T
  rw [hmg] at e
  obtain rfl := Value.ref.inj (Option.some.inj e)
  obtain ⟨fd0, F0⟩ := T.fd i0 hfn
  -- the def is one, whatever the base
  have one : ∀ fd, FunD K d.name d.qual d.params d.body d.scope (d.dvs K) (d.kws K) (fAd K d.at_) fd → fd = fd0 := fun fd FD => by
    obtain ⟨_, _, _, _, _, _, _, _, _, _, _, lk, _⟩ := F0.ex
    obtain ⟨_, _, _, _, _, _, _, _, _, _, _, lk', _⟩ := FD.ex
    rw [lk] at lk'
    have := Option.some.inj lk'
    cases this
    rfl
  have F2 : FunD K d.name d.qual d.params d.body d.scope [] (d.kws K) (fAd K d.at_) fd0 := by
    have e : d.dvs K = [] := by unfold DefD.dvs; rw [hdd]; rfl
    rw [e] at F0
    exact F0
  have inP : ∀ {Z : Addr × Addr → Prop}, (∀ p ∈ tq, Z (cT K p.1)) → ∀ z ∈ tq.map (fun p => cT K p.1), Z z := fun {Z} hz z hm => by
    obtain ⟨p, hp, rfl⟩ := List.mem_map.mp hm
    exact hz p hp
  obtain ⟨o1, sy1, sy2⟩ := c.sy
  exact law_go (cs := tq.map fun p => cT K p.1) (hG K) (hGR K) (fun p hp => by
      rw [hGT K] at hp
      obtain ⟨r, hr, rfl⟩ := List.mem_map.mp hp
      exact List.mem_map_of_mem (f := fun z : Addr × Addr => z.2) (List.mem_map_of_mem (f := fun p : Defn × Str => cT K p.1) hr))
    KX Gr.T.g Gr.T.b Gr.T.builtins Gr.T.nolimit hgens sy1 sy2 c.sk (inP c.ns) (inP c.emp) (inP c.out) (inP fun p hp => PySem.W.codeHd_of_K KX (c.hd p hp)) Gr.T.bmain hobj hints (Nat.le_trans hlen hn2) rg (fun base inB nsB tB => by
    obtain ⟨fd, FD, FG'⟩ := FG w mg K base T ⟨fun p hp => tB _ (List.mem_map_of_mem (f := fun p : Defn × Str => cT K p.1) hp), c.nd⟩
    rw [one fd FD] at FG'
    exact FG') (fun s u => F2.bindsA hb s [u] rfl) (hT ns hlen)
end Mo
end
section
/-! More built-ins. -/
namespace Mo
open PySem L2 PyProof.Rows He
section
variable {G : Gm} {E : WM}
theorem bs_int : BiS G E (fun xs H Q => (∃ i, xs = [.int i] ∧ Q (.int i) H) ∨ ∃ k, xs = [.bl k] ∧ Q (.int (if k then 1 else 0)) H) bInt := by
  intro τ ρ H h ds vs Q r q w
  unfold bInt at w
  split at w
  · obtain ⟨v, rfl, k⟩ := vs1 q
    cases k
    exact .inl ⟨_, rfl, w.val r (.int _)⟩
  · obtain ⟨v, rfl, k⟩ := vs1 q
    cases k
    exact .inr ⟨_, rfl, w.val r (.int _)⟩
  · exact False.elim w
theorem bs_max2 : BiS G E (fun xs H Q => ∃ i j, xs = [.int i, .int j] ∧ Q (.int (if j > i then j else i)) H) bMax2 := by
  intro τ ρ H h ds vs Q r q w
  unfold bMax2 at w
  split at w
  · obtain ⟨v, u, rfl, k1, k2⟩ := vs2 q
    cases k1
    cases k2
    exact ⟨_, _, rfl, w.val r (.int _)⟩
  · exact False.elim w
theorem bs_min2 : BiS G E (fun xs H Q => ∃ i j, xs = [.int i, .int j] ∧ Q (.int (if j < i then j else i)) H) bMin2 := by
  intro τ ρ H h ds vs Q r q w
  unfold bMin2 at w
  split at w
  · obtain ⟨v, u, rfl, k1, k2⟩ := vs2 q
    cases k1
    cases k2
    exact ⟨_, _, rfl, w.val r (.int _)⟩
  · exact False.elim w
theorem flat_rel {ρ : List Addr} {H : Hp} {v : V} {d : D} (q : VRel G ρ H v d) (k : flatD d = true) : flatV v = true := by
  cases q <;> first | rfl | cases k
theorem eqF_rel {ρ : List Addr} {H : Hp} {v u : V} {d e : D} (q : VRel G ρ H v d) (q' : VRel G ρ H u e) (k : flatD d = true) (k' : flatD e = true) : eqV v u = eqF d e := by
  cases q <;> cases q' <;> first | rfl | (cases k; done) | (cases k'; done)
theorem all_rel {ρ : List Addr} {H : Hp} : ∀ {vs : List V} {ds : List D}, VRels G ρ H vs ds → ds.all flatD = true → vs.all flatV = true
  | _, _, .nil, _ => rfl
  | _, _, .cons q qs, k => by
    rw [List.all_cons, Bool.and_eq_true] at k ⊢
    exact ⟨flat_rel q k.1, all_rel qs k.2⟩
theorem in_rel {ρ : List Addr} {H : Hp} {v : V} {d : D} (q : VRel G ρ H v d) (k : flatD d = true) : ∀ {vs : List V} {ds : List D}, VRels G ρ H vs ds → ds.all flatD = true → inV v vs = inD d ds
  | _, _, .nil, _ => rfl
  | _, _, .cons p ps, k' => by
    rw [List.all_cons, Bool.and_eq_true] at k'
    have ih := in_rel q k ps k'.2
    unfold inV inD at ih ⊢
    rw [List.any_cons, List.any_cons, ih, eqF_rel p q k'.1 k]
theorem os_in {neg : Bool} : OpS G E (rIn G.K neg) (opIn neg) := by
  intro τ ρ H h x y v u Q r q1 q2 w
  unfold opIn at w
  cases q2 with
  | tup h1 h2 =>
    obtain ⟨c, w⟩ := Wp.ifR w
    obtain ⟨c1, c2⟩ := Bool.and_eq_true_iff.mp c
    exact ⟨_, _, rfl, .inr h1, flat_rel q1 c1, all_rel h2 c2, by rw [in_rel q1 c1 h2 c2]; exact w.val r (.bl _)⟩
  | kl h1 h2 =>
    obtain ⟨c, w⟩ := Wp.ifR (show Wp G (atW E τ) (VRel G) (ifR _ _) ρ H Q from w)
    obtain ⟨c1, c2⟩ := Bool.and_eq_true_iff.mp c
    exact ⟨_, _, rfl, .inl h1.l, flat_rel q1 c1, all_rel h2 c2, by rw [in_rel q1 c1 h2 c2]; exact w.val r (.bl _)⟩
  | @loc a l hl =>
    simp only at w
    split at w <;> first | exact False.elim w | skip
    rename_i xs e
    obtain ⟨a', vs, e0, e1, e2⟩ := r.seqL e (.loc hl)
    cases e0
    obtain ⟨c, w⟩ := Wp.ifR w
    obtain ⟨c1, c2⟩ := Bool.and_eq_true_iff.mp c
    exact ⟨_, _, rfl, .inl e1, flat_rel q1 c1, all_rel e2 c2, by rw [in_rel q1 c1 e2 c2]; exact w.val r (.bl _)⟩
  | _ => exact False.elim w
theorem ixI_seq {n : Nat} {i : Int} {k : Nat} (e : ixI n i = some k) : PySem.seqIndex? i n = some k := by
  unfold ixI at e
  unfold PySem.seqIndex?
  by_cases h0 : 0 ≤ i
  · rw [if_pos h0] at e
    by_cases h1 : i < n
    · rw [if_pos h1] at e
      cases e
      simp [Int.not_lt.mpr h0, h0, h1]
    · rw [if_neg h1] at e
      cases e
  · rw [if_neg h0] at e
    by_cases h1 : -(n : Int) ≤ i
    · rw [if_pos h1] at e
      cases e
      have g1 : i < 0 := by omega
      have g2 : 0 ≤ i + n := by omega
      have g3 : i + n < n := by omega
      simp only [g1, if_true, g2, g3, decide_true, Bool.and_self]
    · rw [if_neg h1] at e
      cases e
theorem bs_popAt : MbS G E rPopAt mPopAt := by
  intro τ ρ H h x v ds vs Q r q qs w
  unfold mPopAt at w
  split at w
  · obtain ⟨u, rfl, k⟩ := vs1 qs
    cases k
    cases q with
    | @loc a l ha =>
      split at w <;> first | exact False.elim w | skip
      rename_i xs e
      split at w <;> first | exact False.elim w | skip
      rename_i k e3
      split at w <;> first | exact False.elim w | skip
      rename_i y e4
      obtain ⟨c, w⟩ := Wp.ifR w
      have c := of_decide_eq_true c
      obtain ⟨ws, e2, k2⟩ := r.at e ha
      obtain ⟨vy, e5, k5⟩ := k2.get e4
      refine ⟨a, ws, _, k, vy, rfl, rfl, e2, c.1, c.2, ?_, e5, ?_⟩
      · rw [k2.length]
        exact ixI_seq e3
      · have er : VRels G ρ H (ws.eraseIdx k) (xs.eraseIdx k) := by
          rw [List.eraseIdx_eq_take_drop_succ, List.eraseIdx_eq_take_drop_succ]
          exact (k2.take _).append (k2.drop _)
        exact w.putL r ha e2 er k5
  · exact False.elim w
theorem VRels.dropLast' {ρ : List Addr} {H : Hp} {vs : List V} {ds : List D} (q : VRels G ρ H vs ds) : VRels G ρ H vs.dropLast ds.dropLast := by
  rw [List.dropLast_eq_take, List.dropLast_eq_take, q.length]
  exact q.take _
theorem bs_pop : MbS G E rPop mPop := by
  intro τ ρ H h x v ds vs Q r q qs w
  unfold mPop at w
  split at w
  · cases qs
    cases q with
    | @loc a l ha =>
      split at w <;> first | exact False.elim w | skip
      rename_i xs e
      split at w <;> first | exact False.elim w | skip
      rename_i y e4
      obtain ⟨ws, e2, k2⟩ := r.at e ha
      obtain ⟨vy, e5, k5⟩ := k2.get e4
      refine ⟨a, ws, vy, rfl, rfl, e2, ?_, w.putL r ha e2 (VRels.dropLast' k2) k5⟩
      rw [k2.length]
      exact e5
  · exact False.elim w
theorem bs_extend : MbS G E rExtend mExtend := by
  intro τ ρ H h x v ds vs Q r q qs w
  unfold mExtend at w
  split at w
  · obtain ⟨u, rfl, k⟩ := vs1 qs
    cases q with
    | @loc a l ha =>
      cases k with
      | @loc b m hb =>
        split at w <;> first | exact False.elim w | skip
        rename_i xs ys e e'
        obtain ⟨c, w⟩ := Wp.ifR w
        have c := of_decide_eq_true c
        obtain ⟨ws, e2, k2⟩ := r.at e ha
        obtain ⟨us, e3, k3⟩ := r.at e' hb
        refine ⟨a, b, ws, us, rfl, rfl, e2, e3, ?_, w.putL r ha e2 (k2.append k3) .non⟩
        rw [k2.length, k3.length]
        exact sl_le c
  · exact False.elim w
end
end Mo
end
section
/-! Calls that name their parameters. -/
namespace Mo
open PySem L2 PyProof.Rows He
section
variable {K : PySem.W.Frag} {G : Gm} {d : DefD} {ps : List Str} {n : Nat} {kn : List Str}
/-- nothing lacks: by place and by name -/
theorem form_kwp (g : {α : Type} → List α → List α → List α) (hd : d.dfl = [])
    (hrel : ∀ {vs zs : List V} {us ws : List Value}, Vals vs us → Vals zs ws → Vals (g vs zs) (g us ws)) (hrelD : ∀ {ρ : List Addr} {H : Hp} {vs zs : List V} {us ws : List D}, VRels G ρ H vs us → VRels G ρ H zs ws → VRels G ρ H (g vs zs) (g us ws))
    (hl : ∀ ds es : List D, ds.length = n → es.length = kn.length → (g ds es).length = ps.length)
    (h : ∀ (kV doc pm : Value) (an : Option Addr) (cdv ct : Value) (us ws : List Value), us.length = n → ws.length = kn.length →
      bindArgs (PySem.W.fnOf d.name d.qual d.params d.body d.scope .none kV doc pm an cdv ct) ⟨us, kn.zip ws⟩ = pure (ps.zip (g us ws))) : Form K G d ps n kn (fun ds es => g ds es) := by
  refine ⟨fun vs zs => g vs zs, fun fd F => ?_, fun ρ H vs ds zs es q1 q2 _ _ => ⟨hrelD q1 q2, (hrelD q1 q2).length⟩, hl⟩
  have F2 : FunD K d.name d.qual d.params d.body d.scope [] (d.kws K) (fAd K d.at_) fd := by
    have e : d.dvs K = [] := by unfold DefD.dvs; rw [hd]; rfl
    rw [e] at F
    exact F
  obtain ⟨oc, od, dV, kV, doc, pm, an, cdv, ct, osl, rfl, lk, hcd, hD, hK⟩ := F2.ex
  rcases hD with ⟨_, rfl⟩ | ⟨e, _⟩
  · exact ⟨fun us ws => g us ws, ⟨fun s us ws X l1 l2 => BindsTo.of_eq (h kV doc pm an cdv ct us ws l1 l2), fun r1 r2 => hrel r1 r2⟩⟩
  · exact absurd rfl e
end
end Mo
end
section
/-! More of M: lists that nothing changes, and what is said of heaps by what may have changed. -/
namespace Mo
open PySem
def eLstK (as : MA) : ME := fun σ h => (as σ h).bind fun ds h1 => ifR (decide (ds.length ≤ SL)) (.ok (.kl ds) h1)
def eCompK (it : MI) (own : List Nat) (one : Bool) (is : List Nat) (t : MT) (e : ME) : ME := fun σ h => (it σ h).bind fun J h1 =>
  (compGo (bindC one is) t e J.ok (wipe σ own) J.xs [] h1).bind fun acc h2 => .ok (.kl acc) h2
def eSlK (a : ME) (lo hi : MO) : ME := fun σ h => (a σ h).bind fun x h1 => (lo σ h1).bind fun l h2 => (hi σ h2).bind fun u h3 => match h3.seq x with
  | some xs => .ok (.kl (cutL xs l u)) h3
  | none => .bad
/-- a slice of a tuple -/
def eSlT (a : ME) (lo hi : MO) : ME := fun σ h => (a σ h).bind fun x h1 => (lo σ h1).bind fun l h2 => (hi σ h2).bind fun u h3 => match x with
  | .tup xs => .ok (.tup (cutL xs l u)) h3
  | _ => .bad
def bListK : Bi
  | [.tup ds], h => .ok (.kl ds) h
  | [x], h => match h.seq x with
    | some xs => .ok (.kl xs) h
    | none => .bad
  | _, _ => .bad
def Hm.del (h : Hm) (l : Nat) : Hm := ⟨h.n, fun k => if k = l then none else h.g k⟩
/-- the list is left alone from now on -/
def frzR (x : D) (h : Hm) : R D := match x with
  | .loc l => match h.g l with
    | some (.lst xs) => .ok (.kl xs) (h.del l)
    | _ => .bad
  | x => .ok x h
def eFrz (a : ME) : ME := fun σ h => (a σ h).bind frzR
/-- a + b: numbers, texts, tuples; lists, the new one may be changed -/
def opAddM (x y : D) (h : Hm) : R D := match x, y with
  | .int i, .int j => .ok (.int (i + j)) h
  | .str a, .str b => ifR (decide (a.length + b.length ≤ SL)) (.ok (.str (a ++ b)) h)
  | .tup a, .tup b => ifR (decide (a.length + b.length ≤ SL)) (.ok (.tup (a ++ b)) h)
  | x, y => match h.seq x, h.seq y with
    | some xs, some ys => ifR (decide (xs.length + ys.length ≤ SL)) (.ok (.loc h.n) (h.new (.lst (xs ++ ys))))
    | _, _ => .bad
/-- .. or is left alone -/
def opAddK (x y : D) (h : Hm) : R D := match x, y with
  | .int i, .int j => .ok (.int (i + j)) h
  | .str a, .str b => ifR (decide (a.length + b.length ≤ SL)) (.ok (.str (a ++ b)) h)
  | .tup a, .tup b => ifR (decide (a.length + b.length ≤ SL)) (.ok (.tup (a ++ b)) h)
  | x, y => match h.seq x, h.seq y with
    | some xs, some ys => ifR (decide (xs.length + ys.length ≤ SL)) (.ok (.kl (xs ++ ys)) h)
    | _, _ => .bad
/-- in place: numbers and texts alone -/
def opAddI (x y : D) (h : Hm) : R D := match x, y with
  | .int i, .int j => .ok (.int (i + j)) h
  | _, _ => .bad
def opMulK : D → D → Hm → R D
  | .int i, .int j, h => ifR (mulOk i j) (.ok (.int (i * j)) h)
  | .loc a, .int k, h => match h.g a with
    | some (.lst xs) => ifR (decide (-(2 ^ 63) ≤ k ∧ k < 2 ^ 63 ∧ xs.length * k.toNat ≤ SL)) (.ok (.kl (List.replicate k.toNat xs).flatten) h)
    | _ => .bad
  | _, _, _ => .bad
/-! ### isinstance -/
def lookS (t : String) : List (String × Bool) → Option Bool
  | [] => none
  | (a, b) :: r => if a = t then some b else lookS t r
def lookN (c : Nat) : List (Nat × Bool) → Option Bool
  | [] => none
  | (a, b) :: r => if a = c then some b else lookN c r
/-- what is told of x by its kind: built-in ones, own classes, exceptions' classes -/
def isK (tb : List (String × Bool)) (to tx : List (Nat × Bool)) (x : D) (h : Hm) : Option Bool := match tyD h x with
  | some t => lookS t tb
  | none => match x with
    | .loc l => match h.g l with
      | some (.ins c _) => lookN c to
      | some .odd => lookS "dict" tb
      | some (.dt _) => lookS "dict" tb
      | some (.xn c) => lookN c tx
      | some (.xc c m) => match h.g m with
        | some (.xd _) => lookN c tx
        | _ => none
      | _ => none
    | _ => none
def isR (tb : List (String × Bool)) (to tx : List (Nat × Bool)) (x : D) (h : Hm) : R D := match isK tb to tx x h with
  | some b => .ok (.bl b) h
  | none => .bad
def eIs (tb : List (String × Bool)) (to tx : List (Nat × Bool)) (a : ME) : ME := fun σ h => (a σ h).bind (isR tb to tx)
/-! ### sorted, sets of whole numbers -/
def intsOf : List D → Option (List Int)
  | [] => some []
  | .int k :: r => (intsOf r).map (k :: ·)
  | _ :: _ => none
def insI (k : Int) : List Int → List Int
  | [] => [k]
  | x :: xs => if k ≤ x then k :: x :: xs else x :: insI k xs
def sortI (ks : List Int) : List Int := ks.foldr insI []
def insU (k : Int) : List Int → List Int
  | [] => [k]
  | x :: xs => if k < x then k :: x :: xs else if k = x then x :: xs else x :: insU k xs
/-- rising, each once -/
def sortU (ks : List Int) : List Int := ks.foldr insU []
/-- sorted(a list of whole numbers) -/
def bSorted : Bi
  | [x], h => match h.seq x with
    | some xs => match intsOf xs with
      | some ks => .ok (.kl ((sortI ks).map .int)) h
      | none => .bad
    | none => .bad
  | _, _ => .bad
def MSET : Nat := 4000
/-- sorted(set(a list of whole numbers)) -/
def sortSetR (x : D) (h : Hm) : R D := match h.seq x with
  | some xs => match intsOf xs with
    | some ks => ifR (decide (ks.length < MSET) && decide ((sortU ks).length < 64)) (.ok (.kl ((sortU ks).map .int)) h)
    | none => .bad
  | none => .bad
def eSortSet (a : ME) : ME := fun σ h => (a σ h).bind sortSetR
def setGo (bd : D → Env → Option Env) (t : MT) (e : ME) (ok : Hm → Bool) (σ : Env) : List D → List Int → Hm → R (List Int)
  | [], acc, h => ifR (ok h) (.ok acc h)
  | d :: ds, acc, h => match ok h, bd d σ with
    | true, some σ1 => (t σ1 h).quiet.bind fun c h1 => match c with
      | false => setGo bd t e ok σ ds acc h1
      | true => (e σ1 h1).quiet.bind fun y h2 => match y with
        | .int k => ifR (decide (acc.length < MSET)) (setGo bd t e ok σ ds (acc ++ [k]) h2)
        | _ => .bad
    | _, _ => .bad
/-- sorted({e for .. in it if t}) -/
def eSortC (it : MI) (own : List Nat) (one : Bool) (is : List Nat) (t : MT) (e : ME) : ME := fun σ h => (it σ h).bind fun J h1 =>
  (setGo (bindC one is) t e J.ok (wipe σ own) J.xs [] h1).bind fun ks h2 => ifR (decide ((sortU ks).length < 64)) (.ok (.kl ((sortU ks).map .int)) h2)
theorem insI_perm (k : Int) : ∀ xs : List Int, (insI k xs).Perm (k :: xs)
  | [] => .refl _
  | x :: xs => by
    unfold insI
    split
    · exact .refl _
    · exact ((insI_perm k xs).cons x).trans (.swap k x xs)
theorem sortI_perm : ∀ ks : List Int, (sortI ks).Perm ks
  | [] => .refl _
  | k :: ks => (insI_perm k (sortI ks)).trans ((sortI_perm ks).cons k)
theorem insI_pw (k : Int) : ∀ {xs : List Int}, xs.Pairwise (· ≤ ·) → (insI k xs).Pairwise (· ≤ ·)
  | [], _ => by simp [insI]
  | x :: xs, h => by
    obtain ⟨h1, h2⟩ := List.pairwise_cons.mp h
    unfold insI
    split
    · rename_i c
      refine List.pairwise_cons.mpr ⟨fun y hy => ?_, h⟩
      rcases List.mem_cons.mp hy with rfl | hy
      · exact c
      · exact Int.le_trans c (h1 y hy)
    · rename_i c
      refine List.pairwise_cons.mpr ⟨fun y hy => ?_, insI_pw k h2⟩
      rcases List.mem_cons.mp ((insI_perm k xs).mem_iff.mp hy) with rfl | hy
      · omega
      · exact h1 y hy
theorem sortI_pw : ∀ ks : List Int, (sortI ks).Pairwise (· ≤ ·)
  | [] => .nil
  | k :: ks => insI_pw k (sortI_pw ks)
theorem pw_perm_eq : ∀ {xs ys : List Int}, xs.Perm ys → xs.Pairwise (· ≤ ·) → ys.Pairwise (· ≤ ·) → xs = ys
  | [], ys, p, _, _ => (List.nil_perm.mp p).symm
  | x :: xs, [], p, _, _ => absurd p.length_eq (by simp)
  | x :: xs, y :: ys, p, h1, h2 => by
    obtain ⟨a1, a2⟩ := List.pairwise_cons.mp h1
    obtain ⟨b1, b2⟩ := List.pairwise_cons.mp h2
    have e : x = y := by
      have m1 : x ∈ y :: ys := p.mem_iff.mp List.mem_cons_self
      have m2 : y ∈ x :: xs := p.mem_iff.mpr List.mem_cons_self
      rcases List.mem_cons.mp m1 with e | m1
      · exact e
      rcases List.mem_cons.mp m2 with e | m2
      · exact e.symm
      have := b1 x m1
      have := a1 y m2
      omega
    subst e
    rw [pw_perm_eq (List.Perm.cons_inv p) a2 b2]
theorem sortI_eq {ks ys : List Int} (p : ys.Perm ks) (h : ys.Pairwise (· ≤ ·)) : ys = sortI ks := pw_perm_eq (p.trans (sortI_perm ks).symm) h (sortI_pw ks)
theorem insU_mem (k j : Int) : ∀ xs : List Int, j ∈ insU k xs ↔ j = k ∨ j ∈ xs
  | [] => by simp [insU]
  | x :: xs => by
    unfold insU
    split
    · simp
    · split
      · rename_i e
        subst e
        simp
      · rw [List.mem_cons, insU_mem k j xs, List.mem_cons]
        constructor
        · rintro (a | a | a)
          · exact .inr (.inl a)
          · exact .inl a
          · exact .inr (.inr a)
        · rintro (a | a | a)
          · exact .inr (.inl a)
          · exact .inl a
          · exact .inr (.inr a)
theorem sortU_mem (j : Int) : ∀ ks : List Int, j ∈ sortU ks ↔ j ∈ ks
  | [] => by simp [sortU]
  | k :: ks => by
    show j ∈ insU k (sortU ks) ↔ _
    rw [insU_mem, sortU_mem j ks, List.mem_cons]
theorem insU_pw (k : Int) : ∀ {xs : List Int}, xs.Pairwise (· < ·) → (insU k xs).Pairwise (· < ·)
  | [], _ => by simp [insU]
  | x :: xs, h => by
    obtain ⟨h1, h2⟩ := List.pairwise_cons.mp h
    unfold insU
    split
    · rename_i c
      refine List.pairwise_cons.mpr ⟨fun y hy => ?_, h⟩
      rcases List.mem_cons.mp hy with rfl | hy
      · exact c
      · exact Int.lt_trans c (h1 y hy)
    · split
      · exact h
      · refine List.pairwise_cons.mpr ⟨fun y hy => ?_, insU_pw k h2⟩
        rcases (insU_mem k y xs).mp hy with rfl | hy
        · omega
        · exact h1 y hy
theorem sortU_pw : ∀ ks : List Int, (sortU ks).Pairwise (· < ·)
  | [] => .nil
  | k :: ks => insU_pw k (sortU_pw ks)
theorem pw_mem_eq : ∀ {xs ys : List Int}, (∀ j, j ∈ xs ↔ j ∈ ys) → xs.Pairwise (· < ·) → ys.Pairwise (· < ·) → xs = ys
  | [], [], _, _, _ => rfl
  | [], y :: ys, p, _, _ => absurd ((p y).mpr List.mem_cons_self) (by simp)
  | x :: xs, [], p, _, _ => absurd ((p x).mp List.mem_cons_self) (by simp)
  | x :: xs, y :: ys, p, h1, h2 => by
    obtain ⟨a1, a2⟩ := List.pairwise_cons.mp h1
    obtain ⟨b1, b2⟩ := List.pairwise_cons.mp h2
    have e : x = y := by
      rcases List.mem_cons.mp ((p x).mp List.mem_cons_self) with e | m1
      · exact e
      rcases List.mem_cons.mp ((p y).mpr List.mem_cons_self) with e | m2
      · exact e.symm
      have := b1 x m1
      have := a1 y m2
      omega
    subst e
    rw [pw_mem_eq (fun j => ?_) a2 b2]
    constructor
    · intro m
      rcases List.mem_cons.mp ((p j).mp (List.mem_cons_of_mem _ m)) with rfl | z
      · exact absurd (a1 _ m) (by omega)
      · exact z
    · intro m
      rcases List.mem_cons.mp ((p j).mpr (List.mem_cons_of_mem _ m)) with rfl | z
      · exact absurd (b1 _ m) (by omega)
      · exact z
theorem sortU_eq {ks ys : List Int} (m : ∀ j, j ∈ ys ↔ j ∈ ks) (h : ys.Pairwise (· < ·)) : ys = sortU ks := pw_mem_eq (fun j => (m j).trans (sortU_mem j ks).symm) h (sortU_pw ks)
theorem intsOf_map : ∀ ks : List Int, intsOf (ks.map .int) = some ks
  | [] => rfl
  | k :: ks => by
    show (intsOf (ks.map .int)).map (k :: ·) = _
    rw [intsOf_map ks]
    rfl
theorem intsOf_eq : ∀ {xs : List D} {ks : List Int}, intsOf xs = some ks → xs = ks.map .int
  | [], ks, e => by cases (show some [] = some ks from e); rfl
  | x :: xs, ks, e => by
    cases x with
    | int k =>
      obtain ⟨js, e1, rfl⟩ := Option.map_eq_some_iff.mp (show (intsOf xs).map (k :: ·) = some ks from e)
      rw [intsOf_eq e1]
      rfl
    | _ => cases e
theorem insU_len (k : Int) (xs : List Int) : (insU k xs).length ≤ xs.length + 1 := by
  induction xs with
  | nil => exact Nat.le_refl _
  | cons x xs ih =>
    unfold insU
    split
    · exact Nat.le_refl _
    · split
      · exact Nat.le_succ _
      · simpa using ih
theorem sortU_len : ∀ ks : List Int, (sortU ks).length ≤ ks.length
  | [] => Nat.le_refl _
  | k :: ks => by
    show (insU k (sortU ks)).length ≤ _
    have := insU_len k (sortU ks)
    have := sortU_len ks
    rw [List.length_cons]
    omega
theorem ev_sorted {E : XE} {h : Hm} {Q : D → Hm → Prop} {x : D} {xs : List D} {ks : List Int} (e : h.seq x = some xs) (k : xs = ks.map .int) (q : Q (.kl ((sortI ks).map .int)) h) : Ev E (bSorted [x] h) Q := by
  unfold bSorted
  simp only [e, k, intsOf_map]
  exact q
theorem ev_sortSet {E : XE} {σ : Env} {h : Hm} {Q : D → Hm → Prop} {a : ME} (q : Ev E (a σ h) fun x h1 => Ev E (sortSetR x h1) Q) : Ev E (eSortSet a σ h) Q := ev_bind q
theorem ev_sortSetR {E : XE} {h : Hm} {Q : D → Hm → Prop} {x : D} {xs : List D} {ks : List Int} (e : h.seq x = some xs) (k : xs = ks.map .int) (l1 : ks.length < MSET) (l2 : (sortU ks).length < 64) (q : Q (.kl ((sortU ks).map .int)) h) : Ev E (sortSetR x h) Q := by
  unfold sortSetR
  simp only [e, k, intsOf_map]
  exact ev_ifR (by rw [decide_eq_true l1, decide_eq_true l2]; rfl) q
theorem ev_sortC {E : XE} {σ : Env} {h : Hm} {Q : D → Hm → Prop} {a : ME} {t : MT} {it : MI} {own is : List Nat} {one : Bool} (q : Ev E (it σ h) fun J h1 => Ev E (setGo (bindC one is) t a J.ok (wipe σ own) J.xs [] h1) fun ks h2 => (sortU ks).length < 64 ∧ Q (.kl ((sortU ks).map .int)) h2) : Ev E (eSortC it own one is t a σ h) Q :=
  ev_bind (q.mono fun J h1 w => ev_bind (w.mono fun ks h2 ⟨l, w⟩ => ev_ifR (decide_eq_true l) w))
/-- a set comprehension that changes nothing: the i-th thing gives f i, or nothing -/
theorem set_inv {E : XE} {σ : Env} {a : ME} {t : MT} {bd : D → Env → Option Env} {ok : Hm → Bool} {Q : List Int → Hm → Prop} (f : D → Option Int) : ∀ (xs : List D) (acc : List Int) (h : Hm), ok h = true → acc.length + xs.length < MSET →
    (∀ d ∈ xs, ∃ σ1, bd d σ = some σ1 ∧ Ev (fun _ _ _ => False) (t σ1 h) fun c h1 => h1 = h ∧ sel c (Ev (fun _ _ _ => False) (a σ1 h) fun y h2 => h2 = h ∧ ∃ k, f d = some k ∧ y = .int k) (f d = none)) →
    Q (acc ++ xs.filterMap f) h → Ev E (setGo bd t a ok σ xs acc h) Q
  | [], acc, h, o, _, _, q => by
    unfold setGo
    exact ev_ifR o (show Q acc h by simpa using q)
  | d :: ds, acc, h, o, l, step, q => by
    unfold setGo
    obtain ⟨σ1, e, w⟩ := step d List.mem_cons_self
    rw [o, e]
    have nxt : ∀ acc, acc.length + ds.length < MSET → Q (acc ++ ds.filterMap f) h → Ev E (setGo bd t a ok σ ds acc h) Q := fun acc l q => set_inv f ds acc h o l (fun d hd => step d (List.mem_cons_of_mem _ hd)) q
    rw [List.length_cons] at l
    refine ev_bind (ev_quiet (w.mono fun c h1 ⟨eh, w⟩ => ?_))
    subst eh
    cases c with
    | false =>
      have w : f d = none := w
      rw [List.filterMap_cons, w] at q
      exact nxt acc (by omega) q
    | true =>
      refine ev_bind (ev_quiet (Ev.mono w fun y h2 ⟨eh, k, ef, ey⟩ => ?_))
      subst eh ey
      rw [List.filterMap_cons, ef] at q
      exact ev_ifR (decide_eq_true (by omega)) (nxt (acc ++ [k]) (by rw [List.length_append, List.length_singleton]; omega) (by simpa using q))
/-! ### len, repr of an own instance -/
def ownM (ms : List (Nat × Fn)) (h : Hm) : D → Option Fn
  | .loc l => match h.g l with
    | some (.ins c _) => pickF c ms
    | _ => none
  | _ => none
def chkLen (v : D) (h : Hm) : R D := match v with
  | .int i => ifR (decide (0 ≤ i ∧ i < 2 ^ 63)) (.ok (.int i) h)
  | _ => .bad
def chkStr (v : D) (h : Hm) : R D := match v with
  | .str x => .ok (.str x) h
  | _ => .bad
def bOwn1 (ms : List (Nat × Fn)) (chk : D → Hm → R D) (b : Bi) : Bi := fun ds h => match ds with
  | [x] => match ownM ms h x with
    | some F => (F [x] h).quiet.bind chk
    | none => b [x] h
  | ds => b ds h
def bLenU (ms : List (Nat × Fn)) : Bi := bOwn1 ms chkLen bLen
def bReprU (ms : List (Nat × Fn)) : Bi := bOwn1 ms chkStr bRepr
/-- str(x) of a number or a text -/
def bStr : Bi
  | [.int i], h => ifR (decide (i.natAbs.log2 < 1920)) (.ok (.str (toString i)) h)
  | [.str x], h => .ok (.str x) h
  | _, _ => .bad
/-- a place of an f-string -/
def fmtR (x : D) (h : Hm) : R D := match x with
  | .int i => ifR (decide (i.natAbs.log2 < 1920)) (.ok (.str (toString i)) h)
  | .str y => ifR (decide (y.length ≤ SL)) (.ok (.str y) h)
  | _ => .bad
def eFmt (a : ME) : ME := fun σ h => (a σ h).bind fmtR
def joinGo : List ME → Str → Env → Hm → R D
  | [], acc, _, h => .ok (.str acc) h
  | m :: ms, acc, σ, h => (m σ h).bind fun x h1 => match x with
    | .str y => ifR (decide ((acc ++ y).length ≤ SL)) (joinGo ms (acc ++ y) σ h1)
    | _ => .bad
def eFs (ps : List ME) : ME := fun σ h => joinGo ps Str.empty σ h
theorem ev_own1 {E : XE} {h : Hm} {Q : D → Hm → Prop} {ms : List (Nat × Fn)} {chk : D → Hm → R D} {b : Bi} {l c : Nat} {fs : List (Str × D)} {F : Fn} (e : h.g l = some (.ins c fs)) (k : pickF c ms = some F) (q : Ev (fun _ _ _ => False) (F [.loc l] h) fun v h1 => Ev E (chk v h1) Q) : Ev E (bOwn1 ms chk b [.loc l] h) Q := by
  unfold bOwn1 ownM
  simp only [e, k]
  exact ev_bind (ev_quiet q)
theorem ev_own0 {E : XE} {h : Hm} {Q : D → Hm → Prop} {ms : List (Nat × Fn)} {chk : D → Hm → R D} {b : Bi} {x : D} (e : ownM ms h x = none) (q : Ev E (b [x] h) Q) : Ev E (bOwn1 ms chk b [x] h) Q := by
  unfold bOwn1
  simp only [e]
  exact q
theorem ownM_lst {h : Hm} {ms : List (Nat × Fn)} {l : Nat} {xs : List D} (e : h.g l = some (.lst xs)) : ownM ms h (.loc l) = none := by
  unfold ownM
  simp only [e]
theorem ownM_dic {h : Hm} {ms : List (Nat × Fn)} {l : Nat} {xs : List (Key × D)} (e : h.g l = some (.dic xs)) : ownM ms h (.loc l) = none := by
  unfold ownM
  simp only [e]
theorem ev_chkLen {E : XE} {h : Hm} {Q : D → Hm → Prop} {i : Int} (k : 0 ≤ i ∧ i < 2 ^ 63) (q : Q (.int i) h) : Ev E (chkLen (.int i) h) Q := ev_ifR (decide_eq_true k) q
theorem ev_chkStr {E : XE} {h : Hm} {Q : D → Hm → Prop} {x : Str} (q : Q (.str x) h) : Ev E (chkStr (.str x) h) Q := q
theorem ev_strI {E : XE} {h : Hm} {Q : D → Hm → Prop} {i : Int} (k : i.natAbs.log2 < 1920) (q : Q (.str (toString i)) h) : Ev E (bStr [.int i] h) Q := ev_ifR (decide_eq_true k) q
theorem ev_strS {E : XE} {h : Hm} {Q : D → Hm → Prop} {x : Str} (q : Q (.str x) h) : Ev E (bStr [.str x] h) Q := q
/-! ### rules -/
theorem ev_isR {E : XE} {h : Hm} {Q : D → Hm → Prop} {tb : List (String × Bool)} {to tx : List (Nat × Bool)} {x : D} {b : Bool} (e : isK tb to tx x h = some b) (q : Q (.bl b) h) : Ev E (isR tb to tx x h) Q := by
  unfold isR
  rw [e]
  exact q
theorem ev_is {E : XE} {σ : Env} {h : Hm} {Q : D → Hm → Prop} {tb : List (String × Bool)} {to tx : List (Nat × Bool)} {a : ME} (q : Ev E (a σ h) fun x h1 => Ev E (isR tb to tx x h1) Q) : Ev E (eIs tb to tx a σ h) Q := ev_bind q
theorem isK_xc {h : Hm} {l c m : Nat} {fs : List (Str × D)} {tb : List (String × Bool)} {to tx : List (Nat × Bool)} {b : Bool} (e : h.g l = some (.xc c m)) (e2 : h.g m = some (.xd fs)) (k : lookN c tx = some b) : isK tb to tx (.loc l) h = some b := by
  unfold isK tyD
  simp only [e, e2]
  exact k
theorem isK_ins {h : Hm} {l c : Nat} {fs : List (Str × D)} {tb : List (String × Bool)} {to tx : List (Nat × Bool)} {b : Bool} (e : h.g l = some (.ins c fs)) (k : lookN c to = some b) : isK tb to tx (.loc l) h = some b := by
  unfold isK tyD
  simp only [e]
  exact k
theorem isK_xn {h : Hm} {l c : Nat} {tb : List (String × Bool)} {to tx : List (Nat × Bool)} {b : Bool} (e : h.g l = some (.xn c)) (k : lookN c tx = some b) : isK tb to tx (.loc l) h = some b := by
  unfold isK tyD
  simp only [e]
  exact k
theorem isK_dt {h : Hm} {l : Nat} {kvs : List (List Key × D)} {tb : List (String × Bool)} {to tx : List (Nat × Bool)} {b : Bool} (e : h.g l = some (.dt kvs)) (k : lookS "dict" tb = some b) : isK tb to tx (.loc l) h = some b := by
  unfold isK tyD
  simp only [e]
  exact k
theorem isK_odd {h : Hm} {l : Nat} {tb : List (String × Bool)} {to tx : List (Nat × Bool)} {b : Bool} (e : h.g l = some .odd) (k : lookS "dict" tb = some b) : isK tb to tx (.loc l) h = some b := by
  unfold isK tyD
  simp only [e]
  exact k
theorem isK_ty {h : Hm} {x : D} {t : String} {tb : List (String × Bool)} {to tx : List (Nat × Bool)} {b : Bool} (e : tyD h x = some t) (k : lookS t tb = some b) : isK tb to tx x h = some b := by
  unfold isK
  simp only [e]
  exact k
def SLn (n : Nat) (K : Prop) : Prop := n ≤ SL ∧ K
theorem sln {n : Nat} {K : Prop} (k : n ≤ SL) (q : K) : SLn n K := ⟨k, q⟩
section
variable {E : XE} {σ : Env} {h : Hm} {Q : D → Hm → Prop} {a : ME} {as : MA} {t : MT}
theorem ev_lstK (q : Ev E (as σ h) fun ds h1 => TL ds (Q (.kl ds) h1)) : Ev E (eLstK as σ h) Q := ev_bind (q.mono fun ds h1 w => ev_ifR (decide_eq_true (Nat.le_of_ble_eq_true w.1)) w.2)
theorem ev_compK {it : MI} {own is : List Nat} {one : Bool} (q : Ev E (it σ h) fun J h1 => Ev E (compGo (bindC one is) t a J.ok (wipe σ own) J.xs [] h1) fun acc h2 => Q (.kl acc) h2) : Ev E (eCompK it own one is t a σ h) Q := ev_bind (q.mono fun J h1 w => ev_bind w)
theorem ev_slK {lo hi : MO} (q : Ev E (a σ h) fun x h1 => Ev E (lo σ h1) fun l h2 => Ev E (hi σ h2) fun u h3 => SQ h3 x fun xs => Q (.kl (cutL xs l u)) h3) : Ev E (eSlK a lo hi σ h) Q :=
  ev_bind (q.mono fun x h1 w => ev_bind (w.mono fun l h2 w => ev_bind (w.mono fun u h3 ⟨xs, e, w⟩ => by simp only [e]; exact w)))
def TP (x : D) (K : List D → Prop) : Prop := ∃ xs, x = .tup xs ∧ K xs
theorem tp {xs : List D} {K : List D → Prop} (q : K xs) : TP (.tup xs) K := ⟨xs, rfl, q⟩
theorem ev_slT {lo hi : MO} (q : Ev E (a σ h) fun x h1 => Ev E (lo σ h1) fun l h2 => Ev E (hi σ h2) fun u h3 => TP x fun xs => Q (.tup (cutL xs l u)) h3) : Ev E (eSlT a lo hi σ h) Q :=
  ev_bind (q.mono fun x h1 w => ev_bind (w.mono fun l h2 w => ev_bind (w.mono fun u h3 z => by
    obtain ⟨xs, e, w2⟩ := z
    subst e
    exact w2)))
theorem ev_listKT {ds : List D} (q : Q (.kl ds) h) : Ev E (bListK [.tup ds] h) Q := q
theorem ev_listKK {ds : List D} (q : Q (.kl ds) h) : Ev E (bListK [.kl ds] h) Q := q
theorem ev_listKL {l : Nat} {xs : List D} (e : h.g l = some (.lst xs)) (q : Q (.kl xs) h) : Ev E (bListK [.loc l] h) Q := by
  unfold bListK Hm.seq
  simp only [e]
  exact q
theorem ev_frz (q : Ev E (a σ h) fun x h1 => Ev E (frzR x h1) Q) : Ev E (eFrz a σ h) Q := ev_bind q
theorem ev_frzL {l : Nat} {xs : List D} (e : h.g l = some (.lst xs)) (q : Q (.kl xs) (h.del l)) : Ev E (frzR (.loc l) h) Q := by
  unfold frzR
  simp only [e]
  exact q
theorem ev_frzK {xs : List D} (q : Q (.kl xs) h) : Ev E (frzR (.kl xs) h) Q := q
theorem ev_frzT {xs : List D} (q : Q (.tup xs) h) : Ev E (frzR (.tup xs) h) Q := q
theorem ev_addKI {i j : Int} (q : Q (.int (i + j)) h) : Ev E (opAddK (.int i) (.int j) h) Q := q
theorem ev_addMI {i j : Int} (q : Q (.int (i + j)) h) : Ev E (opAddM (.int i) (.int j) h) Q := q
theorem ev_addII {i j : Int} (q : Q (.int (i + j)) h) : Ev E (opAddI (.int i) (.int j) h) Q := q
theorem ev_addKS {x y : Str} (k : x.length + y.length ≤ SL) (q : Q (.str (x ++ y)) h) : Ev E (opAddK (.str x) (.str y) h) Q := ev_ifR (decide_eq_true k) q
theorem ev_addMS {x y : Str} (k : x.length + y.length ≤ SL) (q : Q (.str (x ++ y)) h) : Ev E (opAddM (.str x) (.str y) h) Q := ev_ifR (decide_eq_true k) q
theorem ev_addKT {x y : List D} (k : x.length + y.length ≤ SL) (q : Q (.tup (x ++ y)) h) : Ev E (opAddK (.tup x) (.tup y) h) Q := ev_ifR (decide_eq_true k) q
theorem ev_addMT {x y : List D} (k : x.length + y.length ≤ SL) (q : Q (.tup (x ++ y)) h) : Ev E (opAddM (.tup x) (.tup y) h) Q := ev_ifR (decide_eq_true k) q
theorem ev_addKK {x y : List D} (k : x.length + y.length ≤ SL) (q : Q (.kl (x ++ y)) h) : Ev E (opAddK (.kl x) (.kl y) h) Q := ev_ifR (decide_eq_true k) q
theorem ev_addKs {x y : D} {xs ys : List D} (e1 : h.seq x = some xs) (e2 : h.seq y = some ys) (k : xs.length + ys.length ≤ SL) (q : Q (.kl (xs ++ ys)) h) : Ev E (opAddK x y h) Q := by
  unfold opAddK
  split <;> first | (cases e1; done) | skip
  simp only [e1, e2]
  exact ev_ifR (decide_eq_true k) q
theorem ev_addMs {x y : D} {xs ys : List D} (e1 : h.seq x = some xs) (e2 : h.seq y = some ys) (k : xs.length + ys.length ≤ SL) (q : Q (.loc h.n) (h.new (.lst (xs ++ ys)))) : Ev E (opAddM x y h) Q := by
  unfold opAddM
  split <;> first | (cases e1; done) | skip
  simp only [e1, e2]
  exact ev_ifR (decide_eq_true k) q
theorem ev_mulK {i j : Int} (k : (-(2 ^ 64) < i ∧ i < 2 ^ 64) ∨ (-(2 ^ 64) < j ∧ j < 2 ^ 64)) (q : Q (.int (i * j)) h) : Ev E (opMulK (.int i) (.int j) h) Q := ev_ifR (decide_eq_true k) q
theorem ev_repK {l : Nat} {xs : List D} {k : Int} (e : h.g l = some (.lst xs)) (k1 : -(2 ^ 63) ≤ k ∧ k < 2 ^ 63 ∧ xs.length * k.toNat ≤ SL) (q : Q (.kl (List.replicate k.toNat xs).flatten) h) : Ev E (opMulK (.loc l) (.int k) h) Q := by
  unfold opMulK
  simp only [e]
  exact ev_ifR (decide_eq_true k1) q
end
/-! ### heaps -/
section
variable {h : Hm} {l k : Nat} {o : O}
theorem del_ne (e : k ≠ l) : (h.del l).g k = h.g k := by unfold Hm.del; simp [e]
theorem del_n : (h.del l).n = h.n := rfl
end
/-- what stood ahead, but where S says, is as it was -/
structure Fz (S : Nat → Prop) (h h' : Hm) : Prop where
  n : h.n ≤ h'.n
  g : ∀ l, l < h.n → ¬ S l → h'.g l = h.g l
section
variable {S T : Nat → Prop} {h h1 h2 : Hm}
theorem Fz.refl (S : Nat → Prop) (h : Hm) : Fz S h h := ⟨Nat.le_refl _, fun _ _ _ => rfl⟩
theorem Fz.at (f : Fz S h h1) {l : Nat} {o : Option O} (k : l < h.n) (n : ¬ S l) (e : h.g l = o) : h1.g l = o := (f.g l k n).trans e
theorem Fz.new (a : Fz S h h1) (o : O) : Fz S h (h1.new o) := ⟨Nat.le_succ_of_le a.n, fun l k1 k2 => (new_ne (Nat.ne_of_lt (Nat.lt_of_lt_of_le k1 a.n))).trans (a.g l k1 k2)⟩
theorem Fz.put (a : Fz S h h1) {l : Nat} (o : O) (k : S l ∨ h.n ≤ l) : Fz S h (h1.put l o) := ⟨a.n, fun m k1 k2 => (put_ne (fun e => by
  subst e
  rcases k with k | k
  · exact k2 k
  · omega)).trans (a.g m k1 k2)⟩
theorem Fz.del (a : Fz S h h1) {l : Nat} (k : S l ∨ h.n ≤ l) : Fz S h (h1.del l) := ⟨a.n, fun m k1 k2 => (del_ne (fun e => by
  subst e
  rcases k with k | k
  · exact k2 k
  · omega)).trans (a.g m k1 k2)⟩
theorem Fz.after (a : Fz S h h1) (b : Fz T h1 h2) (k : ∀ l, T l → l < h.n → S l) : Fz S h h2 := ⟨Nat.le_trans a.n b.n, fun l k1 k2 => (b.g l (Nat.lt_of_lt_of_le k1 a.n) fun z => k2 (k l z k1)).trans (a.g l k1 k2)⟩
theorem Fz.mono (a : Fz S h h1) (k : ∀ l, S l → l < h.n → T l) : Fz T h h1 := ⟨a.n, fun l k1 k2 => a.g l k1 fun z => k2 (k l z k1)⟩
end
end Mo
end
section
/-! Lists that nothing changes any more. -/
namespace Mo
open PySem L2 PyProof.Rows He
section
variable {X : Cx} {e : Expr} {st : Stmt} {t : TE} {ts : TS}
/-- a list that is left alone -/
def Leave (Q : V → Hp → Prop) : V → Hp → Prop := fun v H1 => ∃ a vs, v = .ref a ∧ H1 a = some (.lst vs) ∧ ∀ o, Q v (upd H1 a (.frz o (.lst vs)))
theorem pe_frzO (h : PE X e t) : PE X e (fun σ H Q => t σ H fun v H1 => Leave Q v H1 ∨ Q v H1) := by
  refine ⟨fun pins s σ H Q I hw => ?_⟩
  refine thn (h.run pins s σ _ _ I hw) fun v s1 ⟨x, H1, I1, r, q⟩ => ?_
  rcases q with ⟨a, vs, e0, e1, q⟩ | q
  · obtain ⟨od, I2⟩ := I1.lock e1 trivial
    exact ⟨x, _, I2, r, q od⟩
  · exact ⟨x, _, I1, r, q⟩
theorem pe_frz (h : PE X e t) : PE X e (fun σ H Q => t σ H (Leave Q)) := by
  refine ⟨fun pins s σ H Q I hw => ?_⟩
  refine thn (h.run pins s σ _ _ I hw) fun v s1 ⟨x, H1, I1, r, a, vs, e0, e1, q⟩ => ?_
  obtain ⟨od, I2⟩ := I1.lock e1 trivial
  exact ⟨x, _, I2, r, q od⟩
theorem ps_frz (h : PS X st ts) : PS X st (fun D σ H => ts { D with nx := fun σ' H' => ∃ a vs, H' a = some (.lst vs) ∧ ∀ o, D.nx σ' (upd H' a (.frz o (.lst vs))) } σ H) := by
  refine ⟨fun pins s σ H D I hw => ?_⟩
  refine thn (h.run pins s σ _ _ I hw) fun f s1 q => ?_
  cases f with
  | next =>
    obtain ⟨σ', H', I1, a, vs, e1, q⟩ := q
    obtain ⟨od, I2⟩ := I1.lock e1 trivial
    exact ⟨σ', _, I2, q od⟩
  | _ => exact q
end
section
variable {G : Gm} {E : WM} {X : Cx} {a b c : Expr} {ma mb mc : ME} {pos : Pos} {as : MA} {es : List Expr}
theorem mut_lst {vs : List V} : Mut (some (.lst vs)) := trivial
/-- an object that came in stands aside, known from now on -/
theorem Grow.lock {ρ : List Addr} {H : Hp} {p : Addr} {vs : List V} (hu : H p = some (.lst vs)) (hn : p ∉ ρ) (o : Obj) : Ext ρ H ρ (upd H p (.frz o (.lst vs))) := by
  refine ⟨⟨[], by simp⟩, fun b xs e => ?_, fun b o v e => ?_⟩
  · rw [upd_ne (ne_of e hu (by rintro ⟨⟩))]; exact e
  · rw [upd_ne (ne_of e hu (by rintro ⟨⟩))]; exact e
theorem Leave.new {E' : XK} {ρ : List Addr} {H : Hp} {h : Hm} {ds : List D} {vs : List V} {Q : VK} (w : Wp G E' (VRel G) (.ok (.kl ds) h) ρ H Q) (r : HRel G ρ H h) (q : VRels G ρ H vs ds) {p : Addr} (hp : H p = none) : Leave Q (.ref p) (upd H p (.lst vs)) := by
  refine ⟨p, vs, rfl, upd_same, fun o => ?_⟩
  rw [upd_upd]
  have g := Grow.tmp (ρ := ρ) hp (.frz o (.lst vs))
  exact w ρ _ _ g (r.tmp hp _) (.kl (.inl ⟨o, upd_same⟩) (q.grow g))
theorem me_lstK (h : PA X es (rdA G E as)) : PE X (.List es pos) (rd G E (eLstK as)) :=
  pe_w (pe_frz (pe_lst h)) fun σ H Q ⟨ρ, env, hh, hs, hr, w⟩ => ⟨ρ, env, hh, hs, hr, w.seq fun ds h1 ρ1 H1 vs g1 r1 q1 w1 => by
    obtain ⟨c, w2⟩ := w1.ifR
    have c := of_decide_eq_true c
    exact ⟨by rw [q1.length]; exact sl_le c, fun p hp => Leave.new w2 r1 q1 hp⟩⟩
theorem me_slK {lo hi : Option Expr} {ml mh : MO} {p2 : Pos} (hK : X.K = G.K) (ha : PE X a (rd G E ma)) (hl : PO X lo (rdO G E ml)) (hh : PO X hi (rdO G E mh)) : PE X (.Subscript a (.Slice lo hi none p2) pos) (rd G E (eSlK ma ml mh)) :=
  pe_w (pe_frz (pe_slice sl_list ha hl hh)) fun σ H Q ⟨ρ, env, h, hs, hr, w⟩ => ⟨ρ, env, h, hs, hr, w.seq fun x h1 ρ1 H1 v g1 r1 q1 w1 => ⟨ρ1, env, h1, hs.grow g1, r1, w1.seq fun y h2 ρ2 H2 u g2 r2 q2 w2 =>
    ⟨ρ2, env, h2, (hs.grow g1).grow g2, r2, w2.seq fun z h3 ρ3 H3 t g3 r3 q3 w3 => by
      cases q2
      cases q3
      split at w3
      · rename_i xs e
        obtain ⟨p, vs, rfl, hl, qs⟩ := r3.seqL e ((q1.grow g2).grow g3)
        rw [hK]
        exact ⟨p, vs, rfl, hl, fun p' hp => Leave.new w3 r3 (cut_rel qs _ _) hp⟩
      · exact False.elim w3⟩⟩⟩
theorem bs_listK {X : Cx} : BiS G E (fun xs H Q => ∃ p ys, xs = [.ref p] ∧ (SqL G.K H p ys ∨ SqT G.K H p ys) ∧ ∀ l, H l = none → Leave Q (.ref l) (upd H l (.lst ys))) bListK := by
  intro τ ρ H h ds vs Q r q w
  unfold bListK at w
  split at w
  · obtain ⟨v, rfl, k⟩ := vs1 q
    cases k with
    | tup h1 h2 => exact ⟨_, _, rfl, .inr h1, fun l hl => Leave.new w r h2 hl⟩
  · obtain ⟨v, rfl, k⟩ := vs1 q
    split at w
    · rename_i xs e
      obtain ⟨p, ws, rfl, h1, h2⟩ := r.seqL e k
      exact ⟨p, ws, rfl, .inl h1, fun l hl => Leave.new w r h2 hl⟩
    · exact False.elim w
  · exact False.elim w
/-- list(x), left alone -/
theorem me_listK {x : Str} {p : Pos} (hK : X.K = G.K) (hg : Gl X x) (hm : X.mg x = none) (hv : bootBuiltins x = some (.type "list")) (ha : PA X (a :: es) (rdA G E as)) (hn : x ≠ "__name__" := by decide) (hdb : (x == ("__debug__" : Str)) = false := by decide)
    (he : starEach (a :: es) X.env = (false, eval a X.env) :: starEach es X.env := by rfl) (hpl : (backTo pos (starEach es X.env)).any (·.1) = false := by rfl) : PE X (.Call (.Name x p) (a :: es) [] pos) (rd G E (eBi bListK as)) :=
  pe_w (pe_frz (pe_callTy call_list_of hg hm hv ha hn hdb he hpl)) fun σ H Q ⟨ρ, env, h, hs, hr, w⟩ => ⟨ρ, env, h, hs, hr, w.seq fun x h1 ρ1 H1 v g1 r1 q1 w1 => by
    rw [hK]
    exact bs_listK (X := X) σ ρ1 H1 h1 x v Q r1 q1 w1⟩
theorem leave_comp {E' : XK} {ρ1 ρ2 : List Addr} {H1 H2 : Hp} {h2 : Hm} {L : Addr} {acc : List V} {dacc : List D} {Q : VK} (hL : H1 L = none) (g2 : Grow ρ1 H1 ρ2 H2) (r2 : HRel G ρ2 H2 h2) (n2 : L ∉ ρ2) (e2 : H2 L = some (.lst acc)) (q2 : VRels G ρ2 H2 acc dacc)
    (w2 : Wp G E' (VRel G) (.ok (.kl dacc) h2) ρ1 H1 Q) : Leave Q (.ref L) H2 := by
  refine ⟨L, acc, rfl, e2, fun o => ?_⟩
  obtain ⟨r3, x3⟩ := r2.aside (u' := .frz o (.lst acc)) n2 e2 trivial
  refine w2 ρ2 _ _ ⟨g2.pre, fun b xs e => ?_, fun b u v e => ?_, fun b u e n kt => ?_⟩ r3 (.kl (.inl ⟨o, upd_same⟩) (q2.ext x3))
  · rw [upd_ne (ne_of_none e hL)]; exact g2.tup b xs e
  · rw [upd_ne (ne_of_none e hL)]; exact g2.frz b u v e
  · rw [upd_ne (ne_of_none e hL)]; exact g2.out b u e n kt
theorem rd_compK {mi : MI} {own : List Nat} {one : Bool} {is : List Nat} {t : MT} {g : TG} (hb : BdOk G (bindC one is) g own) (σ : L2.St) (H : Hp) (Q : VK) (w : rd G E (eCompK mi own one is t ma) σ H Q) : tLc (rdI G E mi) g (rdT G EW t) (rd G EW ma) own σ H (Leave Q) :=
  rd_compG (fun acc h2 => .ok (.kl acc) h2) hb σ H Q (Leave Q) (fun ρ1 H1 ρ2 H2 h2 L acc dacc hL g2 r2 n2 e2 q2 w2 => leave_comp hL g2 r2 n2 e2 q2 w2) w
section
variable {tg it elt : Expr} {ifs : List Expr} {scope : Scope} {own : List (Str × Nat)} {mi : MI} {t : MT} {one : Bool} {is : List Nat} {g : TG}
theorem me_compK (hc : X.calm = true) (hN : X.N.Nodup) (hi : PI X tg it (rdI G E mi)) (ok : BlkOk X.N X.env.scope scope own) (hbd : BdOk G (bindC one is) g (own.map (·.2)))
    (hg : ∀ (s : Shared) (H : Hp) (C : Addr) (cl : List (Str × Addr)) (fp : List Addr), PG (X.blk s H scope (compEnvC scope cl C X.env) fp) tg g) (ht : ∀ (s : Shared) (H : Hp) (C : Addr) (cl : List (Str × Addr)) (fp : List Addr), PTs (X.blk s H scope (compEnvC scope cl C X.env) fp) ifs (rdT G EW t))
    (he : ∀ (s : Shared) (H : Hp) (C : Addr) (cl : List (Str × Addr)) (fp : List Addr), PE (X.blk s H scope (compEnvC scope cl C X.env) fp) elt (rd G EW ma)) (hs : ∀ x, foldedSetIterable it X.env x = pure x := by intro _; rfl) :
    PE X (.ListComp elt [⟨tg, it, ifs, 0⟩] scope pos) (rd G E (eCompK mi (own.map (·.2)) one is t ma)) := pe_w (pe_frz (pe_lc hc hN hi ok hg ht he hs)) (rd_compK hbd)
theorem ms_setCompK (i : Nat) {y : Str} {py spos : Pos} (hc : X.calm = true) (hN : X.N.Nodup) (hy : X.N[i]? = some y) (hyl : X.env.scope.names.lookup y = some .local) (hsw : swapsWith (.ListComp elt [⟨tg, it, ifs, 0⟩] scope pos) (some (.Name y py)) spos.line X.env = pure true)
    (hi : PI X tg it (rdI G E mi)) (ok : BlkOk X.N X.env.scope scope own) (hbd : BdOk G (bindC one is) g (own.map (·.2)))
    (hg : ∀ (s : Shared) (H : Hp) (C : Addr) (cl : List (Str × Addr)) (fp : List Addr), PG (X.blk s H scope (compEnvC scope cl C X.env) fp) tg g) (ht : ∀ (s : Shared) (H : Hp) (C : Addr) (cl : List (Str × Addr)) (fp : List Addr), PTs (X.blk s H scope (compEnvC scope cl C X.env) fp) ifs (rdT G EW t))
    (he : ∀ (s : Shared) (H : Hp) (C : Addr) (cl : List (Str × Addr)) (fp : List Addr), PE (X.blk s H scope (compEnvC scope cl C X.env) fp) elt (rd G EW ma)) (hs : ∀ x, foldedSetIterable it X.env x = pure x := by intro _; rfl) :
    PS X (.Assign [.Name y py] (.ListComp elt [⟨tg, it, ifs, 0⟩] scope pos) spos) (rdS G E (sAsg (eCompK mi (own.map (·.2)) one is t ma) (gN i))) :=
  ps_w (ps_frz (ps_setLc hc hN hy hyl hsw hi ok hg ht he hs)) fun D σ H ⟨ρ, env, h, hs, hr, w⟩ => by
    let Q : VK := fun v H1 => D.nx (σ.set i (some v)) H1
    refine rd_compG (fun acc h2 => .ok (.kl acc) h2) hbd σ H Q (fun v H1 => ∃ a vs, H1 a = some (.lst vs) ∧ ∀ o, Q v (upd H1 a (.frz o (.lst vs)))) (fun ρ1 H1 ρ2 H2 h2 L acc dacc hL g2 r2 n2 e2 q2 w2 => ?_) ⟨ρ, env, h, hs, hr, ?_⟩
    · obtain ⟨a, vs, e0, e1, q⟩ := leave_comp (Q := Q) hL g2 r2 n2 e2 q2 w2
      exact ⟨a, vs, e1, q⟩
    · exact Wp.stm hs w fun x h1 ρ1 H1 v g1 r1 q1 w1 => (show WpS G E (.nx (env.set i (some x)) h1) ρ1 H1 D from w1) ρ1 H1 _ (Grow.refl _ _) r1 ((hs.grow g1).set q1 i)
end
/-! ### freeze -/
theorem Grow.frzAt {ρ : List Addr} {H : Hp} {h : Hm} (r : HRel G ρ H h) {l : Nat} {p : Addr} {vs : List V} (hl : ρ[l]? = some p) (hu : H p = some (.lst vs)) (o : Obj) : Grow ρ H ρ (upd H p (.frz o (.lst vs))) ∧ HRel G ρ (upd H p (.frz o (.lst vs))) (h.del l) := by
  have g := Grow.put r hl hu trivial (.frz o (.lst vs))
  refine ⟨g, r.len, r.inj, fun b m => ?_, fun k v e => ?_, r.tabs.put hu trivial, fun q hq => (r.root q hq).trans g.ext⟩
  · by_cases hb : b = p
    · exact ⟨_, by rw [hb]; exact upd_same⟩
    · obtain ⟨u, e⟩ := r.has b m
      exact ⟨u, by rw [upd_ne hb]; exact e⟩
  · have e' : (if k = l then none else h.g k) = some v := e
    by_cases hk : k = l
    · rw [if_pos hk] at e'
      cases e'
    · rw [if_neg hk] at e'
      obtain ⟨b, e1, q1⟩ := r.obj k v e'
      refine ⟨b, e1, q1.grow g (upd_ne ?_)⟩
      rintro rfl
      exact hk (r.inj k l b e1 hl)
theorem me_frz (h : PE X a (rd G E ma)) : PE X a (rd G E (eFrz ma)) :=
  pe_w (pe_frzO h) fun σ H Q ⟨ρ, env, hh, hs, hr, w⟩ => ⟨ρ, env, hh, hs, hr, by
    have k : Wp G (atW E σ) (VRel G) (ma env hh) ρ H (fun v H1 => Leave Q v H1 ∨ Q v H1) := w.seq fun x h1 ρ1 H1 v g1 r1 q1 w1 => by
      unfold frzR at w1
      split at w1
      · split at w1 <;> first | exact False.elim w1 | skip
        rename_i l xs e
        cases q1 with
        | @loc p _ hl =>
          obtain ⟨vs, e2, k2⟩ := r1.at e hl
          refine .inl ⟨p, vs, rfl, e2, fun o => ?_⟩
          obtain ⟨g, r2⟩ := Grow.frzAt r1 hl e2 o
          exact w1 ρ1 _ _ g r2 (.kl (.inl ⟨o, upd_same⟩) (k2.grow g))
      · exact .inr (Wp.val w1 r1 q1)
    exact k⟩
/-! ### lists put together -/
def LX (K : PySem.W.Frag) (H : Hp) (p : Addr) (xs : List V) : Prop := H p = some (.lst xs) ∨ SqK K H p xs
theorem lx_at {pins : List (Addr × Obj)} {σ : L2.St} {H : Hp} {s : Shared} {p : Addr} {xs : List V} (I : Inv X pins σ H s) (h : LX X.K H p xs) : xs.length ≤ sizeLine ∧ ∃ (its : List Value) (n : Nat), Vals xs its ∧ xs.length = its.length ∧ s.heap.get? p = some { cls := .type "list", data := .seq its.toArray n } := by
  rcases h with h | ⟨o, h⟩ | ⟨its, n, h1, h2, h3⟩
  · exact I.lstM h
  · obtain ⟨z, its, n, r, e⟩ := (Rd.ok (.inr ⟨o, h⟩) I.hok : ObjOk X.prog X.w H s.heap p (.lst xs))
    exact ⟨z, its, n, r, r.length, e⟩
  · refine ⟨?_, its.toList, n, h3, h3.length, by simpa using I.kIn p _ h1⟩
    have e := h3.length
    simp only [Array.length_toList] at e
    omega
theorem seq_lx {ρ : List Addr} {H : Hp} {h : Hm} (r : HRel G ρ H h) {x : D} {v : V} {ds : List D} (e : h.seq x = some ds) (q : VRel G ρ H v x) : ∃ p vs, v = .ref p ∧ LX G.K H p vs ∧ VRels G ρ H vs ds := by
  cases q with
  | kl h1 h2 =>
    cases (show some _ = some ds from e)
    exact ⟨_, _, rfl, .inr h1, h2⟩
  | @loc p l ha =>
    have e' : (match h.g l with | some (.lst xs) => some xs | _ => none) = some ds := e
    split at e'
    · rename_i xs e1
      cases e'
      obtain ⟨vs, e2, q⟩ := r.at e1 ha
      exact ⟨p, vs, rfl, .inl e2, q⟩
    · cases e'
  | _ => cases e
def rCatX (K : PySem.W.Frag) : R2 := fun x y H Q => ∃ p q xs zs, x = .ref p ∧ y = .ref q ∧ LX K H p xs ∧ LX K H q zs ∧ xs.length + zs.length ≤ sizeLine ∧ ∀ p', H p' = none → Q (.ref p') (upd H p' (.lst (xs ++ zs)))
theorem op_catX : OpR X (binaryOp .Add) (rCatX X.K) := by
  intro pins s σ H x y v u Q I rx ry h
  obtain ⟨p, q, xs, zs, rfl, rfl, hp, hq, hz, k⟩ := h
  cases rx
  cases ry
  obtain ⟨_, its, n, r, l1, e1⟩ := lx_at I hp
  obtain ⟨_, jts, m, r2, l2, e2⟩ := lx_at I hq
  refine PySem.P.add_list e1 e2 ?_ (by rw [List.size_toArray, List.size_toArray, ← l1, ← l2]; exact hz)
  rw [show its.toArray ++ jts.toArray = (its ++ jts).toArray by simp]
  exact ⟨.ref _, _, I.lnew (t' := s.toks) (r.append r2) (by rw [List.length_append]; exact hz), rfl, k _ I.fresh⟩
/-- all that + is here -/
def rAddX (K : PySem.W.Frag) : R2 := fun x y H Q => rI0 (fun i j => .int (i + j)) x y H Q ∨ (∃ i j, x = .str i ∧ y = .str j ∧ i.length + j.length ≤ sizeLine ∧ Q (.str (i ++ j)) H) ∨ rCatA K x y H Q ∨ rCatX K x y H Q
theorem op_addX : OpR X (binaryOp .Add) (rAddX X.K) := op_add.or (op_add_str.or (op_catA.or op_catX))
end
section
variable {X : Cx} {e : Expr} {t t' : TE}
/-- an operator whose new list is left alone -/
theorem opr_frz {f : Value → Value → Sem Value} {r : R2} (h : OpR X f r) : OpR X f (fun x y H Q => r x y H fun v H1 => Leave Q v H1 ∨ Q v H1) := by
  intro pins s σ H x y v u Q I rx ry hw
  refine thn (h pins s σ H x y v u _ I rx ry hw) fun v s1 ⟨x, H1, I1, r, q⟩ => ?_
  rcases q with ⟨a, vs, e0, e1, q⟩ | q
  · obtain ⟨od, I2⟩ := I1.lock e1 trivial
    exact ⟨x, _, I2, r, q od⟩
  · exact ⟨x, _, I1, r, q⟩
end
section
variable {G : Gm} {E : WM}
theorem os_addW {Q : VK} {ρ : List Addr} {H : Hp} {h : Hm} {x y : D} {v u : V} {E' : XK} {nw : List D → R D} (f : R D) (hf : f = (match x, y with
    | .int i, .int j => .ok (.int (i + j)) h
    | .str a, .str b => ifR (decide (a.length + b.length ≤ SL)) (.ok (.str (a ++ b)) h)
    | .tup a, .tup b => ifR (decide (a.length + b.length ≤ SL)) (.ok (.tup (a ++ b)) h)
    | x, y => match h.seq x, h.seq y with
      | some xs, some ys => ifR (decide (xs.length + ys.length ≤ SL)) (nw (xs ++ ys))
      | _, _ => .bad)) (r : HRel G ρ H h) (q1 : VRel G ρ H v x) (q2 : VRel G ρ H u y) (w : Wp G E' (VRel G) f ρ H Q) (Q' : VK) (hQ : ∀ v H, Q v H → Q' v H)
    (hn : ∀ vs ds p, VRels G ρ H vs ds → H p = none → Wp G E' (VRel G) (nw ds) ρ H Q → Q' (.ref p) (upd H p (.lst vs))) : rAddX G.K v u H Q' := by
  subst hf
  split at w
  · cases q1
    cases q2
    exact .inl ⟨_, _, rfl, rfl, hQ _ _ (w.val r (.int _))⟩
  · cases q1
    cases q2
    obtain ⟨c, w⟩ := Wp.ifR w
    exact .inr (.inl ⟨_, _, rfl, rfl, sl_le (of_decide_eq_true c), hQ _ _ (w.val r (.str _))⟩)
  · cases q1 with
    | tup h1 k1 =>
      cases q2 with
      | tup h2 k2 =>
        obtain ⟨c, w⟩ := Wp.ifR w
        have c := of_decide_eq_true c
        rw [← k1.length, ← k2.length] at c
        have kk := k1.append k2
        refine .inr (.inr (.inl ⟨_, _, _, _, rfl, rfl, h1, h2, sl_le c, fun z => ?_, fun _ z => ?_, fun _ _ p hp => ?_⟩))
        · subst z
          cases k1
          exact hQ _ _ (w.val r (.tup h2 k2))
        · subst z
          cases k2
          rw [List.append_nil] at w
          exact hQ _ _ (w.val r (.tup h1 k1))
        · exact hQ _ _ (w ρ _ _ (Grow.tmp hp _) (r.tmp hp _) (.tup (SqT.of upd_same) (kk.grow (Grow.tmp hp _))))
  · split at w
    · rename_i xs ys e1 e2
      obtain ⟨c, w⟩ := Wp.ifR w
      have c := of_decide_eq_true c
      obtain ⟨p, vs, rfl, hp, k1⟩ := seq_lx r e1 q1
      obtain ⟨q, us, rfl, hq, k2⟩ := seq_lx r e2 q2
      exact .inr (.inr (.inr ⟨p, q, vs, us, rfl, rfl, hp, hq, by rw [k1.length, k2.length]; exact sl_le c, fun p' hp' => hn _ _ _ (k1.append k2) hp' w⟩))
    · exact False.elim w
theorem os_addM : OpS G E (rAddX G.K) opAddM := by
  intro τ ρ H h x y v u Q r q1 q2 w
  exact os_addW (E' := atW E τ) (nw := fun ds => .ok (.loc h.n) (h.new (.lst ds))) (opAddM x y h) rfl r q1 q2 w Q (fun _ _ z => z) fun vs ds p k hp w => w.newL r k hp
theorem os_addK : OpS G E (fun x y H Q => rAddX G.K x y H fun v H1 => Leave Q v H1 ∨ Q v H1) opAddK := by
  intro τ ρ H h x y v u Q r q1 q2 w
  exact os_addW (E' := atW E τ) (nw := fun ds => .ok (.kl ds) h) (opAddK x y h) rfl r q1 q2 w _ (fun _ _ z => .inr z) fun vs ds p k hp w => .inl (Leave.new w r k hp)
theorem os_addI : OpS G E (rI0 fun i j => .int (i + j)) opAddI := os_I0 (fun i j h => ⟨_, rfl, fun _ _ => .int _⟩) fun x y h k => by
  cases x <;> first | rfl | (cases y <;> first | rfl | exact (k _ _ rfl rfl).elim)
theorem os_mulK : OpS G E (fun x y H Q => (fun x y H Q => rI CMul (fun i j => .int (i * j)) x y H Q ∨ rRep x y H Q) x y H fun v H1 => Leave Q v H1 ∨ Q v H1) opMulK := by
  intro τ ρ H h x y v u Q r q1 q2 w
  cases q1 with
  | int i =>
    cases q2 with
    | int j =>
      obtain ⟨c, w⟩ := Wp.ifR w
      exact .inl ⟨i, j, rfl, rfl, (of_decide_eq_true c : (-(2 ^ 64) < i ∧ i < 2 ^ 64) ∨ (-(2 ^ 64) < j ∧ j < 2 ^ 64)), .inr (w.val r (.int _))⟩
    | _ => exact False.elim w
  | loc ha =>
    cases q2 with
    | int k =>
      simp only [opMulK] at w
      split at w <;> first | exact False.elim w | skip
      rename_i e3
      obtain ⟨vs, e5, k5⟩ := r.at e3 ha
      obtain ⟨c, w⟩ := Wp.ifR w
      obtain ⟨c1, c2, c3⟩ := of_decide_eq_true c
      exact .inr ⟨_, k, vs, rfl, rfl, e5, c1, c2, by rw [k5.length]; exact sl_le c3, fun p hp => .inl (Leave.new w r (k5.rep _) hp)⟩
    | _ => exact False.elim w
  | _ => cases q2 <;> exact False.elim w
end
section
variable {G : Gm} {E : WM} {X : Cx} {a b : Expr} {ma mb : ME} {pos : Pos}
theorem me_addM (hK : X.K = G.K) (ha : PE X a (rd G E ma)) (hb : PE X b (rd G E mb)) : PE X (.BinOp a .Add b pos) (rd G E (eOp opAddM ma mb)) := me_op op_addX (by rw [hK]; exact os_addM) ha hb
theorem me_addK (hK : X.K = G.K) (ha : PE X a (rd G E ma)) (hb : PE X b (rd G E mb)) : PE X (.BinOp a .Add b pos) (rd G E (eOp opAddK ma mb)) := me_op (opr_frz op_addX) (by rw [hK]; exact os_addK) ha hb
theorem me_mulK (ha : PE X a (rd G E ma)) (hb : PE X b (rd G E mb)) : PE X (.BinOp a .Mult b pos) (rd G E (eOp opMulK ma mb)) := me_op (opr_frz op_mulU) os_mulK ha hb
end
end Mo
end
section
/-! A clause of many classes. -/
namespace Mo
open PySem L2 PyProof.Rows He PySem.W
section
variable {M : Model} {K : PySem.W.Frag}
theorem all_pass {A : Around} {E : Value → Shared → Prop} {s : Shared} {f : Value → PUnit → Sem (ForInStep PUnit)} : ∀ {cs : List Value} {Q : PUnit → Shared → Prop}, (∀ c ∈ cs, ∀ R : ForInStep PUnit → Shared → Prop, R (.yield ⟨⟩) s → wpAny M A (f c ⟨⟩) R E s) → Q ⟨⟩ s → wpAny M A (forIn cs PUnit.unit f) Q E s
  | [], _, _, q => by rw [List.forIn_nil]; exact wpAny_pure q
  | c :: cs, _, h, q => by
    rw [List.forIn_cons]
    exact wpAny_bind (h c (List.mem_cons_self ..) _ (all_pass (fun d hd => h d (List.mem_cons_of_mem _ hd)) q))
abbrev Fd := Option Bool × Unit
theorem one_hits {A : Around} {E : Value → Shared → Prop} {s : Shared} {f : Value → Fd → Sem (ForInStep Fd)} {cls : Value} {Q : Fd → Shared → Prop} : ∀ {cs : List Value} {b : Bool}, exmAny K cls cs = some b →
    (∀ c ∈ cs, ∀ v, exmOne K cls c = some v → ∀ R : ForInStep Fd → Shared → Prop, R (if v = true then .done ⟨some true, ⟨⟩⟩ else .yield ⟨none, ⟨⟩⟩) s → wpAny M A (f c ⟨none, ⟨⟩⟩) R E s) → Q (if b = true then ⟨some true, ⟨⟩⟩ else ⟨none, ⟨⟩⟩) s → wpAny M A (forIn cs (⟨none, ⟨⟩⟩ : Fd) f) Q E s
  | [], b, e, _, q => by
    cases e
    rw [List.forIn_nil]
    exact wpAny_pure q
  | c :: cs, b, e, h, q => by
    obtain ⟨b1, d1, e1, e2, rfl⟩ := exmAny_cons e
    rw [List.forIn_cons]
    refine wpAny_bind (h c (List.mem_cons_self ..) b1 e1 _ ?_)
    cases b1 with
    | true => exact wpAny_pure q
    | false => exact one_hits e2 (fun d hd => h d (List.mem_cons_of_mem _ hd)) q
theorem exmAny_mem {cls : Value} : ∀ {cs : List Value} {b : Bool}, exmAny K cls cs = some b → ∀ c ∈ cs, ∃ v, exmOne K cls c = some v
  | [], _, _, c, hc => nomatch hc
  | c :: cs, b, e, d, hd => by
    obtain ⟨b1, d1, e1, e2, rfl⟩ := exmAny_cons e
    rcases List.mem_cons.mp hd with rfl | hd
    · exact ⟨_, e1⟩
    · exact exmAny_mem e2 d hd
theorem exm_all {cs : List Value} {cls : Value} {tp e : Addr} {b : Bool} {h : Heap} (X : K.In h) (LT : Looks M h (typeOf (.ref e)) cls) (hp : h.get? tp = some { cls := .type "tuple", data := .seq cs.toArray }) (hx : exmAny K cls cs = some b) :
    Looks M h (excMatches (.ref e) (.ref tp)) b := by
  intro A Q E s k q
  have L0 : Looks M h (isInstance (.ref tp) (.type "tuple")) true := ((Looks.ld hp).andThen .now).andThen (Looks.of_pure isSubtype_tuple_tuple)
  unfold excMatches
  refine wpAny_bind ((L0.keeps k).here ?_)
  rw [if_pos rfl]
  first
    | refine wpAny_bind (wpAny_seqItems (k _ _ hp) rfl ?_)
    | refine wpAny_bind (wpAny_bind (wpAny_seqItems (k _ _ hp) rfl (wpAny_pure ?_)))
  refine wpAny_bind (wpAny_pure ?_)
  dsimp only [Option.getD_some, Option.getD]
  refine wpAny_bind (all_pass (fun c hc R r => ?_) ?_)
  · obtain ⟨v, e1⟩ := exmAny_mem hx c hc
    refine wpAny_bind ((((exm_cls (M := M) X e1).1).keeps k).here ?_)
    exact wpAny_pure r
  · refine wpAny_bind ((LT.keeps k).here ?_)
    refine wpAny_bind (one_hits hx (fun c hc v e1 R r => ?_) ?_)
    · refine wpAny_bind ((((exm_cls (M := M) X e1).2).keeps k).here ?_)
      cases v <;> exact wpAny_pure r
    · cases b <;> exact wpAny_pure q
end
end Mo
end
section
set_option maxHeartbeats 4000000
/-! Own exceptions over any of Python's own kinds: made by a call of their class, whose __init__ is walked as a def. -/
namespace Mo
section
open PySem PySem.W PySem.Calls PyProof.Rows PySem.HandSPX Builtin Builtin.ObjectAttr
variable {prog : Program} {w : World} {A : Around} {R : Result → Shared → Prop} {hp : Heap} {g : Array GenState} {d : Drawn} {t : Nat} {os : OsState} {K : W.Frag} {name : Str} {tk : Tok} {v : Value} {x C : Addr} {fv : Array Value} {cd : ClassData}
/-- the first field: the dict is laid -/
theorem osa_first (X : K.In hp) (hx : hp.get? x = some { cls := .ref C, data := .fields fv }) (hcd : W.clsIn K C = some cd) (pass : ∀ self, refuseLoop self "__setattr__" cd.mro = pure ()) (hob : cd.mro.contains (.type "object") = true) (hne : cd.mro.isEmpty = false) (hh : cd.hasDict = true) (ha : W.findIn K (.ref C) name = some none)
    (hq : ∀ h' tk' dx, (∀ b o, b ≠ x → hp.get? b = some o → h'.get? b = some o) → hp.objs.size ≤ dx → dx ≠ x → h'.get? x = some { cls := .ref C, dict := some dx, data := .fields fv } → h'.Ns1 dx (fun y => if y = name then some v else none) → R (.ok (.ret .none)) ⟨h', g, d, tk', os⟩) :
    codeAny (model prog w) A (.call (.builtin "object.__setattr__") ⟨[.ref x, .str name tk, v], []⟩) R ⟨hp, g, d, t, os⟩ := by
  have J : W.InstAt hp x { cls := .ref C, data := .fields fv } C none := ⟨hx, rfl, rfl, trivial⟩
  have hxs : x ≠ hp.objs.size := Nat.ne_of_lt (Heap.lt_size hx)
  have sub : W.Looks (model prog w) hp (isInstance (.ref x) (.type "object")) true := J.type.andThen (W.looks_mroIn X (by unfold W.mroIn; rw [hcd, Option.bind_some, if_neg (by rw [hne]; decide), hob]))
  refine codeAny_call_builtin F.store_object.slot.plain F.store_object.entry (@W.check_slot (model prog w) _ _ ⟨hp, g, d, t, os⟩ "object.__setattr__" "object" "__setattr__" (.ref x) [.str name tk, v] [] _ F.store_object.kind F.store_object.split sub (F.store_object.args (.ref x) (.str name tk) v) ?_)
  have hmr : W.Looks (model prog w) hp (mroOf (.ref C)) cd.mro := (W.looks_clsIn X hcd).andThen .now
  have ht : W.Looks (model prog w) hp (storeTaker? none) none := .now
  have hcls : W.Looks (model prog w) hp (classData C) cd := W.looks_clsIn X hcd
  rw [W.osa_eq, refuse_eq]
  refine wpAny_bind (wpAny_bind (J.type.at (wpAny_bind (hmr.at ?_))))
  rw [pass]
  refine wpAny_pure (wpAny_bind (J.type.at (wpAny_bind ((W.looks_findIn X ha).at (wpAny_bind (ht.at ?_))))))
  show wpAny _ _ (storeInOwnDict (.ref x) (.ref C) (.str name tk) name v false) _ _ _
  obtain ⟨nm, bs, mro, ns, qn, hd, sn, sb, ab, col, del⟩ := cd
  simp only at hh
  subst hh
  unfold storeInOwnDict ownDictForStores
  repeat (first | (with_reducible refine store_in_new ?_ ?_) | (with_reducible refine wpAny_loadPart_at hx ?_) | (with_reducible refine hcls.at ?_) | wp_step)
  · exact ⟨_, #[], _, Eq.trans (Heap.get?_update_ne _ _ _ _ hxs.symm) (Heap.get?_push_at rfl rfl), rfl, (fun e he => absurd he (by simp)), fun _ => rfl⟩
  · intro h' tk' hn' hs
    have hx1 : (hp.push { cls := .type "dict", data := .dict #[] }).get? x = some { cls := .ref C, data := .fields fv } := Heap.get?_push_of_some _ hx
    refine hq h' tk' hp.objs.size (fun b o hb ho => Eq.trans (hs.2 b (Nat.ne_of_lt (Heap.lt_size ho))) (Eq.trans (Heap.get?_update_ne _ _ _ _ hb) (Heap.get?_push_of_some _ ho))) (Nat.le_refl _) hxs.symm ?_ hn'
    exact Eq.trans (hs.2 x hxs) (Heap.get?_update_self _ hx1 rfl)
/-- a further field -/
theorem osa_more {dx : Addr} {m0 : Str → Option Value} {nl : List Str} (X : K.In hp) (hx : hp.get? x = some { cls := .ref C, dict := some dx, data := .fields fv }) (hns : hp.Ns1 dx m0) (hw : Within m0 nl) (hz : nl.length ≤ 1000) (hcd : W.clsIn K C = some cd) (pass : ∀ self, refuseLoop self "__setattr__" cd.mro = pure ())
    (hob : cd.mro.contains (.type "object") = true) (hne : cd.mro.isEmpty = false) (hh : cd.hasDict = true) (ha : W.findIn K (.ref C) name = some none) (hq : ∀ h' tk', (∀ b o, b ≠ dx → hp.get? b = some o → h'.get? b = some o) → h'.Ns1 dx (fun y => if y = name then some v else m0 y) → R (.ok (.ret .none)) ⟨h', g, d, tk', os⟩) :
    codeAny (model prog w) A (.call (.builtin "object.__setattr__") ⟨[.ref x, .str name tk, v], []⟩) R ⟨hp, g, d, t, os⟩ := by
  obtain ⟨oD, esD, epD, hoD, hdD, hcD⟩ := hns.count hw
  have J : W.InstAt hp x { cls := .ref C, dict := some dx, data := .fields fv } C (some oD) := ⟨hx, rfl, rfl, hoD⟩
  have sub : W.Looks (model prog w) hp (isInstance (.ref x) (.type "object")) true := J.type.andThen (W.looks_mroIn X (by unfold W.mroIn; rw [hcd, Option.bind_some, if_neg (by rw [hne]; decide), hob]))
  refine codeAny_call_builtin F.store_object.slot.plain F.store_object.entry (@W.check_slot (model prog w) _ _ ⟨hp, g, d, t, os⟩ "object.__setattr__" "object" "__setattr__" (.ref x) [.str name tk, v] [] _ F.store_object.kind F.store_object.split sub (F.store_object.args (.ref x) (.str name tk) v) ?_)
  have hmr : W.Looks (model prog w) hp (mroOf (.ref C)) cd.mro := (W.looks_clsIn X hcd).andThen .now
  have ht : W.Looks (model prog w) hp (storeTaker? none) none := .now
  have hcls : W.Looks (model prog w) hp (classData C) cd := W.looks_clsIn X hcd
  rw [W.osa_eq, refuse_eq]
  refine wpAny_bind (wpAny_bind (J.type.at (wpAny_bind (hmr.at ?_))))
  rw [pass]
  refine wpAny_pure (wpAny_bind (J.type.at (wpAny_bind ((W.looks_findIn X ha).at (wpAny_bind (ht.at ?_))))))
  show wpAny _ _ (storeInOwnDict (.ref x) (.ref C) (.str name tk) name v false) _ _ _
  obtain ⟨nm, bs, mro, ns, qn, hd, sn, sb, ab, col, del⟩ := cd
  simp only at hh
  subst hh
  unfold storeInOwnDict ownDictForStores
  repeat (first | (with_reducible refine PySem.OEX.store_in_old hns hw hz ?_) | (with_reducible refine wpAny_loadPart_at hx ?_) | (with_reducible refine hcls.at ?_) | wp_step)
  intro h' tk' hn' hs
  exact hq h' tk' (fun b o hb ho => Eq.trans (hs.2 b hb) ho) hn'
end
section
open PySem L2 PyProof.Rows
/-- what the written part says of an own exception class: tl the mro of the built-in under it -/
structure ExT (K : PySem.W.Frag) (C : Addr) (tl : List Value) (newId : String) : Prop where
  cls : ∃ nm q N bs bm sn sub ab col dd k0 k1 k2 k3 k5, K.lookup C = some (excClassObj nm q C N bs bm true sn sub ab col dd k0 k1 k2 k3 k5 newId) ∧ PySem.W.excTail tl bm = true
  sa : PySem.W.findIn K (.ref C) "__setattr__" = some (some (.builtin "object.__setattr__"))
  exC : PySem.W.subIn K (.ref C) (.type "BaseException") = some true
  tyC : PySem.W.typeIn K (.ref C) = some (.type "type")
  kC : PySem.W.keepIn K (.ref C) = true
/-- the built-in under it -/
structure BaF (B newId initId : String) (tl : List Value) : Prop where
  ex : ExcBaseFacts B newId initId tl
  pass : ∀ self, refuseLoop self "__setattr__" tl = pure ()
  ob : tl.contains (.type "object") = true
theorem ba_TE : BaF "TypeError" "TypeError.__new__" "TypeError.__init__" [.type "TypeError", .type "Exception", .type "BaseException", .type "object"] := ⟨F.excBase_TypeError, F.store_TypeError.passes, by decide +kernel⟩
theorem ba_IE : BaF "IndexError" "IndexError.__new__" "IndexError.__init__" [.type "IndexError", .type "LookupError", .type "Exception", .type "BaseException", .type "object"] := ⟨F.excBase_IndexError, F.store_IndexError.passes, by decide +kernel⟩
theorem ba_AE : BaF "ArithmeticError" "ArithmeticError.__new__" "ArithmeticError.__init__" [.type "ArithmeticError", .type "Exception", .type "BaseException", .type "object"] := ⟨F.excBase_ArithmeticError, F.store_ArithmeticError.passes, by decide +kernel⟩
theorem ba_LE : BaF "LookupError" "LookupError.__new__" "LookupError.__init__" [.type "LookupError", .type "Exception", .type "BaseException", .type "object"] := ⟨F.excBase_LookupError, F.store_LookupError.passes, by decide +kernel⟩
theorem ba_RE : BaF "RuntimeError" "RuntimeError.__new__" "RuntimeError.__init__" [.type "RuntimeError", .type "Exception", .type "BaseException", .type "object"] := ⟨F.excBase_RuntimeError, F.store_RuntimeError.passes, by decide +kernel⟩
theorem ba_VE : BaF "ValueError" "ValueError.__new__" "ValueError.__init__" [.type "ValueError", .type "Exception", .type "BaseException", .type "object"] := ⟨F.excBase_ValueError, F.store_ValueError.passes, by decide +kernel⟩
variable {B newId initId : String} {tl : List Value} {X : Cx} {pins : List (Addr × Obj)} {σ : L2.St} {H : Hp} {s : Shared} {a C dx : Addr} {f : Str} {y : V} {u : Value} {fs : List (Str × V)} {E : Value → Shared → Prop} {A : Around}
/-- self.f = y, the first one -/
theorem xst_new {Q : Unit → Shared → Prop} (Fb : BaF B newId initId tl) (T : ExT X.K C tl newId) (I : Inv X pins σ H s) (e : H a = some (exo a C none)) (hno : PySem.W.findIn X.K (.ref C) f = some none) (ry : RelV y u)
    (h : ∀ dx s', H dx = none → dx ≠ a → Inv X pins σ (upd (upd H dx (exd dx [(f, y)])) a (exo a C (some dx))) s' → Q () s') : wpAny (model X.prog X.w) A (setAttr (.ref a) f u) Q E s := by
  obtain ⟨nm, q, N, bs, bm, sn, sub, ab, col, dd, k0, k1, k2, k3, k5, hC, hbm⟩ := T.cls
  have hcl : PySem.W.clsIn X.K C = some { name := nm, bases := bs, mro := .ref C :: bm, ns := N, qualname := q, hasDict := true, slotNames := sn, subclasses := sub, abstract := ab, collection := col, hasDel := false } := by
    unfold PySem.W.clsIn
    rw [hC] <;> rfl
  obtain ⟨t1, ho⟩ := exo_at I.hok e
  obtain ⟨hp, g, d, t, os⟩ := s
  have tlk : PySem.W.excTail tl (Value.ref C :: bm) = true := hbm
  refine PySem.W.set_plain I.kIn (ox := { cls := .ref C, dict := none, data := .fields #[.ref t1, .none, .none, .none, .bool false, .none] }) (od := none) ⟨ho, rfl, rfl, trivial⟩ T.sa (osa_first I.kIn ho hcl (fun self => PySem.W.excTail_pass self (Fb.pass self) _ tlk) (Eq.trans (PySem.W.excTail_contains "object" _ tlk) Fb.ob) rfl rfl hno fun h' tk' dx k dn dne hx hn => ?_)
  have hnd : H dx = none := I.hok.fresh dn
  have nd : ∀ {b : Addr} {o : Obj}, hp.get? b = some o → b ≠ dx := fun {b o} q => Nat.ne_of_lt (Nat.lt_of_lt_of_le (Heap.lt_size q) dn)
  have na : ∀ {b : Addr}, H b = none → b ≠ a := fun {b} n z => by rw [z, e] at n; cases n
  have U : Un X.fs [] H (upd (upd H dx (exd dx [(f, y)])) a (exo a C (some dx))) hp h' := by
    refine ⟨fun b o q n _ _ => k b o (na n) q, fun b o q n _ _ => ⟨o.slots, k b o (na n) q⟩, fun b o q n _ => ?_, fun b o q _ => ?_, fun b xs q => ?_, fun b o v q => ?_, fun b ps q => ⟨#[], ?_⟩⟩
    · rw [upd_ne (na n), upd_ne (nd q)]; exact n
    · by_cases hb : b = a
      · exact ⟨_, by rw [hb]; exact hx⟩
      · exact ⟨o, k b o hb q⟩
    · rw [upd_ne (at_ne e q exo_tup), upd_ne (ne_of_none q hnd)]; exact q
    · rw [upd_ne (at_ne e q exo_frz), upd_ne (ne_of_none q hnd)]; exact q
    · rw [upd_ne (at_ne e q exo_tbl), upd_ne (ne_of_none q hnd), q]; simp
  refine h dx _ hnd dne (I.un (t' := tk') U fun b o q => ?_)
  by_cases hb : b = a
  · subst hb; rw [upd_same] at q; cases q
    exact exo_ok hx
  · rw [upd_ne hb] at q
    by_cases hd : b = dx
    · subst hd; rw [upd_same] at q; cases q
      exact exd_ok hn (relO_put (fs := []) ry fun g => True.intro)
    · rw [upd_ne hd] at q
      refine (I.hok b o q).stay (fun c v hc z => k c v ?_ z) (fun c hc => ?_) (fun c xs hc => ?_)
      · rcases hc with hc | hc
        · rw [hc]; exact hb
        · exact at_ne e hc exo_own
      · rw [upd_ne (at_ne e hc exo_own), upd_ne (ne_of_none hc hnd)]; exact hc
      · rw [upd_ne (at_ne e hc exo_tup), upd_ne (ne_of_none hc hnd)]; exact hc
/-- self.f = y, a further one -/
theorem xst_old {Q : Unit → Shared → Prop} (Fb : BaF B newId initId tl) (T : ExT X.K C tl newId) (I : Inv X pins σ H s) (e : H a = some (exo a C (some dx))) (ed : H dx = some (exd dx fs)) (hl : fs.length ≤ 900) (hno : PySem.W.findIn X.K (.ref C) f = some none) (ry : RelV y u)
    (h : ∀ s', Inv X pins σ (upd H dx (exd dx ((f, y) :: fs))) s' → Q () s') : wpAny (model X.prog X.w) A (setAttr (.ref a) f u) Q E s := by
  obtain ⟨nm, q, N, bs, bm, sn, sub, ab, col, dd, k0, k1, k2, k3, k5, hC, hbm⟩ := T.cls
  have hcl : PySem.W.clsIn X.K C = some { name := nm, bases := bs, mro := .ref C :: bm, ns := N, qualname := q, hasDict := true, slotNames := sn, subclasses := sub, abstract := ab, collection := col, hasDel := false } := by
    unfold PySem.W.clsIn
    rw [hC] <;> rfl
  obtain ⟨t1, ho⟩ := exo_at I.hok e
  obtain ⟨mA, hns, rel⟩ := exd_at I.hok ed
  have hw := within_of rel
  obtain ⟨hp, g, d, t, os⟩ := s
  obtain ⟨oD, _, _, hoD, _, _⟩ := hns.count hw
  have tlk : PySem.W.excTail tl (Value.ref C :: bm) = true := hbm
  refine PySem.W.set_plain I.kIn (ox := { cls := .ref C, dict := some dx, data := .fields #[.ref t1, .none, .none, .none, .bool false, .none] }) (od := some oD) ⟨ho, rfl, rfl, hoD⟩ T.sa
    (osa_more I.kIn ho hns hw (by rw [List.length_map]; omega) hcl (fun self => PySem.W.excTail_pass self (Fb.pass self) _ tlk) (Eq.trans (PySem.W.excTail_contains "object" _ tlk) Fb.ob) rfl rfl hno fun h' tk' k hn => ?_)
  have hd : ∃ o, h'.get? dx = some o := let ⟨o, _, _, e', _⟩ := hn; ⟨o, e'⟩
  exact h _ (I.write (t' := tk') (x := dx) (e := dx) (o := exd dx ((f, y) :: fs)) (by rw [ed]; exact True.intro) (.inl rfl) k hd (exd_ok hn (relO_put ry rel)))
/-- B.__init__(self, ..): nothing of it is told -/
theorem xinit {us : List Value} {Q : Value → Shared → Prop} (Fb : BaF B newId initId tl) (T : ExT X.K C tl newId) (I : Inv X pins σ H s) (e : H a = some (exo a C none)) (hl : us.length ≤ sizeLine) (h : ∀ s', Inv X pins σ H s' → Q .none s') :
    wpAny (model X.prog X.w) A (call (.builtin initId) (.ref a :: us)) Q E s := by
  obtain ⟨nm, q, N, bs, bm, sn, sub, ab, col, dd, k0, k1, k2, k3, k5, hC, hbm⟩ := T.cls
  obtain ⟨t1, ho⟩ := exo_at I.hok e
  obtain ⟨hp, g, d, t, os⟩ := s
  refine wpAny_call (PySem.HandSPX.init_base Fb.ex (fun Y => PySem.W.excTail_contains Y bm hbm) (I.kIn _ _ hC) ho hl fun h' t2 k hx => ?_)
  have J := I.write (t' := t) (x := a) (e := a) (o := exo a C none) (by rw [e]; exact True.intro) (.inl rfl) k ⟨_, hx⟩ (exo_ok hx)
  have eu : upd H a (exo a C none) = H := funext fun b => by
    by_cases hb : b = a
    · rw [hb, upd_same, e]
    · rw [upd_ne hb]
  rw [eu] at J
  exact h _ J
end
end Mo
end
section
set_option maxHeartbeats 4000000
/-! Raising own exceptions. -/
namespace Mo
open PySem L2 PyProof.Rows He
section
variable {B newId initId : String} {tl : List Value} {X : Cx} {o e : Expr} {es : List Expr} {to te : TE} {ta : TA} {f x : Str} {p p' p1 p2 pos : Pos} {C0 : Addr}
/-- B.__init__(self, ..) -/
def tXI (K : PySem.W.Frag) (tl : List Value) (newId : String) (ta : TA) : TE := fun σ H Q => ta σ H fun vs H1 => ∃ (a C : Addr) (ws : List V), vs = .ref a :: ws ∧ ws.length ≤ 1000 ∧ ExT K C tl newId ∧ H1 a = some (exo a C none) ∧ Q .non H1
theorem xi_args {pins : List (Addr × Obj)} {σ : L2.St} {H : Hp} {s : Shared} {Q : VK} (Fb : BaF B newId initId tl) (ha : PA X (e :: es) ta) (I : Inv X pins σ H s) (h : tXI X.K tl newId ta σ H Q)
    (he : starEach (e :: es) X.env = (false, eval e X.env) :: starEach es X.env) (hpl : (backTo pos (starEach es X.env)).any (·.1) = false) :
    wpAny (model X.prog X.w) X.A (callWith pos (Value.builtin initId) [] (backTo pos (starEach (e :: es) X.env)) []) (EP X pins σ Q) X.xe s := by
  refine PyProof.Rows.callWith_method1 (thn (ha.run pos pins _ σ H _ I h) fun us s1 ⟨vs, H1, I1, r1, a, C, ws, ev, hl, T, ea, q⟩ => ?_) he hpl
  subst ev
  cases r1 with
  | @cons _ u0 _ ur ra rw' =>
    obtain rfl : u0 = Value.ref a := ra
    exact xinit Fb T I1 ea (by rw [← Paired.length rw', sizeLine_eq]; omega) fun s' J => ⟨.non, H1, J, rfl, q⟩
theorem pe_binit {pl : Sem Bool} (Fb : BaF B newId initId tl) (hg : Gl X x) (hm : X.mg x = none) (hv : bootBuiltins x = some (.type B)) (hty : typeOf (.type B) = pure (.type "type")) (hst : Manifest.isStub B = false) (hh : PySem.W.handedIn (.builtin initId) = true)
    (vV : PySem.W.findCls X.K (.type B) (.type "type") "__init__" = some (.val (.builtin initId))) (ha : PA X (e :: es) ta) (hn : x ≠ "__name__" := by decide) (hdb : (x == ("__debug__" : Str)) = false := by decide)
    (hc : eval (.Call (.Attribute (.Name x p1) "__init__" p2) (e :: es) [] pos) X.env = (do
      let ov ← eval (.Name x p1) X.env
      standAt p2.atName
      let (f, first) ← holding [ov] (getMethod ov "__init__" pl)
      callWith pos f first (backTo pos (starEach (e :: es) X.env)) (backToKw pos (keywordEach [] X.env))) := by rfl)
    (he : starEach (e :: es) X.env = (false, eval e X.env) :: starEach es X.env := by rfl) (hpl : (backTo pos (starEach es X.env)).any (·.1) = false := by rfl) :
    PE X (.Call (.Attribute (.Name x p1) "__init__" p2) (e :: es) [] pos) (tXI X.K tl newId ta) := by
  refine ⟨fun pins s σ H Q I h => PySem.W.methodCall_KW (ld_blt I hg hm hv ?_ hn hdb) hc⟩
  obtain ⟨m, fr⟩ := I.fr
  exact PySem.W.method_type fr I.ok.mod.kin hty hst vV hh (xi_args Fb ha (I.tok _) h he hpl)
/-- C0.__init__(self, ..), C0 an own class without __init__ of its own -/
theorem pe_cinit {pl : Sem Bool} (Fb : BaF B newId initId tl) (hg : Gl X x) (hm : X.mg x = some (.ref C0)) (hsp : PySem.W.specialIn X.K (.ref C0) "__getattribute__" = some (some (.builtin "type.__getattribute__"))) (hr : PySem.W.readsIn X.K C0 (.type "type") = true) (hh : PySem.W.handedIn (.builtin initId) = true)
    (vV : PySem.W.findCls X.K (.ref C0) (.type "type") "__init__" = some (.val (.builtin initId))) (ha : PA X (e :: es) ta) (hdb : (x == ("__debug__" : Str)) = false := by decide)
    (hc : eval (.Call (.Attribute (.Name x p1) "__init__" p2) (e :: es) [] pos) X.env = (do
      let ov ← eval (.Name x p1) X.env
      standAt p2.atName
      let (f, first) ← holding [ov] (getMethod ov "__init__" pl)
      callWith pos f first (backTo pos (starEach (e :: es) X.env)) (backToKw pos (keywordEach [] X.env))) := by rfl)
    (he : starEach (e :: es) X.env = (false, eval e X.env) :: starEach es X.env := by rfl) (hpl : (backTo pos (starEach es X.env)).any (·.1) = false := by rfl) :
    PE X (.Call (.Attribute (.Name x p1) "__init__" p2) (e :: es) [] pos) (tXI X.K tl newId ta) :=
  ⟨fun pins s σ H Q I h => PySem.W.methodCall_KW (ld_glob I hg hm (PySem.W.method_cls I.kIn hsp (PySem.W.cls_value I.kIn hr vV hh (xi_args Fb ha (I.tok _) h he hpl))) hdb) hc⟩
/-- self.f = e -/
def tXS (K : PySem.W.Frag) (tl : List Value) (newId : String) (f : Str) (to te : TE) : TS := fun D σ H => te σ H fun y H1 => to σ H1 fun x H2 => ∃ a C : Addr, x = .ref a ∧ ExT K C tl newId ∧ PySem.W.findIn K (.ref C) f = some none ∧
  ((H2 a = some (exo a C none) ∧ ∀ dx, H2 dx = none → dx ≠ a → D.nx σ (upd (upd H2 dx (exd dx [(f, y)])) a (exo a C (some dx)))) ∨
    ∃ (dx : Addr) (fs : List (Str × V)), H2 a = some (exo a C (some dx)) ∧ H2 dx = some (exd dx fs) ∧ fs.length ≤ 900 ∧ D.nx σ (upd H2 dx (exd dx ((f, y) :: fs))))
theorem ps_xst (Fb : BaF B newId initId tl) (ho : PE X o to) (he : PE X e te) (hs : swapsWith e (some (.Attribute o f p')) pos.line X.env = pure false := by rfl) : PS X (.Assign [.Attribute o f p'] e pos) (tXS X.K tl newId f to te) := by
  refine ⟨fun pins s σ H D I h => plainObj_wpAny_Assign_Attribute (thn (he.run pins s σ H _ I h) fun v s1 ⟨y, H1, I1, r1, q1⟩ => thn (ho.run pins s1 σ H1 _ I1 q1) fun u s2 ⟨x, H2, I2, r2, a, C, ex, T, hno, q⟩ => ?_) hs⟩
  subst ex
  obtain rfl : u = Value.ref a := r2
  rcases q with ⟨ea, q⟩ | ⟨dx, fs, ea, ed, hl, q⟩
  · exact xst_new Fb T I2 ea hno r1 fun dx s' n ne J => ⟨σ, _, J, q dx n ne⟩
  · exact xst_old Fb T I2 ea ed hl hno r1 fun s' J => ⟨σ, _, J, q⟩
/-- C(e, ..), C's own __init__ keeping sp -/
theorem pmk_x {CX : CXT} {C fI : Addr} {k : Nat} {fd : FuncData} {ps : List Str} {sp : Sp} (Fb : BaF B newId initId tl) (T : ExT X.K C tl newId) (iC : PySem.W.findIn X.K (.ref C) "__init__" = some (some (.ref fI))) (tI : PySem.W.typeIn X.K (.ref fI) = some (.type "function"))
    (F1 : FnOk X.prog X.w X.K X.mg X.base CX k fI fd ps sp) (hr : Room (k + 1) X.A) (hb : Binds X.K fd ps []) (hx : Passes CX X (fun _ _ _ => False)) (hg : Gl X x) (hm : X.mg x = some (.ref C)) (ha : PA X (e :: es) ta)
    (hdb : (x == ("__debug__" : Str)) = false := by decide) (he : starEach (e :: es) X.env = (false, eval e X.env) :: starEach es X.env := by rfl) (hpl : (backTo pos (starEach es X.env)).any (·.1) = false := by rfl) :
    PMk X (.Call (.Name x p) (e :: es) [] pos) (tMkO C sp [] ta) := by
  intro pins s σ H Q I h
  obtain ⟨nm, q, N, bs, bm, sn, sub, ab, col, dd, k0, k1, k2, k3, k5, hC, hbm⟩ := T.cls
  refine wpAny_Call_Name_kw (ld_glob I hg hm (PySem.W.callWith_K (h₀ := X.base) I.ok.mod.kin T.kC (thn (ha.run pos pins s σ H _ I h) fun us s1 ⟨vs, H1, I1, r1, hz, q1⟩ => ⟨I1.kIn, ?_⟩) he hpl) hdb)
  show wpAny _ _ (call (.ref C) us) _ _ _
  obtain ⟨hp, g, dr, tk, os⟩ := s1
  have hsz : hp.objs.size ≤ hp.objs.size + 1 := Nat.le_succ _
  have hq := q1 (hp.objs.size + 1) (I1.hok.fresh hsz)
  have kk : ∀ b o, hp.get? b = some o → ((hp.push (PySem.W.kdv_tup us)).push (PySem.HandSPX.excO C hp.objs.size)).get? b = some o := fun b o z => Heap.get?_push_of_some _ (Heap.get?_push_of_some _ z)
  have hget : ((hp.push (PySem.W.kdv_tup us)).push (PySem.HandSPX.excO C hp.objs.size)).get? (hp.objs.size + 1) = some (PySem.HandSPX.excO C hp.objs.size) := by heap_get
  have I2 : Inv X pins σ (upd H1 (hp.objs.size + 1) (exo (hp.objs.size + 1) C none)) ⟨(hp.push (PySem.W.kdv_tup us)).push (PySem.HandSPX.excO C hp.objs.size), g, dr, tk, os⟩ := I1.laid (t' := tk) (a := hp.objs.size + 1) (o := exo (hp.objs.size + 1) C none) kk hsz (exo_ok hget)
  have r2 : Vals (V.ref (hp.objs.size + 1) :: (vs ++ [])) (Value.ref (hp.objs.size + 1) :: (us ++ [])) := .cons rfl (r1.append .nil)
  have hl : (Value.ref (hp.objs.size + 1) :: us ++ []).length = ps.length := by
    have z := r2.length
    rw [F1.len _ _ _ _ hq] at z
    exact z.symm
  have hus : us.length ≤ sizeLine := by rw [← Paired.length r1, sizeLine_eq]; omega
  refine wpAny_call (PySem.HandSPX.call_own Fb.ex (fun Y => PySem.W.excTail_contains Y bm hbm) (I1.kIn _ _ hC) (PySem.W.looks_findIn I1.kIn iC) (fun self => PySem.W.bind_fn I1.kIn self tI) hus
    (codeAny_mono (F1.run _ X.stack _ _ ⟨Value.ref (hp.objs.size + 1) :: us, []⟩ (Value.ref (hp.objs.size + 1) :: (us ++ [])) _ _ (fun _ _ _ => False) (hr.make C us []) (I2.env0.make C us []) (by have z := hb _ (Value.ref (hp.objs.size + 1) :: us) I2.kIn hl; rw [List.cons_append] at z; exact z) r2 hq) fun r s' hq' => ?_))
  cases r with
  | error er => exact hx pins σ _ _ er s' I2 hq'
  | ok fl =>
    cases fl with
    | ret u =>
      obtain ⟨v, H2, os2, bare2, un2, hok2, rv, ev, d, fs, ea, ed, hd1, q2⟩ := hq'
      subst ev
      obtain ⟨h2, g2, d2, t2, os'⟩ := s'
      exact ⟨rv, mk_end (raises_own T.exC T.tyC) I1 hsz kk un2 hok2 os2 bare2 ea ed hd1 q2⟩
    | _ => exact False.elim hq'
end
end Mo
end
section
/-! An exception class's promise; raise. -/
namespace Mo
open PySem L2 PyProof.Rows He
/-- what its __init__ does: the fields are stored, one behind the other -/
def spX (C : Addr) (fsn : List Str) : Sp := fun vs H Q _ => ∃ (a : Addr) (ws : List V), vs = .ref a :: ws ∧ ws.length = fsn.length ∧ H a = some (exo a C none) ∧ ∀ d, H d = none → d ≠ a → Q .non (upd (upd H d (exd d (fsn.zip ws).reverse)) a (exo a C (some d)))
section
variable {P : Program} {w : World} {K : PySem.W.Frag} {mg : Str → Option Value} {base : Heap} {newId : String} {tl : List Value} {C f : Addr} {fd : FuncData} {x qual : Str} {params : Arguments} {body : List Stmt} {scope : Scope} {N ps : List Str} {k : Nat} {f1 f2 : Str}
/-- one field -/
def xB1 (K : PySem.W.Frag) (tl : List Value) (newId : String) (f1 : Str) : TS := tSeq (tDrop (tXI K tl newId (tCons (tVar 0) (tCons (tVar 1) tNil)))) (tXS K tl newId f1 (tVar 0) (tVar 1))
/-- two -/
def xB2 (K : PySem.W.Frag) (tl : List Value) (newId : String) (f1 f2 : Str) : TS := tSeq (tDrop (tXI K tl newId (tCons (tVar 0) (tCons (tVar 1) (tCons (tVar 2) tNil))))) (tSeq (tXS K tl newId f1 (tVar 0) (tVar 1)) (tXS K tl newId f2 (tVar 0) (tVar 2)))
theorem upd_swap {H : Hp} {a d : Addr} (h : d ≠ a) (o u u' : HO) : upd (upd (upd H d o) a u) d u' = upd (upd H d u') a u := by
  funext b
  unfold upd
  by_cases e1 : b = d
  · subst e1
    simp [h]
  · simp [e1]
theorem xok1 (T : ExT K C tl newId) (h1 : PySem.W.findIn K (.ref C) f1 = some none) (F : FunD K x qual params body scope [] [] f fd) (hN : N.length = 2) (hps : ps.length = 2) (S : FnScope N ps scope)
    (hb : ∀ (cdv : Value) (A : Around) (outer : List PySem.Env) (s : Shared) (H : Hp) (E : XK), PSs (cxOf (L2.CX P w) P w K mg base N qual scope f cdv A outer s H E) body (xB1 K tl newId f1)) : FnOk P w K mg base (L2.CX P w) 1 f fd ps (spX C [f1]) := by
  refine F.ok S (fun vs H Q E h => ?_) fun cdv A outer s H vs Q E hr h => ⟨_, hb cdv A outer s H E, ?_⟩
  · obtain ⟨a, ws, rfl, e, _⟩ := h
    rw [List.length_cons, e, hps]
    rfl
  · obtain ⟨a, ws, rfl, e, ha, q⟩ := h
    obtain ⟨y, rfl⟩ : ∃ y, ws = [y] := match ws, e with | [y], _ => ⟨y, rfl⟩
    have es : L2.start N [V.ref a, y] = [some (.ref a), some y] := by
      unfold L2.start
      rw [hN]
      rfl
    rw [es]
    refine ⟨_, rfl, _, rfl, a, C, [y], rfl, (by show 1 ≤ 1000; decide), T, ha, ?_⟩
    refine ⟨_, rfl, _, rfl, a, C, rfl, T, h1, .inl ⟨ha, fun d nd ne => ?_⟩⟩
    exact q d nd ne
theorem xok2 (T : ExT K C tl newId) (h1 : PySem.W.findIn K (.ref C) f1 = some none) (h2 : PySem.W.findIn K (.ref C) f2 = some none) (F : FunD K x qual params body scope [] [] f fd) (hN : N.length = 3) (hps : ps.length = 3) (S : FnScope N ps scope)
    (hb : ∀ (cdv : Value) (A : Around) (outer : List PySem.Env) (s : Shared) (H : Hp) (E : XK), PSs (cxOf (L2.CX P w) P w K mg base N qual scope f cdv A outer s H E) body (xB2 K tl newId f1 f2)) : FnOk P w K mg base (L2.CX P w) 1 f fd ps (spX C [f1, f2]) := by
  refine F.ok S (fun vs H Q E h => ?_) fun cdv A outer s H vs Q E hr h => ⟨_, hb cdv A outer s H E, ?_⟩
  · obtain ⟨a, ws, rfl, e, _⟩ := h
    rw [List.length_cons, e, hps]
    rfl
  · obtain ⟨a, ws, rfl, e, ha, q⟩ := h
    obtain ⟨y, z, rfl⟩ : ∃ y z, ws = [y, z] := match ws, e with | [y, z], _ => ⟨y, z, rfl⟩
    have es : L2.start N [V.ref a, y, z] = [some (.ref a), some y, some z] := by
      unfold L2.start
      rw [hN]
      rfl
    rw [es]
    refine ⟨_, rfl, _, rfl, _, rfl, a, C, [y, z], rfl, (by show 2 ≤ 1000; decide), T, ha, ?_⟩
    refine ⟨_, rfl, _, rfl, a, C, rfl, T, h1, .inl ⟨ha, fun d nd ne => ?_⟩⟩
    refine ⟨_, rfl, _, rfl, a, C, rfl, T, h2, .inr ⟨d, [(f1, y)], upd_same, by rw [upd_ne ne]; exact upd_same, (by show 1 ≤ 900; decide), ?_⟩⟩
    rw [upd_swap ne]
    exact q d nd ne
end
/-- an exception class of the program: how it stands, what its __init__ keeps -/
structure XC (P : Program) (w : World) (K : PySem.W.Frag) (mg : Str → Option Value) (base : Heap) (C : Addr) (fsn : List Str) : Prop where
  go : ∃ (B newId initId : String) (tl : List Value) (fI : Addr) (fd : FuncData) (ps : List Str), BaF B newId initId tl ∧ ExT K C tl newId ∧ PySem.W.findIn K (.ref C) "__init__" = some (some (.ref fI)) ∧ PySem.W.typeIn K (.ref fI) = some (.type "function") ∧
    FnOk P w K mg base (L2.CX P w) 1 fI fd ps (spX C fsn) ∧ L2.Binds K fd ps []
section
variable {G : Gm} {E : WM} {X : Cx} {e : Expr} {es : List Expr} {p pos cpos : Pos} {as : MA} {x : Str} {c : Nat} {fsn : List Str} {k : Nat}
theorem nzip {ρ : List Addr} {H : Hp} : ∀ {fsn : List Str} {vs : List V} {ds : List D}, VRels G ρ H vs ds → NRel G ρ H (fsn.zip vs) (fsn.zip ds)
  | [], _, _, _ => by simp only [List.zip_nil_left]; exact .nil
  | _ :: _, _, _, .nil => by simp only [List.zip_nil_right]; exact .nil
  | f :: fsn, _, _, .cons q qs => .cons ⟨rfl, q⟩ (nzip qs)
theorem paired_rev {α β : Type} {R : α → β → Prop} : ∀ {xs : List α} {ys : List β}, Paired R xs ys → Paired R xs.reverse ys.reverse
  | _, _, .nil => .nil
  | _, _, .cons r t => by
    rw [List.reverse_cons, List.reverse_cons]
    have app : ∀ {a b : List α} {c d : List β}, Paired R a c → Paired R b d → Paired R (a ++ b) (c ++ d) := fun {a b c d} h1 h2 => by
      induction h1 with
      | nil => exact h2
      | cons r t ih => exact .cons r ih
    exact app (paired_rev t) (.cons r .nil)
theorem del_exc {H1 : Hp} {a d : Addr} {o u v w' : HO} (ha : H1 a = none) (ne : d ≠ a) : upd (del (upd (upd (upd H1 a o) d u) a v) a) d w' = upd H1 d w' := by
  funext b
  unfold upd del
  by_cases e1 : b = d
  · simp [e1]
  · by_cases e2 : b = a
    · simp [e1, e2, ha]
    · simp [e1, e2]
/-- raise C(e, ..) -/
theorem ms_raise (Y : XC X.prog X.w X.K X.mg X.base (G.cA c) fsn) (rg : RG k X.A) (hk : 2 ≤ k) (hc : X.calm = true) (tk : Takes X E) (hg : Gl X x) (hm : X.mg x = some (.ref (G.cA c))) (ha : PA X (e :: es) (rdA G E as)) (hs : fsn.length ≤ 1000)
    (hdb : (x == ("__debug__" : Str)) = false := by decide) (he : starEach (e :: es) X.env = (false, eval e X.env) :: starEach es X.env := by rfl) (hpl : (backTo cpos (starEach es X.env)).any (·.1) = false := by rfl) :
    PS X (.Raise (some (.Call (.Name x p) (e :: es) [] cpos)) none pos) (rdS G E (sRaise c fsn as)) := by
  obtain ⟨B, newId, initId, tl, fI, fd, ps, Fb, T, iC, tI, F1, hb⟩ := Y.go
  refine ps_w (ps_raise hc tk (pmk_x (k := 1) Fb T iC tI F1 (rg.r.mono hk) hb passL hg hm ha hdb he hpl)) fun D σ H ⟨ρ, env, h, hs', hr, w⟩ => ?_
  refine ⟨ρ, env, h, hs', hr, Wp.stm hs' w fun ds h1 ρ1 H1 vs g1 r1 q1 w1 => ?_⟩
  cases kd : decide (ds.length = fsn.length) with
  | false =>
    rw [kd] at w1
    exact False.elim w1
  | true =>
    rw [kd] at w1
    have kl := of_decide_eq_true kd
    have lv : vs.length = fsn.length := by rw [q1.length, kl]
    refine ⟨by rw [lv]; exact hs, fun a na => ?_⟩
    rw [List.append_nil]
    refine ⟨a, vs, rfl, lv, upd_same, fun d nd ne => ⟨rfl, d, (fsn.zip vs).reverse, upd_same, by rw [upd_ne ne]; exact upd_same, ?_, ?_⟩⟩
    · rw [upd_ne ne] at nd
      exact nd
    · have nd1 : H1 d = none := by rw [upd_ne ne] at nd; exact nd
      rw [del_exc na ne]
      have gg := Grow.new r1 nd1 (.xd (fsn.zip vs).reverse)
      refine w1 (ρ1 ++ [d]) _ d σ gg (r1.new nd1 (ho := .xd (fsn.zip vs).reverse) (o := .xd (fsn.zip ds).reverse) ⟨_, upd_same, ?_⟩) ((hs'.grow g1).grow gg) ?_
      · exact paired_rev (nzip (q1.grow gg))
      · rw [← r1.len]
        simp
end
end Mo
end
section
/-! try: body / except T as n: suite, the exception tracked from the suite on. -/
namespace Mo
open PySem L2 PyProof.Rows He
section
variable {X : Cx} {pins : List (Addr × Obj)} {σ : L2.St} {H : Hp} {s : Shared} {a C d : Addr}
theorem exv_own {b x : Addr} : exv b C d ≠ .own x := fun z => by
  have z' : HO.ext _ = HO.own x := z
  cases z'
/-- an exception that is there is tracked from now on -/
theorem Inv.kept_exc (I : Inv X pins σ H s) (he : ∃ (vs : Array Value) (sl : Array (Option Value)), s.heap.get? a = some { cls := .ref C, dict := some d, data := .fields vs, slots := sl }) (na : H a = none) (nL : a ≠ X.env.locals) (n0 : ∀ o, X.s_0.heap.get? a ≠ some o) (np : ∀ p ∈ X.pn ++ pins, p.1 ≠ a) :
    Inv X pins σ (upd H a (exv a C d)) s := by
  have up : ∀ {b : Addr}, b ≠ a → upd H a (exv a C d) b = H b := fun h => upd_ne h
  refine ⟨I.ok, I.os, I.bare, ⟨I.base.keep, I.base.slot, fun b o e n x => ?_, I.base.there, fun b xs e => ?_, fun b o u e => ?_, fun b ps e => ?_⟩, I.loc, I.cell, ?_, fun x c e => ?_, fun p hp => ?_, fun b o e => ?_, I.len⟩
  · rw [up (fun z => n0 o (z ▸ e))]
    exact I.base.free b o e n x
  · have z := I.base.tups b xs e
    rw [up (ne_of_none z na)]
    exact z
  · have z := I.base.frzs b o u e
    rw [up (ne_of_none z na)]
    exact z
  · obtain ⟨more, z⟩ := I.base.tbls b ps e
    exact ⟨more, by rw [up (ne_of_none z na)]; exact z⟩
  · rw [up (Ne.symm nL)]
    exact I.free
  · have hc : c ≠ a := fun z => by
      obtain ⟨v, o, e1, e2⟩ := I.cell x c e
      obtain ⟨vs, sl, e3⟩ := he
      rw [z, e3] at e1
      cases e1
      cases e2
    rw [up hc]
    exact I.freeC x c e
  · obtain ⟨e1, e2, e3, e4, e5⟩ := I.pin p hp
    exact ⟨e1, by rw [up (np p hp)]; exact e2, e3, e4, e5⟩
  · by_cases hb : b = a
    · subst hb
      rw [upd_same] at e
      cases e
      obtain ⟨vs, sl, e3⟩ := he
      exact ⟨⟨vs, sl, e3⟩, ⟨_, e3⟩, fun h1 h2 ⟨vs', sl', z⟩ k => ⟨vs', sl', k _ z⟩⟩
    · rw [up hb] at e
      exact (I.hok b o e).stay (fun c v _ z => z) (fun c hc => by rw [up (ne_of_none hc na)]; exact hc) (fun c xs hc => by rw [up (ne_of_none hc na)]; exact hc)
theorem Inv.suiteT (I : Inv X pins σ H s) (a : Addr) : Inv (X.suite a (X.pn ++ pins)) [] σ H s :=
  ⟨I.ok.suite _ _, I.os, I.bare, I.base, I.loc, I.cell, I.free, I.freeC, (fun p hp => I.pin p (by rw [List.append_nil] at hp; exact hp)), I.hok, I.len⟩
theorem Inv.unsuiteT {pn' : List (Addr × Obj)} (I : Inv (X.suite a (X.pn ++ pins)) pn' σ H s) (ok : X.Ok) : Inv X pins σ H s :=
  ⟨ok, I.os, I.bare, I.base, I.loc, I.cell, I.free, I.freeC, (fun p hp => I.pin p (List.mem_append_left _ hp)), I.hok, I.len⟩
end
/-- what the clause wishes of an exception of the body -/
def wKeep (mt : Value → Option Bool) (i : Nat) (ts : TS) (Wout : WM) (D : Ends) : WM := fun cls d σ H =>
  ∃ (C d' : Addr) (b : Bool), cls = .ref C ∧ d = some d' ∧ mt cls = some b ∧ (b = true → ∀ a, H a = none → ts { nx := fun σ' H' => D.nx (σ'.set i none) H', rt := D.rt, bk := fun σ' H' => D.bk (σ'.set i none) H', ct := fun σ' H' => D.ct (σ'.set i none) H' } (σ.set i (some (.ref a))) (upd H a (exv a C d'))) ∧
    (b = false → Wout cls d σ H)
/-- an except clause's test: it tells m of the exception's class; the heap may grow by it -/
def Tst (X : Cx) (t : Expr) (m : Value → Option Bool) : Prop := ∀ {pins pn : List (Addr × Obj)} {a : Addr} {σ : L2.St} {H : Hp} {s : Shared} {oe : Obj} {b : Bool} {Q : Bool → Shared → Prop} {E : Value → Shared → Prop},
  Inv (X.suite a pn) pins σ H s → s.heap.get? a = some oe → m oe.cls = some b → (∀ h', (∀ q o, s.heap.get? q = some o → h'.get? q = some o) → Q b { s with heap := h' }) →
  wpAny (model X.prog X.w) (X.A.mark (some (.ref a))) (eval t X.env) (fun c s1 => wpAny (model X.prog X.w) (X.A.mark (some (.ref a))) (excMatches (.ref a) c) Q E s1) E s
theorem flyZ_keeps {h h' B : Heap} {l : List PySem.Env} {a : Addr} {Z : Obj → Prop} (x : HandSPX.FlyingZ B l a Z h) (k : ∀ b o, h.get? b = some o → h'.get? b = some o) : HandSPX.FlyingZ B l a Z h' := by
  obtain ⟨f1, f2, f3, oe, vs, T, oT, ts, he, hz, hd, h1, hn, hne, hT, hdT, h3⟩ := x
  exact ⟨fun b o q => k b o (f1 b o q), f2, f3.of_keeps fun b o q _ => ⟨o, k b o q, rfl⟩, oe, vs, T, oT, ts, k _ _ he, hz, hd, h1, hn, hne, k _ _ hT, hdT, h3⟩
theorem nm_run {X : Cx} {x : Str} {c : Value} {np : Pos} {pins pn : List (Addr × Obj)} {a : Addr} {σ : L2.St} {H : Hp} {s : Shared} {Q : Value → Shared → Prop} {E : Value → Shared → Prop} (hc : Names X x c) (I : Inv (X.suite a pn) pins σ H s) (q : Q c s) :
    wpAny (model X.prog X.w) (X.A.mark (some (.ref a))) (eval (.Name x np) X.env) Q E s := by
  obtain ⟨hg, hdbg, hm | ⟨hm, hv, hnn⟩⟩ := hc
  · exact ld_glob (X := X.suite a pn) I hg hm q hdbg
  · exact ld_blt (X := X.suite a pn) I hg hm hv q hnn hdbg
theorem tst_one {X : Cx} {x : Str} {c : Value} {np : Pos} (hc : Names X x c) : Tst X (.Name x np) (fun cls => PySem.W.exmOne X.K cls c) := by
  intro pins pn a σ H s oe b Q E I he hb q
  have LT : PySem.W.Looks (model X.prog X.w) s.heap (typeOf (.ref a)) oe.cls := fun A Q E s k q => wpAny_typeOf_ref (k _ _ he) q
  exact nm_run hc I ((PySem.W.exm_one (M := model X.prog X.w) I.kIn LT hb).here (q s.heap fun _ _ z => z))
section
variable {X : Cx} {n : Str} {tst : Expr} {m : Value → Option Bool} {i : Nat} {body suite : List Stmt} {b₀ : Stmt} {np pos pos' : Pos} {tb : WM → TS} {ts : TS} {Wout : WM}
theorem ps_try_kept (hs : X.stack = X.env :: X.outer) (hf : X.env.frame = some X.env.locals) (hex : X.ex = []) (hN : X.N.Nodup) (hi : X.N[i]? = some n) (hln : X.env.kindOf n = some .local) (hc : Tst X tst m) (tk : Takes X Wout)
    (hb : ∀ (W : WM) (pn : List (Addr × Obj)) (xe : Value → Shared → Prop), Takes (X.tr pn xe) W → PassesOwn (model X.prog X.w) X.A X.env xe → PSs (X.tr pn xe) body (tb W)) (hsu : ∀ (a : Addr) (pn : List (Addr × Obj)), PSs (X.suite a pn) (b₀ :: suite) ts) :
    PS X (.Try body [.ExceptHandler (some tst) (some n) (b₀ :: suite) pos'] [] [] pos) (fun D σ H => tb (wKeep m i ts Wout D) D σ H) := by
  refine ⟨fun pins s σ H D I h => ?_⟩
  have ok := I.ok
  have hfr : X.A.frames = some (X.env :: X.outer) := ok.frames.trans (congrArg some hs)
  refine wpAny_Try_except (wpAny_mono ((hb (wKeep m i ts Wout D) (X.pn ++ pins) (fun e s₁ => wpAny (model X.prog X.w) X.A (noteFrame e X.env) (fun _ s₂ => wpAny (model X.prog X.w) X.A (setFlight e none) (fun _ s₃ =>
    wpAny (model X.prog X.w) X.A (handleBy e X.env [.ExceptHandler (some tst) (some n) (b₀ :: suite) pos']) (SP X pins D) X.xe s₃) X.xe s₂) X.xe s₁) (fun u s' xx => ?_) PassesOwn.looking).run [] s σ H D (I.toTry _) h) (fun f s1 hsp => ?_) (fun e s1 he => he))
  · obtain ⟨a, B, sI, pins', σ', H', cls, d, rfl, J', nb, up, sky, na, os, ag, C, d', b, rfl, rfl, hb1, hyes, hno⟩ := xx
    have J : Inv X pins σ' H' sI := J'.ofTry ok
    have sky' : Sky B (X.env :: X.outer) a (Zc (.ref C) (some d')) X.env.locals s'.heap := hs ▸ sky
    show wpAny (model X.prog X.w) X.A (noteFrame (.ref a) X.env) _ _ _
    refine Sky.land Zc.steady hfr hf sky' fun h3 fl3 up3 => ?_
    have J3 : Inv X pins σ' H' { s' with heap := h3 } := J.landed nb fl3.1 (up.trans up3) os ag
    obtain ⟨oe3, vs3, he3, hz3, hd3⟩ := fl3.there
    have nfr : a ∉ frs (X.env :: X.outer) := fun hm => by
      obtain ⟨_, o', e', hnf⟩ := fl3.2.2.1.mem hm
      rw [he3] at e'
      cases e'
      exact hnf _ hd3
    have nL : a ≠ X.env.locals := fun z => nfr (List.mem_filterMap.mpr ⟨X.env, List.mem_cons_self, by rw [hf, z]⟩)
    have noI : ∀ o, sI.heap.get? a ≠ some o := fun o e => by
      have z := nb a o e (by rw [hs]; exact nfr)
      rw [fl3.2.1] at z
      cases z
    have n0 : ∀ o, X.s_0.heap.get? a ≠ some o := fun o e => by
      obtain ⟨o', e'⟩ := J.base.there a o e (by rw [hex]; simp)
      exact noI o' e'
    have np' : ∀ p ∈ X.pn ++ pins, p.1 ≠ a := fun p hp z => noI p.2 (z ▸ (J.pin p hp).1)
    have keep : ∀ {h : Heap}, HandSPX.FlyingZ B (X.env :: X.outer) a (Zc (.ref C) (some d')) h → ∃ (vs : Array Value) (sl : Array (Option Value)), h.get? a = some { cls := .ref C, dict := some d', data := .fields vs, slots := sl } := fun {h} fl => by
      obtain ⟨⟨oc, od, oda, osl⟩, vs, e, ⟨z1, z2⟩, e2⟩ := fl.there
      simp only at z1 z2 e2
      subst z1 z2 e2
      exact ⟨vs, osl, e⟩
    have S3 : Inv (X.suite a (X.pn ++ pins)) [] σ' H' { s' with heap := h3 } := Inv.suiteT J3 a
    refine wpAny_handleBy_cons (codeAny_handlers_test ?_) (by intro q; cases q)
    refine hc S3 he3 (by rw [hz3.1]; exact hb1) fun h5 k5 => ?_
    have fl3 := flyZ_keeps fl3 k5
    have up3 := up3.trans (Heap.UpToSlots.of_keeps k5)
    clear S3
    cases b with
    | true =>
      refine codeAny_handlers_suite_as (HandSPX.lands_againZ fl3 fun h4 fl4 up4 => ?_)
      have J4 : Inv X pins σ' H' { s' with heap := h4 } := J.landed nb fl4.1 ((up.trans up3).trans up4) os ag
      have S4 := Inv.suiteT (Inv.kept_exc J4 (keep fl4) na nL n0 np') a
      refine store_ok (X := X.suite a (X.pn ++ pins)) (v := .ref a) S4 hN hi (.inl hln) rfl (fun s5 S5 => ?_) (.inr hln)
      refine wpAny_mono ((hsu a (X.pn ++ pins)).run [] s5 _ _ _ S5 (hyes rfl a na)) (fun f s6 hsp => ?_) (fun _ _ z => False.elim z)
      have fin : ∀ {σ6 : L2.St} {H6 : Hp} {Q : Shared → Prop}, Inv (X.suite a (X.pn ++ pins)) [] σ6 H6 s6 → (∀ s7, Inv X pins (σ6.set i none) H6 s7 → Q s7) → wpAny (model X.prog X.w) X.A (do bindName X.env n .none; unbindBehindTheSuite X.env n pos') (fun _ s7 => Q s7) X.xe s6 :=
        fun {σ6 H6 Q} S6 hq => gone_ok (Inv.unsuiteT S6 ok) hN hi hln hq
      cases f with
      | ret u =>
        obtain ⟨v6, σ6, H6, S6, r6, q6⟩ := hsp
        exact fin S6 fun s7 J7 => ⟨_, _, _, J7, r6, q6⟩
      | _ =>
        obtain ⟨σ6, H6, S6, q6⟩ := hsp
        exact fin S6 fun s7 J7 => ⟨_, _, J7, q6⟩
    | false =>
      show wpAny _ X.A (handleBy (.ref a) X.env []) _ _ _
      refine wpAny_handleBy_nil ?_
      obtain ⟨k1, k2, k3, oe, vs, T, oT, ts', he, hz, hd, h1, hr⟩ := id fl3
      unfold PySem.passOn
      refine wpAny_bind (wpAny_field he hd h1 ?_)
      rw [if_neg (show ¬ ((Value.ref T == Value.none) = true) by simp)]
      have fin : wpAny (model X.prog X.w) X.A (setFlight (.ref a) X.env.frame) (fun _ s4 => wpAny (model X.prog X.w) X.A (throw (.ref a) : Sem Flow) (SP X pins D) X.xe s4) X.xe { s' with heap := h5 } := by
        rw [hf]
        exact HandSPX.setFlight_upZ fl3 fun h4 hh4 up4 => wpAny_throw (tk _ _ ⟨a, B, sI, pins, σ', H', .ref C, some d', rfl, J, nb, (up.trans up3).trans up4, .inr (.inr (hs ▸ hh4)), na, os, ag, hno rfl⟩)
      first
        | exact wpAny_bind (wpAny_pure (wpAny_bind fin))
        | exact wpAny_bind fin
  · cases f with
    | next =>
      obtain ⟨σ', H', J', q⟩ := hsp
      exact wpAny_execs_nil ⟨σ', H', J'.ofTry ok, q⟩
    | ret u =>
      obtain ⟨v, σ', H', J', r, q⟩ := hsp
      exact ⟨v, σ', H', J'.ofTry ok, r, q⟩
    | _ =>
      obtain ⟨σ', H', J', q⟩ := hsp
      exact ⟨σ', H', J'.ofTry ok, q⟩
end
end Mo
end
section
/-! try in M. -/
namespace Mo
open PySem L2 PyProof.Rows He
section
variable {G : Gm} {E : WM} {X : Cx} {n : Str} {tst : Expr} {m : Value → Option Bool} {i : Nat} {body suite : List Stmt} {b₀ : Stmt} {np pos pos' : Pos} {mb ms : MS} {ks cs : List Nat}
theorem ms_try (hs : X.stack = X.env :: X.outer) (hf : X.env.frame = some X.env.locals) (hex : X.ex = []) (hN : X.N.Nodup) (hi : X.N[i]? = some n) (hln : X.env.kindOf n = some .local) (hc : Tst X tst m) (tk : Takes X E)
    (hK : ∀ c, ks.contains c = true → m (.ref (G.cA c)) = some (cs.contains c)) (hb : ∀ (W : WM) (pn : List (Addr × Obj)) (xe : Value → Shared → Prop), Takes (X.tr pn xe) W → PassesOwn (model X.prog X.w) X.A X.env xe → PSs (X.tr pn xe) body (rdS G W mb))
    (hsu : ∀ (a : Addr) (pn : List (Addr × Obj)), PSs (X.suite a pn) (b₀ :: suite) (rdS G EW ms)) : PS X (.Try body [.ExceptHandler (some tst) (some n) (b₀ :: suite) pos'] [] [] pos) (rdS G E (sTryAs mb i ks cs ms)) := by
  refine ps_w (ps_try_kept (tb := fun W => rdS G W mb) (ts := rdS G EW ms) hs hf hex hN hi hln hc tk hb hsu) fun D σ H ⟨ρ, env, h, hs', hr, w⟩ => ⟨ρ, env, h, hs', hr, ?_⟩
  unfold sTryAs at w
  cases e : mb env h with
  | exc c l env1 h1 =>
    rw [e] at w
    intro ρ' H' d σ' g r s el
    cases k1 : ks.contains c with
    | false =>
      simp only [k1] at w
      exact False.elim w
    | true =>
      have hx := hK c k1
      cases k2 : cs.contains c with
      | false =>
        simp only [k1, k2] at w
        refine ⟨G.cA c, d, false, rfl, rfl, hx.trans (congrArg some k2), (fun z => nomatch z), fun _ => w ρ' H' d σ' g r s el⟩
      | true =>
        simp only [k1, k2] at w
        refine ⟨G.cA c, d, true, rfl, rfl, hx.trans (congrArg some k2), fun _ a na => ?_, fun z => nomatch z⟩
        have gg := Grow.new r na (exv a (G.cA c) d)
        have r2 : HRel G (ρ' ++ [a]) _ (h1.new (.xc c l)) := r.new na (ho := exv a (G.cA c) d) (o := .xc c l) ⟨d, gg.at el, upd_same⟩
        have at' : (ρ' ++ [a])[h1.n]? = some a := by
          rw [← r.len]
          simp
        refine ⟨ρ' ++ [a], _, _, (s.grow gg).set (.loc at') i, r2, ?_⟩
        have w2 := WpS.grow (g.trans gg) w
        cases e2 : ms (env1.set i (some (.loc h1.n))) (h1.new (.xc c l)) with
        | nx env3 h3 => rw [e2] at w2; exact fun ρ3 H3 σ3 g3 r3 s3 => w2 ρ3 H3 _ g3 r3 (s3.unset i)
        | bk env3 h3 => rw [e2] at w2; exact fun ρ3 H3 σ3 g3 r3 s3 => w2 ρ3 H3 _ g3 r3 (s3.unset i)
        | ct env3 h3 => rw [e2] at w2; exact fun ρ3 H3 σ3 g3 r3 s3 => w2 ρ3 H3 _ g3 r3 (s3.unset i)
        | rt d3 h3 => rw [e2] at w2; exact w2
        | exc c3 l3 env3 h3 => rw [e2] at w2; exact False.elim w2
        | bad => rw [e2] at w2; exact False.elim w2
  | _ => rw [e] at w; exact w
end
end Mo
end
section
/-! Fields of a kept exception. -/
namespace Mo
open PySem L2 PyProof.Rows He
section
variable {G : Gm} {E : WM} {X : Cx} {o : Expr} {mb : ME} {cs : List Nat} {f f' : Str} {pos : Pos}
theorem me_xf (hK : X.K = G.K) (hC : ∀ c, cs.contains c = true → XfC X.K (G.cA c) ∧ PySem.W.findIn X.K (.ref (G.cA c)) f = some none) (hf : f' = f) (ho : PE X o (rd G E mb)) (hb : attributeBase o f' X.env (eval o X.env) = eval o X.env := by rfl) : PE X (.Attribute o f' pos) (rd G E (eXf mb cs f)) := by
  subst hf
  refine ⟨fun pins s σ H Q I ⟨ρ, env, h, hs, hr, w⟩ => ?_⟩
  have A0 := ho.run pins s σ H (fun v H1 => ∃ ρ1 h1 x, HRel G ρ1 H1 h1 ∧ VRel G ρ1 H1 v x ∧ Wp G (atW E σ) (VRel G) (xfK cs f' x h1) ρ1 H1 Q) I ⟨ρ, env, h, hs, hr, Wp.seq w fun x h1 ρ1 H1 v g1 r1 q1 w1 => ⟨ρ1, h1, x, r1, q1, w1⟩⟩
  refine attr_of hb (thn A0 fun u s1 ⟨v, H1, I1, rv, ρ1, h1, x, r1, q1, w1⟩ => ?_)
  unfold xfK at w1
  cases q1 with
  | @loc a l hl =>
    obtain rfl : u = Value.ref a := rv
    simp only at w1
    split at w1 <;> first | exact False.elim w1 | skip
    rename_i c m e1
    split at w1 <;> first | exact False.elim w1 | skip
    rename_i fs e2
    obtain ⟨k1, w1⟩ := Wp.ifR w1
    obtain ⟨y, k2, w1⟩ := Wp.optR w1
    obtain ⟨d, hd, ha⟩ := r1.at e1 hl
    obtain ⟨fvs, hx, nr⟩ := r1.at e2 hd
    obtain ⟨z, k3, k4⟩ := (fld_rel nr).1 y k2
    obtain ⟨T, hno⟩ := hC c k1
    obtain ⟨⟨vs, sl, e3⟩, _⟩ := (I1.hok a _ ha : ObjOk X.prog X.w H1 s1.heap a (.ext fun h => ∃ (vs : Array Value) (sl : Array (Option Value)), h.get? a = some { cls := .ref (G.cA c), dict := some d, data := .fields vs, slots := sl }))
    obtain ⟨mA, hns, hr'⟩ := (I1.hok d _ hx : ObjOk X.prog X.w H1 s1.heap d (.xd fvs))
    obtain ⟨od, ho', hlk⟩ := lookIn_ns hns
    obtain ⟨u, hu, ru⟩ := RelO.some_of (v := z) (o := mA f') (by rw [← k3]; exact hr' f')
    have J : PySem.W.InstAt s1.heap a { cls := .ref (G.cA c), dict := some d, data := .fields vs, slots := sl } (G.cA c) (some od) := ⟨e3, rfl, rfl, ho'⟩
    exact HandSPX.exc_get I1.kIn J T.ga T.gg T.exC (PySem.W.findObj_own T.hdC hno rfl (by rw [hlk, hu])) (handed_of ru) ⟨z, H1, I1.tok _, ru, Wp.val w1 r1 k4⟩
  | _ => exact False.elim w1
end
end Mo
end
section
/-! The facts of exception classes, asked of the top. -/
namespace Mo
open PySem L2 PyProof.Rows He
/-- the class at C stands over the built-in of the mro tl -/
def extB (K : PySem.W.Frag) (C : Addr) (tl : List Value) (newId : String) : Bool := (match K.lookup C with
  | some ⟨.type "type", _, .cls cd, sl⟩ => (match cd.mro, sl.toList with
    | .ref C' :: bm, [_, _, _, _, some (.builtin n), _] => decide (C' = C) && (decide (n = newId) && (!cd.hasDel && (cd.hasDict && PySem.W.excTail tl bm)))
    | _, _ => false)
  | _ => false) && (eqO (PySem.W.findIn K (.ref C) "__setattr__") (some (some (.builtin "object.__setattr__"))) && (decide (PySem.W.subIn K (.ref C) (.type "BaseException") = some true) && (decide (PySem.W.typeIn K (.ref C) = some (.type "type")) && PySem.W.keepIn K (.ref C))))
theorem extB_ok {K : PySem.W.Frag} {C : Addr} {tl : List Value} {newId : String} (h : extB K C tl newId = true) : ExT K C tl newId := by
  unfold extB at h
  obtain ⟨h1, h⟩ := ba h
  obtain ⟨h2, h⟩ := ba h
  obtain ⟨h3, h⟩ := ba h
  obtain ⟨h4, h5⟩ := ba h
  refine ⟨?_, eqO_ok h2, of_decide_eq_true h3, of_decide_eq_true h4, h5⟩
  split at h1
  · rename_i dd cd sl ho
    split at h1
    · rename_i C' bm k0 k1 k2 k3 n k5 hm hs
      obtain ⟨q1, h1⟩ := ba h1
      obtain ⟨q2, h1⟩ := ba h1
      obtain ⟨q3, h1⟩ := ba h1
      obtain ⟨q4, q5⟩ := ba h1
      have q1 := of_decide_eq_true q1
      have q2 := of_decide_eq_true q2
      subst q1 q2
      obtain ⟨nm, bs, mro, ns, qn, hd, sn, sub, ab, col, del⟩ := cd
      simp only [Bool.not_eq_true'] at hm q3 q4
      subst hm q3 q4
      have hsl : sl = #[k0, k1, k2, k3, some (.builtin n), k5] := by
        obtain ⟨l⟩ := sl
        simp only at hs
        rw [hs]
      subst hsl
      exact ⟨nm, qn, ns, bs, bm, sn, sub, ab, col, dd, k0, k1, k2, k3, k5, ho, q5⟩
    · cases h1
  · cases h1
/-- all that raising asks of the class named x, whose __init__ is a def -/
def excB (K : PySem.W.Frag) (x : Str) (tl : List Value) (newId : String) (fsn : List Str) : Bool := extB K (ga K x) tl newId && (xfB K (ga K x) && (eqO (PySem.W.findIn K (.ref (ga K x)) "__init__") (some (some (.ref (ma K (ga K x) "__init__")))) && (decide (PySem.W.typeIn K (.ref (ma K (ga K x) "__init__")) = some (.type "function")) &&
  fsn.all fun f => eqO (PySem.W.findIn K (.ref (ga K x)) f) (some none))))
structure ExcF (K : PySem.W.Frag) (x : Str) (tl : List Value) (newId : String) (fsn : List Str) : Prop where
  t : ExT K (ga K x) tl newId
  xf : XfC K (ga K x)
  i : PySem.W.findIn K (.ref (ga K x)) "__init__" = some (some (.ref (ma K (ga K x) "__init__")))
  f : PySem.W.typeIn K (.ref (ma K (ga K x) "__init__")) = some (.type "function")
  n : ∀ f ∈ fsn, PySem.W.findIn K (.ref (ga K x)) f = some none
theorem excB_ok {K : PySem.W.Frag} {x : Str} {tl : List Value} {newId : String} {fsn : List Str} (h : excB K x tl newId fsn = true) : ExcF K x tl newId fsn := by
  obtain ⟨h1, h⟩ := ba h
  obtain ⟨h2, h⟩ := ba h
  obtain ⟨h3, h⟩ := ba h
  obtain ⟨h4, h5⟩ := ba h
  exact ⟨extB_ok h1, xfB_ok h2, eqO_ok h3, of_decide_eq_true h4, fun f hf => eqO_ok (List.all_eq_true.mp h5 f hf)⟩
end Mo
end
section
/-! except (A, B, ..). -/
namespace Mo
open PySem L2 PyProof.Rows He
section
variable {X : Cx}
/-- names of classes -/
inductive Nms (X : Cx) : List Expr → List Value → Prop
  | nil : Nms X [] []
  | cons {x : Str} {c : Value} {np : Pos} {es : List Expr} {cs : List Value} : Names X x c → Nms X es cs → Nms X (.Name x np :: es) (c :: cs)
theorem Nms.len {es : List Expr} {cs : List Value} (h : Nms X es cs) : cs.length = es.length := by
  induction h with
  | nil => rfl
  | cons _ _ ih => rw [List.length_cons, List.length_cons, ih]
theorem nms_run {pos : Pos} {pins pn : List (Addr × Obj)} {a : Addr} {σ : L2.St} {H : Hp} {s : Shared} {E : Value → Shared → Prop} (I : Inv (X.suite a pn) pins σ H s) {es : List Expr} {cs : List Value} (h : Nms X es cs) : ∀ {Q : List Value → Shared → Prop}, Q cs s →
    wpAny (model X.prog X.w) (X.A.mark (some (.ref a))) (spliced (backTo pos (starEach es X.env))) Q E s := by
  induction h with
  | nil => exact fun q => wpAny_items_nil q
  | cons hc _ ih => exact fun q => wpAny_items_cons (nm_run hc I (ih q))
theorem tst_many {es : List Expr} {cs : List Value} {kk : Nat} {tpos : Pos} (h : Nms X es cs) (hl : es.length ≤ 100 := by decide) : Tst X (.Tuple es kk tpos) (fun cls => PySem.W.exmAny X.K cls cs) := by
  intro pins pn a σ H s oe b Q E I he hb q
  refine wpAny_Tuple (nms_run I h ⟨Nat.le_trans (by rw [h.len]; exact hl) (by decide), ?_⟩)
  have kp : ∀ q o, s.heap.get? q = some o → (s.heap.push { cls := .type "tuple", data := .seq cs.toArray }).get? q = some o := fun _ _ z => Heap.get?_push_of_some _ z
  have LT : PySem.W.Looks (model X.prog X.w) (s.heap.push { cls := .type "tuple", data := .seq cs.toArray }) (typeOf (.ref a)) oe.cls := fun A Q E s k q => wpAny_typeOf_ref (k _ _ (kp _ _ he)) q
  exact (exm_all (M := model X.prog X.w) (I.kIn.keeps kp) LT (Heap.get?_push_size s.heap rfl) hb).here (q _ kp)
end
end Mo
end
section
/-! What leaves a def's body. -/
namespace Mo
open PySem L2 PyProof.Rows He
theorem tk_of {P : Program} {w : World} {K : PySem.W.Frag} {mg : Str → Option Value} {base : Heap} {N : List Str} {qual : Str} {scope : Scope} {f : Addr} {cdv : Value} {A : Around} {outer : List PySem.Env} {s : Shared} {H : Hp} {E : XK} :
    Takes (cxOf (L2.CX P w) P w K mg base N qual scope f cdv A outer s H E) (fun cls d _ H => E cls d H) := (takes_of (E := E) rfl rfl rfl rfl)
end Mo
end
section
set_option maxHeartbeats 4000000
/-! isinstance of a kept exception that has fields. -/
namespace Mo
open PySem L2 PyProof.Rows He PySem.W PySem.Calls
/-- what isinstance asks of the class at D -/
def icB (K : PySem.W.Frag) (D : Addr) : Bool := eqO (findIn K (.ref D) "__getattribute__") (some (some (.builtin "BaseException.__getattribute__"))) && (eqO (findIn K (.ref D) "__getattr__") (some none) && (decide (subIn K (.ref D) (.type "BaseException") = some true) &&
  (hasDictIn K D && (eqO (findIn K (.ref D) "__class__") (some (some (.builtin "object.__class__"))) && (eqO (specialIn K (.builtin "object.__class__") "__get__") (some (some (.builtin "getset_descriptor.__get__"))) && (decide (takesIn K (.builtin "object.__class__") = some true) && decide (mroIn K D (.type "object") = some true)))))))
theorem icB_ok {K : PySem.W.Frag} {D : Addr} (h : icB K D = true) : ExcC K D := by
  obtain ⟨h1, h⟩ := ba h
  obtain ⟨h2, h⟩ := ba h
  obtain ⟨h3, h⟩ := ba h
  obtain ⟨h4, h⟩ := ba h
  obtain ⟨h5, h⟩ := ba h
  obtain ⟨h6, h⟩ := ba h
  obtain ⟨h7, h8⟩ := ba h
  exact ⟨eqO_ok h1, eqO_ok h2, of_decide_eq_true h3, h4, eqO_ok h5, eqO_ok h6, of_decide_eq_true h7, of_decide_eq_true h8⟩
section
variable {prog : Program} {w : World} {A : Around} {E : Value → Shared → Prop} {s : Shared} {K : PySem.W.Frag} {x D : Addr} {ox od : Obj}
theorem fo_class (c : ExcC K D) : findObj K D (some od) "__class__" = some (.bind (.builtin "getset_descriptor.__get__") (.builtin "object.__class__")) := by
  obtain ⟨cd, hc, _⟩ := any_some c.hd
  unfold findObj
  rw [hc, Option.bind_some, c.ha, Option.bind_some]
  simp [c.hn, c.ht]
variable {Q : Option Value → Shared → Prop}
/-- e.__class__ -/
theorem xc_class (c : ExcC K D) (X : K.In s.heap) (I : InstAt s.heap x ox D (some od)) (h : Q (some (.ref D)) { s with toks := s.toks + 1 }) : wpAny (model prog w) A (getAttr? (.ref x) "__class__") Q E s := by
  obtain ⟨hp, g, d, t, os⟩ := s
  have tyL := I.type (M := model prog w)
  have hit := looks_find (M := model prog w) X I (fo_class c)
  have sub : Looks (model prog w) hp (isInstance (.ref x) (.type "BaseException")) true := tyL.andThen (looks_subIn X c.hs)
  have ne : (Value.builtin "BaseException.__getattribute__" == Value.builtin "object.__getattribute__") = false := by decide +kernel
  have on : (onTheHeap (Value.ref D) && Value.builtin "BaseException.__getattribute__" == Value.builtin "object.__getattribute__") = false := by
    rw [ne]
    rfl
  unfold getAttr? getAttrBy? getAttrBy
  refine wpAny_bind (wpAny_mkText (wpAny_bind ?_))
  refine wpAny_attempt (wpAny_holding (wpAny_bind (tyL.at (wpAny_bind ?_))))
  refine (looks_findIn (M := model prog w) X c.hg).at ?_
  show wpAny _ _ (if (onTheHeap (Value.ref D) && Value.builtin "BaseException.__getattribute__" == Value.builtin "object.__getattribute__") = true then _ else _) _ _ _
  rw [on, if_neg Bool.false_ne_true]
  unfold getAttrByItsOwn hookBefore
  refine wpAny_bind ?_
  rw [if_pos (show onTheHeap (Value.ref D) = true from rfl)]
  refine (looks_findIn (M := model prog w) X c.hk).at ?_
  refine wpAny_bind (wpAny_attempt (wpAny_holding ?_))
  unfold callGetattribute
  rw [show (false && onTheHeap (Value.builtin "BaseException.__getattribute__")) = false from rfl, if_neg Bool.false_ne_true]
  unfold boundAndCalled
  rw [PySem.F.excAttr_ValueError.ga.bind (.ref x)]
  refine wpAny_bind (wpAny_pure ?_)
  show wpAny _ _ (call (.builtin "BaseException.__getattribute__") [.ref x, .str "__class__" t]) _ _ _
  refine wpAny_call (codeAny_call_builtin PySem.F.excAttr_ValueError.ga.plain PySem.F.entry_bexc_ga ?_)
  refine @check_slot (model prog w) _ _ ⟨hp, g, d, t + 1, os⟩ "BaseException.__getattribute__" "BaseException" "__getattribute__" (.ref x) [.str "__class__" t] [] _ (by decide +kernel) (by decide +kernel) sub (PySem.F.args_bexc_ga (.ref x) (.str "__class__" t)) ?_
  unfold Builtin.«object.__getattribute__»
  refine wpAny_bind (wpAny_of_eq (a := ((Value.ref x : Value), [Value.str "__class__" t])) (by first | rfl | (simp only [slotArgs]; rfl)) ?_)
  refine wpAny_bind (wpAny_pure (wpAny_bind (tyL.at (wpAny_bind (hit.at ?_)))))
  refine wpAny_bind (wpAny_holding (wpAny_call (class_get (s := ⟨hp, g, d, t + 1, os⟩) (ox := ox) (od := some od) X I c.hm ?_)))
  refine wpAny_pure ?_
  show wpAny _ _ (handedOut (.ref D)) _ _ _
  rw [handedOut_of (v := .ref D) rfl]
  first
    | exact wpAny_pure (wpAny_pure h)
    | exact wpAny_pure h
    | exact wpAny_pure (wpAny_bind (wpAny_pure (wpAny_pure h)))
end
end Mo
end
section
/-! isinstance of a kept exception. -/
namespace Mo
open PySem L2 PyProof.Rows He PySem.W PySem.Calls
theorem xc_kit {K : PySem.W.Frag} {x D : Addr} {ox od : Obj} (c : ExcC K D) : KitX K (.ref x) (.ref D) (fun h => InstAt h x ox D (some od)) := by
  obtain ⟨cd, hc, _⟩ := any_some c.hd
  have at' : ∃ oc dd sl, K.lookup D = some ⟨oc, dd, .cls cd, sl⟩ := by
    unfold clsIn at hc
    split at hc
    · rename_i oc dd cd' sl ho
      cases hc
      exact ⟨oc, dd, sl, ho⟩
    · cases hc
  obtain ⟨oc, dd, sl, ho⟩ := at'
  refine ⟨fun _ _ _ I => I.type, fun _ _ X _ A Q E s k q => ?_, fun h tp d2 its n s2 X e => ?_, fun X I k => xc_class c X I k⟩
  · unfold isType loadHead
    exact wpAny_bind (wpAny_loadPart (k _ _ (X _ _ ho)) (wpAny_pure q))
  · refine Bool.eq_false_iff.mpr fun q => ?_
    obtain rfl : D = tp := Value.ref.inj (beq_iff_eq.mp q)
    cases (X _ _ ho).symm.trans e
end Mo
end
section
/-! isinstance of anything, of one class or several. -/
namespace Mo
open PySem L2 PyProof.Rows He
inductive Ct where
  | ty (T : String) | own (x : Str)
def Ct.v (K : PySem.W.Frag) : Ct → V
  | .ty T => .ty T
  | .own x => .ref (ga K x)
def Ct.u (K : PySem.W.Frag) : Ct → Value
  | .ty T => .type T
  | .own x => .ref (ga K x)
theorem Ct.cls (K : PySem.W.Frag) (c : Ct) : ClsV (c.v K) (c.u K) := match c with
  | .ty T => .ty T
  | .own x => .own _
theorem Ct.paired (K : PySem.W.Frag) : ∀ cs : List Ct, Paired ClsV (cs.map (Ct.v K)) (cs.map (Ct.u K))
  | [] => .nil
  | c :: cs => .cons (c.cls K) (Ct.paired K cs)
inductive TyW (K : PySem.W.Frag) (H : Hp) : V → Value → Prop where
  | base {x : V} {t : Value} (h : TyX K H x t) : TyW K H x t
  | excn {a D : Addr} (h1 : H a = some (exn a D)) (c : ExcC K D) : TyW K H (.ref a) (.ref D)
  | exc {a D d : Addr} {fvs : List (Str × V)} (h1 : H a = some (exv a D d)) (h2 : H d = some (.xd fvs)) (c : ExcC K D) : TyW K H (.ref a) (.ref D)
section
variable {X : Cx} {pins : List (Addr × Obj)} {σ : L2.St} {H : Hp} {s : Shared}
theorem kit_w {x : V} {u t : Value} (I : Inv X pins σ H s) (rx : RelV x u) (ty : TyW X.K H x t) : ∃ P : Heap → Prop, PySem.W.KitX X.K u t P ∧ P s.heap ∧ u ≠ .builtin "__main__.__loader__#opaque" := by
  cases ty with
  | base h => exact kit_of I rx h
  | @excn a D h1 c =>
    cases (show u = Value.ref a from rx)
    obtain ⟨⟨vs, sl, e3⟩, _⟩ := (I.hok a _ h1 : ObjOk X.prog X.w H s.heap a (.ext fun h => ∃ (vs : Array Value) (sl : Array (Option Value)), h.get? a = some { cls := .ref D, dict := none, data := .fields vs, slots := sl }))
    have J : PySem.W.InstAt s.heap a { cls := .ref D, dict := none, data := .fields vs, slots := sl } D none := ⟨e3, rfl, rfl, trivial⟩
    exact ⟨_, PySem.W.handS_kitx_exc c.hg c.hk c.hs c.hd c.ha c.hn c.ht c.hm, J, fun z => nomatch z⟩
  | @exc a D d fvs h1 h2 c =>
    cases (show u = Value.ref a from rx)
    obtain ⟨⟨vs, sl, e3⟩, _⟩ := (I.hok a _ h1 : ObjOk X.prog X.w H s.heap a (.ext fun h => ∃ (vs : Array Value) (sl : Array (Option Value)), h.get? a = some { cls := .ref D, dict := some d, data := .fields vs, slots := sl }))
    obtain ⟨mA, hns, _⟩ := (I.hok d _ h2 : ObjOk X.prog X.w H s.heap d (.xd fvs))
    obtain ⟨od, ho', _⟩ := lookIn_ns hns
    have J : PySem.W.InstAt s.heap a { cls := .ref D, dict := some d, data := .fields vs, slots := sl } D (some od) := ⟨e3, rfl, rfl, ho'⟩
    exact ⟨_, xc_kit c, J, fun z => nomatch z⟩
theorem kit_single {K : PySem.W.Frag} {t c : Value} {b : Bool} (e : PySem.W.kitAny K t [c] = some b) : PySem.W.kitOne K t c = some b := by
  unfold PySem.W.kitAny at e
  split at e
  · rename_i q; rw [q]; exact e
  · rename_i q; rw [q]; exact e
  · cases e
def CVal (K : PySem.W.Frag) (H : Hp) (c : V) (cts : List Ct) : Prop := (∃ q, cts = [q] ∧ c = q.v K) ∨ ∃ tp, c = .ref tp ∧ H tp = some (.tup (cts.map (Ct.v K)))
theorem call_isW : CallR X (.builtin "isinstance") (fun xs H Q => ∃ (x c : V) (t : Value) (cts : List Ct) (b : Bool), xs = [x, c] ∧ CVal X.K H c cts ∧ TyW X.K H x t ∧ PySem.W.kitAny X.K t (cts.map (Ct.u X.K)) = some b ∧ Q (.bl b) H) := by
  intro pins s σ H xs us Q I r h
  obtain ⟨x, c, t, cts, b, rfl, k, ty, e, q⟩ := h
  obtain ⟨u1, u2, rfl, r1, r2⟩ := vals2 r
  obtain ⟨P, Z, p, hx⟩ := kit_w I r1 ty
  rcases k with ⟨c', rfl, rfl⟩ | ⟨tp, rfl, hT⟩
  · have e2 := (c'.cls X.K).eq r2
    subst e2
    exact PySem.W.kia_one Z I.kIn p (kit_single e) hx fun tk => ⟨.bl b, H, I.tok tk, rfl, q⟩
  · cases (show u2 = Value.ref tp from r2)
    obtain ⟨_, its, rv, ⟨oc, od, dt, sl⟩, h1, h2, n, h3⟩ := (show ObjOk X.prog X.w H s.heap tp (.tup (cts.map (Ct.v X.K))) from I.hok tp _ hT)
    have e3 := ClsV.all (Ct.paired X.K cts) rv
    subst e3
    simp only at h2 h3
    subst h2 h3
    exact PySem.W.kia_tup Z I.kIn p h1 e hx fun tk => ⟨.bl b, H, I.tok tk, rfl, q⟩
/-- a class by its name -/
inductive CNm (X : Cx) : Expr → Ct → Prop
  | own {x : Str} {pos : Pos} (hg : Gl X x) (hm : X.mg x = some (.ref (ga X.K x))) (hd : (x == ("__debug__" : Str)) = false := by decide) : CNm X (.Name x pos) (.own x)
  | ty {x : Str} {T : String} {pos : Pos} (hg : Gl X x) (hm : X.mg x = none) (hv : bootBuiltins x = some (.type T) := by rfl) (hn : x ≠ "__name__" := by decide) (hd : (x == ("__debug__" : Str)) = false := by decide) : CNm X (.Name x pos) (.ty T)
theorem CNm.pe {e : Expr} {c : Ct} (h : CNm X e c) : PE X e (tC (c.v X.K)) := by
  cases h with
  | own hg hm hd => exact pe_glob hg hm rfl hd
  | ty hg hm hv hn hd => exact pe_bltn (v := .ty _) hg hm hv rfl hn hd
inductive CNms (X : Cx) : List Expr → List Ct → Prop
  | nil : CNms X [] []
  | cons {e : Expr} {c : Ct} {es : List Expr} {cs : List Ct} (h : CNm X e c) (t : CNms X es cs) : CNms X (e :: es) (c :: cs)
theorem CNms.pa {es : List Expr} {cs : List Ct} (h : CNms X es cs) : PA X es (fun σ H Q => Q (cs.map (Ct.v X.K)) H) := by
  induction h with
  | nil => exact pa_nil
  | cons h _ ih =>
    have hs : ∀ {e : Expr} {c : Ct} (es : List Expr), CNm X e c → starEach (e :: es) X.env = (false, eval e X.env) :: starEach es X.env := fun es h => by cases h <;> rfl
    exact pa_cons h.pe ih (hs _ h)
end
theorem lookS_mem {t : String} {b : Bool} : ∀ {l : List (String × Bool)}, lookS t l = some b → (t, b) ∈ l
  | (a, c) :: r, e => by
    unfold lookS at e
    split at e
    · rename_i h
      cases e
      subst h
      exact List.mem_cons_self
    · exact List.mem_cons_of_mem _ (lookS_mem e)
theorem lookN_mem {t : Nat} {b : Bool} : ∀ {l : List (Nat × Bool)}, lookN t l = some b → (t, b) ∈ l
  | (a, c) :: r, e => by
    unfold lookN at e
    split at e
    · rename_i h
      cases e
      subst h
      exact List.mem_cons_self
    · exact List.mem_cons_of_mem _ (lookN_mem e)
/-- what isinstance asks of an own class -/
def icO (K : PySem.W.Frag) (D : Addr) : Bool := eqO (PySem.W.findIn K (.ref D) "__class__") (some (some (.builtin "object.__class__"))) && (eqO (PySem.W.specialIn K (.builtin "object.__class__") "__get__") (some (some (.builtin "getset_descriptor.__get__"))) &&
  (decide (PySem.W.takesIn K (.builtin "object.__class__") = some true) && decide (PySem.W.mroIn K D (.type "object") = some true)))
/-- the answers -/
def isB (K : PySem.W.Frag) (cA : Nat → Addr) (cts : List Ct) (tb : List (String × Bool)) (to tx : List (Nat × Bool)) : Bool := (tb.all fun q => decide (PySem.W.kitAny K (.type q.1) (cts.map (Ct.u K)) = some q.2)) &&
  ((to.all fun q => decide (PySem.W.kitAny K (.ref (cA q.1)) (cts.map (Ct.u K)) = some q.2) && icO K (cA q.1)) && tx.all fun q => decide (PySem.W.kitAny K (.ref (cA q.1)) (cts.map (Ct.u K)) = some q.2) && icB K (cA q.1))
section
variable {G : Gm} {E : WM} {X : Cx} {a c : Expr} {ma : ME} {cts : List Ct} {tb : List (String × Bool)} {to tx : List (Nat × Bool)} {x : Str} {p pos : Pos}
theorem is_rel {ρ : List Addr} {H : Hp} {h : Hm} {d : D} {v : V} {b : Bool} (hB : isB G.K G.cA cts tb to tx = true) (hC : ∀ c b, (c, b) ∈ to → Cls G.K (G.cA c)) (r : HRel G ρ H h) (q : VRel G ρ H v d) (e : isK tb to tx d h = some b) : ∃ t, TyW G.K H v t ∧ PySem.W.kitAny G.K t (cts.map (Ct.u G.K)) = some b := by
  obtain ⟨b1, b2⟩ := ba hB
  obtain ⟨b2, b3⟩ := ba b2
  unfold isK at e
  split at e
  · rename_i t et
    exact ⟨_, .base (tyD_x r q et).1, of_decide_eq_true (List.all_eq_true.mp b1 _ (lookS_mem e))⟩
  · cases q with
    | @loc a l hl =>
      simp only at e
      split at e
      · rename_i c fs e1
        obtain ⟨dx, fvs, e2, n⟩ := r.at e1 hl
        have m := lookN_mem e
        obtain ⟨k1, k2⟩ := ba (List.all_eq_true.mp b2 _ m)
        obtain ⟨i1, k2⟩ := ba k2
        obtain ⟨i2, k2⟩ := ba k2
        obtain ⟨i3, i4⟩ := ba k2
        exact ⟨_, .base (.base (.ins e2 (hC _ _ m) (eqO_ok i1) (eqO_ok i2) (of_decide_eq_true i3) (of_decide_eq_true i4))), of_decide_eq_true k1⟩
      · rename_i e1
        obtain ⟨kvs, e2⟩ := r.at e1 hl
        exact ⟨_, .base (.base (.dT e2)), of_decide_eq_true (List.all_eq_true.mp b1 _ (lookS_mem e))⟩
      · rename_i kds e1
        obtain ⟨kvs, e2, _⟩ := r.at e1 hl
        exact ⟨_, .base (.base (.dT e2)), of_decide_eq_true (List.all_eq_true.mp b1 _ (lookS_mem e))⟩
      · rename_i c e1
        have e3 := r.at e1 hl
        obtain ⟨k1, k2⟩ := ba (List.all_eq_true.mp b3 _ (lookN_mem e))
        exact ⟨_, .excn e3 (icB_ok k2), of_decide_eq_true k1⟩
      · rename_i c m e1
        split at e <;> first | (cases e; done) | skip
        rename_i fs e4
        obtain ⟨dd, e2, e3⟩ := r.at e1 hl
        obtain ⟨fvs, e5, _⟩ := r.at e4 e2
        obtain ⟨k1, k2⟩ := ba (List.all_eq_true.mp b3 _ (lookN_mem e))
        exact ⟨_, .exc e3 e5 (icB_ok k2), of_decide_eq_true k1⟩
      · cases e
    | _ => cases e
theorem me_is1 {c0 : Ct} (hK : X.K = G.K) (hB : isB G.K G.cA [c0] tb to tx = true) (hC : ∀ c b, (c, b) ∈ to → Cls G.K (G.cA c)) (hc : CNm X c c0) (hg : Gl X x) (hm : X.mg x = none) (hv : bootBuiltins x = some (.builtin "isinstance")) (ha : PE X a (rd G E ma)) (hn : x ≠ "__name__" := by decide) (hdb : (x == ("__debug__" : Str)) = false := by decide)
    (hs : starEach [a, c] X.env = (false, eval a X.env) :: starEach [c] X.env := by rfl) (hs2 : starEach [c] X.env = (false, eval c X.env) :: starEach [] X.env := by rfl) (hpl : (backTo pos (starEach [c] X.env)).any (·.1) = false := by rfl) : PE X (.Call (.Name x p) [a, c] [] pos) (rd G E (eIs tb to tx ma)) :=
  pe_w (pe_callB call_isW hg hm hv (pa_cons ha (pa_cons hc.pe pa_nil hs2) hs) hn hdb hs hpl) fun σ H Q ⟨ρ, env, h, hs, hr, w⟩ => ⟨ρ, env, h, hs, hr, w.seq fun d h1 ρ1 H1 v g1 r1 q1 w1 => by
    unfold isR at w1
    split at w1 <;> first | exact False.elim w1 | skip
    rename_i b e
    obtain ⟨t, k1, k2⟩ := is_rel hB hC r1 q1 e
    rw [hK]
    exact ⟨v, _, t, [c0], b, rfl, .inl ⟨c0, rfl, rfl⟩, k1, k2, Wp.val w1 r1 (.bl b)⟩⟩
theorem me_isT {es : List Expr} {kk : Nat} {tpos : Pos} (hK : X.K = G.K) (hB : isB G.K G.cA cts tb to tx = true) (hC : ∀ c b, (c, b) ∈ to → Cls G.K (G.cA c)) (hc : CNms X es cts) (hg : Gl X x) (hm : X.mg x = none) (hv : bootBuiltins x = some (.builtin "isinstance")) (ha : PE X a (rd G E ma)) (hl : cts.length ≤ 100 := by decide) (hn : x ≠ "__name__" := by decide) (hdb : (x == ("__debug__" : Str)) = false := by decide)
    (hs : starEach [a, .Tuple es kk tpos] X.env = (false, eval a X.env) :: starEach [.Tuple es kk tpos] X.env := by rfl) (hs2 : starEach [.Tuple es kk tpos] X.env = (false, eval (.Tuple es kk tpos) X.env) :: starEach [] X.env := by rfl) (hpl : (backTo pos (starEach [.Tuple es kk tpos] X.env)).any (·.1) = false := by rfl) : PE X (.Call (.Name x p) [a, .Tuple es kk tpos] [] pos) (rd G E (eIs tb to tx ma)) :=
  pe_w (pe_callB call_isW hg hm hv (pa_cons ha (pa_cons (pe_tup hc.pa) pa_nil hs2) hs) hn hdb hs hpl) fun σ H Q ⟨ρ, env, h, hs, hr, w⟩ => ⟨ρ, env, h, hs, hr, w.seq fun d h1 ρ1 H1 v g1 r1 q1 w1 => by
    unfold isR at w1
    split at w1 <;> first | exact False.elim w1 | skip
    rename_i b e
    refine ⟨by rw [List.length_map]; exact Nat.le_trans hl (by decide), fun p hp => ?_⟩
    have g := Grow.tmp (ρ := ρ1) hp (.tup (cts.map (Ct.v X.K)))
    obtain ⟨t, k1, k2⟩ := is_rel hB hC (r1.tmp hp _) (q1.grow g) e
    rw [← hK] at k1 k2
    exact ⟨v, _, t, cts, b, rfl, .inr ⟨p, rfl, upd_same⟩, k1, k2, w1 _ _ _ g (r1.tmp hp _) (.bl b)⟩⟩
end
end Mo
end
section
set_option maxHeartbeats 4000000
/-! Sets of whole numbers: a set comprehension, set(a list); what is sorted. -/
namespace Mo
open PySem PySem.Spec L2 PyProof.Rows He
abbrev frS (w : World) : Obj := { cls := .type "set", dict := none, data := .set #[] 0 (.fresh 0 0 (!w.params.followText "set-order")) }
/-- {elt for tg in it if ..} of whole numbers -/
def tScI (w : World) (wi : TI) (g : TG) (tt : TT) (te : TE) (vs : List Nat) : TE := fun τ H Q => wi τ H fun J H1 => ∀ D, H1 D = none → ∃ W : Nat → Nat → Hp → Prop, (∃ m, W 0 m (upd H1 D (SetO w D (fun _ => false) 0))) ∧ ∀ i m HT, W i m HT →
  (J.stop i HT ∧ Q (.ref D) HT) ∨ (J.go i HT ∧ ∃ Nx : Hp → Prop, (∀ H', Nx H' → ∃ m', m' < m ∧ W (i + 1) m' H') ∧ ∀ x H', J.yld i HT x H' → g x (L2.wipe τ vs) H' fun τ2 H2 => L2.wipe τ2 vs = L2.wipe τ vs ∧ tt τ2 H2 fun b H3 =>
    if b = true then te τ2 H3 fun y H4 => ∃ (k : Int) (S : Int → Bool) (n : Nat), y = .int k ∧ H4 D = some (SetO w D S n) ∧ n + 1 < scanBound ∧ Nx (upd H4 D (SetO w D (fun j => S j || decide (j = k)) (if S k = true then n else n + 1))) else Nx H3)
section
variable {X : Cx}
theorem pe_scI {elt tg it : Expr} {ifs : List Expr} {scope : Scope} {own : List (Str × Nat)} {pos : Pos} {wi : TI} {g : TG} {tt : TT} {te : TE} (hc : X.calm = true) (hN : X.N.Nodup) (hi : PI X tg it wi) (ok : BlkOk X.N X.env.scope scope own)
    (hg : ∀ (s : Shared) (H : Hp) (C : Addr) (cl : List (Str × Addr)) (fp : List Addr), PG (X.blk s H scope (compEnvC scope cl C X.env) fp) tg g) (ht : ∀ (s : Shared) (H : Hp) (C : Addr) (cl : List (Str × Addr)) (fp : List Addr), PTs (X.blk s H scope (compEnvC scope cl C X.env) fp) ifs tt)
    (he : ∀ (s : Shared) (H : Hp) (C : Addr) (cl : List (Str × Addr)) (fp : List Addr), PE (X.blk s H scope (compEnvC scope cl C X.env) fp) elt te) (hs : ∀ x, foldedSetIterable it X.env x = pure x := by intro _; rfl) :
    PE X (.SetComp elt [⟨tg, it, ifs, 0⟩] scope pos) (tScI X.w wi g tt te (own.map (·.2))) := by
  refine ⟨fun pins s τ H Q I h => ?_⟩
  have fr : ∀ y ∈ scope.names, y.2 = .free → ∃ c, X.env.cells.lookup y.1 = some c := fun y m e => (ok.free y m e).elim (fun k => I.ok.has _ (.inl k)) fun k => I.ok.has _ (.inr k)
  rw [PpSet.eval_SetComp]
  refine wpAny_comprehension_free rfl hs (closure_ok fr) ok.kind (fun y m e => (ok.uniq y m).trans (congrArg some e)) (thn (hi.run pins s τ H _ I h) fun _ _ a => thn a ?_)
  rintro _ sA ⟨itA, fp, tn, J, HA, rfl, IA, T, tA, fA, q⟩
  refine PpSet.newSet_ok (newEnv_comp ?_)
  -- the new set, at D
  obtain ⟨D, eD⟩ : ∃ D, D = sA.heap.objs.size := ⟨_, rfl⟩
  have freeD : HA D = none := by rw [eD]; exact IA.hok.fresh (Nat.le_refl _)
  obtain ⟨W, ⟨m0, w0⟩, step⟩ := q D freeD
  obtain ⟨HB, eB⟩ : ∃ HB, HB = upd HA D (SetO X.w D (fun _ => false) 0) := ⟨_, rfl⟩
  obtain ⟨sB, eS⟩ : ∃ sB : Shared, sB = { sA with heap := sA.heap.push (frS X.w) } := ⟨_, rfl⟩
  rw [← eB] at w0
  have up : ∀ b o, sA.heap.get? b = some o → sB.heap.get? b = some o := fun b o e => by rw [eS]; exact Heap.get?_push_of_some _ e
  have IB : Inv X pins τ HB sB := by
    rw [eB, eS]
    exact IA.laid (t' := sA.toks) (fun b o e => Heap.get?_push_of_some _ e) (Nat.le_of_eq eD.symm) (by rw [eD]; exact setO_new (setR_fresh X.w))
  have fB : ∀ b ∈ fp, FpOk X pins HB b ∧ b < sB.heap.objs.size := fun b hb => by
    obtain ⟨o, e, _⟩ := T.obj _ _ tA b hb
    have lt := Heap.lt_size e
    refine ⟨⟨?_, (fA b hb).2⟩, Heap.lt_size (up b o e)⟩
    rw [eB, upd_ne (show b ≠ D from eD ▸ Nat.ne_of_lt lt)]
    exact (fA b hb).1
  have blk := block_start IB ok hN fB
  have xG := hg sB HB sB.heap.objs.size (cellsFrom (sB.heap.objs.size + 1) scope.names (cloFrom X.env.cells scope.names [])) fp
  have xT := ht sB HB sB.heap.objs.size (cellsFrom (sB.heap.objs.size + 1) scope.names (cloFrom X.env.cells scope.names [])) fp
  have xE := he sB HB sB.heap.objs.size (cellsFrom (sB.heap.objs.size + 1) scope.names (cloFrom X.env.cells scope.names [])) fp
  rw [← eS, ← eD]
  obtain ⟨ce, ece⟩ : ∃ ce, ce = compEnvC scope (cellsFrom (sB.heap.objs.size + 1) scope.names (cloFrom X.env.cells scope.names [])) sB.heap.objs.size X.env := ⟨_, rfl⟩
  obtain ⟨sC, eC⟩ : ∃ sC : Shared, sC = { sB with heap := pushCells (sB.heap.push { cls := .type "dict", data := .dict #[] }) scope.names } := ⟨_, rfl⟩
  rw [← ece] at blk xG xT xE
  rw [← eC] at blk
  suffices main : codeAny (model X.prog X.w) X.A (.compStart (.SetComp elt [⟨tg, it, ifs, 0⟩] scope pos) 0 (.ref itA) (.ref D) ce) (compPost (model X.prog X.w) X.A X.xe none (EP X pins τ Q) (.ref D) sB.heap.objs.size) sC by
    rw [eC, ece] at main
    exact main
  have tC : tn 0 sC.heap := T.keep _ _ _ tA fun b _ o e => by rw [eC]; exact pushCells_keeps _ _ _ _ (Heap.get?_push_of_some _ (up b o e))
  have cL : ce.locals = sB.heap.objs.size := by rw [ece]; rfl
  -- the iterator's objects stand aside
  have aside : ∀ {τ' : L2.St} {H' : Hp} {s' : Shared}, Inv (X.blk sB HB scope ce fp) [] τ' H' s' → (∀ b ∈ fp, H' b = none) → ∀ b ∈ fp, FpOk (X.blk sB HB scope ce fp) [] H' b := fun I' n b hb =>
    ⟨n b hb, (I'.ok.exf b hb).1, I'.ok.exfs b hb, .inl hb, (fun x c e => (I'.ok.exf b hb).2 x c e), fun p hp => absurd (show p ∈ ([] : List (Addr × Obj)) ++ [] from hp) (by simp)⟩
  suffices loop : codeAny (model X.prog X.w) X.A (.compLoop (.SetComp elt [⟨tg, it, ifs, 0⟩] scope pos) 0 (.ref itA) (.ref D) ce) (compPost (model X.prog X.w) X.A X.xe none (EP X pins τ Q) (.ref D) sB.heap.objs.size) sC from
    PpSet.codeAny_compStart_set loop (T.self X.A 0 _ _ _ tC loop)
  refine PpSet.compLoopS_any (fun n s' => ∃ i H', Inv (X.blk sB HB scope ce fp) [] (L2.wipe τ (own.map (·.2))) H' s' ∧ tn i s'.heap ∧ (∀ b ∈ fp, H' b = none) ∧ W i n H') ?_ m0 ⟨0, HB, blk, tC, fun b hb => (fB b hb).1.1, w0⟩
  intro n s5 ⟨i, H5, I5, t5, n5, w5⟩
  rcases step i n H5 w5 with ⟨stop, qq⟩ | ⟨go, Nx, hNx, turn⟩
  · refine thnF (T.done (X.blk sB HB scope ce fp) rfl rfl rfl hc i [] s5 _ H5 (fun _ _ => False) I5 (aside I5 n5) t5 stop) fun r s6 ⟨er, I6⟩ => ?_
    subst er
    have I7 : Inv X pins τ H5 s6 := IB.call' (ch := fp) I6.os I6.base I6.hok I6.bare fun b hb => ⟨(fB b hb).1.2.2.2.1, (fB b hb).1.2.1, (fB b hb).1.2.2.2.2.1, (fB b hb).1.2.2.2.2.2⟩
    have nC : H5 sB.heap.objs.size = none := cL ▸ (I6.free : H5 ce.locals = none)
    obtain ⟨m, hn, _⟩ := I6.loc
    have hn : s6.heap.Ns sB.heap.objs.size m := cL ▸ (hn : s6.heap.Ns ce.locals m)
    obtain ⟨_, f0, f1, f3, f4, f5⟩ := IB.fpOk (H' := H5) (Nat.le_refl _) nC
    exact ⟨m, hn, fun h'' sb => ⟨.ref D, H5, I7.turned (t' := s6.toks) (fun b o hb e => (sb.2 b hb).trans e) nC f0 f3 f4 f5, rfl, qq⟩⟩
  · refine thnF (T.item (X.blk sB HB scope ce fp) rfl rfl rfl hc i [] s5 _ H5 (fun _ _ => False) I5 (aside I5 n5) t5 go) fun r s6 ⟨u, er, h6⟩ => ?_
    subst er
    refine thnF h6 fun _ s7 ⟨x, H7, I7, r7, y7, t7, n7⟩ => ?_
    refine thnF (xG.run _ s7 _ H7 x u _ (I7.pinned (aside I7 n7) (T.obj _ _ t7)) r7 (turn x H7 y7)) fun _ s8 ⟨τ8, H8, I8, ew, q8⟩ => ?_
    refine thnF (xT.run _ s8 τ8 H8 _ I8 q8) fun b s9 ⟨H9, I9, q9⟩ => ?_
    have fin : ∀ {s' : Shared} {H' : Hp}, Inv (X.blk sB HB scope ce fp) ([] ++ pinsAt fp s7.heap) τ8 H' s' → Nx H' → ∃ m, m < n ∧ ∃ i H', Inv (X.blk sB HB scope ce fp) [] (L2.wipe τ (own.map (·.2))) H' s' ∧ tn i s'.heap ∧ (∀ b ∈ fp, H' b = none) ∧ W i m H' := fun {s' H'} I' nx => by
      obtain ⟨m', lt, w'⟩ := hNx H' nx
      have pin : ∀ b ∈ fp, ∀ o, s7.heap.get? b = some o → s'.heap.get? b = some o ∧ H' b = none := fun b hb o e => ⟨(I'.pin (b, o) (List.mem_append_right _ (List.mem_append_right _ (mem_pinsAt hb e)))).1, (I'.pin (b, o) (List.mem_append_right _ (List.mem_append_right _ (mem_pinsAt hb e)))).2.1⟩
      refine ⟨m', lt, i + 1, H', (I'.unpinned (pins := [])).weak (by rw [← ew, wipe_length]) (fun j v e => (wipe_some (ew ▸ e)).1), T.keep _ _ _ t7 fun b hb o e => (pin b hb o e).1, fun b hb => ?_, w'⟩
      obtain ⟨o, e, _⟩ := T.obj _ _ t7 b hb
      exact (pin b hb o e).2
    cases b with
    | false => exact fin I9 (by rw [if_neg Bool.false_ne_true] at q9; exact q9)
    | true =>
      rw [if_pos rfl] at q9
      refine thnF (xE.run _ s9 τ8 H9 _ I9 q9) fun z s10 ⟨yv, H10, I10, r10, k, S0, n0, ey, hD, hz, nx⟩ => ?_
      subst ey
      refine thnF (mt_sadd (X := X.blk sB HB scope ce fp) _ s10 τ8 H10 (.ref D) [.int k] (.ref D) [z] (fun v H' => v = .non ∧ Nx H') I10 rfl (.cons r10 .nil) ⟨D, k, S0, n0, rfl, rfl, hD, hz, rfl, nx⟩) fun _ s11 ⟨_, H11, I11, _, _, nx⟩ => fin I11 nx
end
end Mo
end
section
set_option maxHeartbeats 4000000
/-! set(a list of whole numbers). -/
namespace Mo
open PySem PySem.Spec L2 PyProof.Rows He
/-! ### set(a list of whole numbers) -/
section
variable {P : Program} {w : World} {A : Around} {E : Value → Shared → Prop} {s : Shared}
theorem set_of_list {l : Addr} {its : List Value} {n : Nat} (ns : List Int) {Q : Value → Shared → Prop} (hh : A.handled = none) (hl : s.heap.get? l = some { cls := .type "list", data := .seq its.toArray n }) (hi : IntsAre its ns) (hb : ns.length + 1 < scanBound)
    (go : ∀ (h' : Heap) (tk c : Nat), SetR w h' s.heap.objs.size (fun j => decide (j ∈ ns)) c → (∀ b o, s.heap.get? b = some o → h'.get? b = some o) → Q (.ref s.heap.objs.size) { s with heap := h', toks := tk }) :
    wpAny (model P w) A (call (.type "set") [.ref l]) Q E s := by
  have len : its.length = ns.length := hi.length
  have ⟨c, tl, hmro⟩ := F.called_set.mro
  have a1 := F.called_set.made
  have a2 := F.called_set.sub
  have a3 := F.called_set.notType
  have a4 := F.called_set.canCreate
  have a5 := F.typeCall_set_1 (.ref l)
  refine wpAny_call (codeAny_of_tree (show wpAny _ _ (callAny (.type "set") _) _ _ _ from wpAny_pure ⟨Code.quiet_builtin _ (by decide +kernel), codeAny_builtin F.entry_type_call ?_⟩))
  rw [Around.under_plain (weight_type_call_type "set" [.ref l] []) rfl]
  repeat (any_goals (first | assumption | wp_step))
  have kp : ∀ b o, s.heap.get? b = some o → (s.heap.push (frS w)).get? b = some o := fun b o e => Heap.get?_push_of_some _ e
  refine codeAny_mono (code_set_led1 (.ref l) (E := E) (Q₁ := fun obj s₁ => obj = .ref s.heap.objs.size ∧ s₁ = { s with heap := s.heap.push (frS w) }) ⟨rfl, rfl⟩) fun r s₁ hr => ?_
  rcases r with e | (_ | _ | _ | obj) <;> first | exact hr | exact hr.elim | skip
  obtain ⟨rfl, rfl⟩ := hr
  have at' : (s.heap.push (frS w)).get? s.heap.objs.size = some (frS w) := Heap.get?_push_size _ rfl
  have b1 : Shared.TypeIs { s with heap := s.heap.push (frS w) } (.ref s.heap.objs.size) "set" := ⟨_, at', rfl⟩
  have b2 := F.called_set.init.lookup
  have b3 := F.called_set.init.bind (.ref s.heap.objs.size)
  repeat (any_goals (first | assumption | wp_step))
  refine codeAny_mono (codeAny_call_builtin (R := wants (fun r s₂ => r = .none ∧ ∃ h' tk c, s₂ = { s with heap := h', toks := tk } ∧ SetR w h' s.heap.objs.size (fun j => decide (j ∈ ns)) c ∧ ∀ b o, s.heap.get? b = some o → h'.get? b = some o) E) F.called_set.init.plain F.entry_set_init (check_set_init_1 b1 ?_)) fun r₂ s₂ hr₂ => ?_
  · have hl' := kp l _ hl
    have c1 := F.sub_list_set
    have c2 := F.sub_list_frozenset
    have c3 : (Value.type "list" == Value.type "dict") = false := by decide
    have isl : (s.heap.push (frS w)).IsList l its.toArray := ⟨_, hl', rfl, n, rfl⟩
    unfold Builtin.«set.__init__» noKeywords Builtin.Frozenset.updateFrom
    generalize ePI : pyIter = PI
    wp_walk
    subst ePI
    refine wpAny_pyIter_list isl (wpAny_bind (wpAny_runValue ?_))
    have lt := Heap.lt_size hl
    have h3 : A.in1.in1.in1.handled = none := by simp [hh]
    have sz : (s.heap.push (frS w)).objs.size = s.heap.objs.size + 1 := Heap.size_push ..
    refine set_update_ints ((Walks.list h3 _ l (by rw [sz]; exact Nat.ne_of_lt (Nat.lt_succ_of_lt lt)) its.toArray).toS) s.heap.objs.size (by rw [sz]; simp only [List.mem_cons, List.not_mem_nil, or_false, not_or]; exact ⟨Nat.ne_of_lt (Nat.lt_succ_self _), Nat.ne_of_gt lt⟩) ns (by simpa using len) hb (fun i v hv => ?_) (its.toArray.size - 0) 0 _ (by omega) (Nat.zero_le _)
      ⟨⟨_, Heap.get?_push_size _ rfl, rfl, rfl⟩, (isl.push _)⟩ ⟨0, Nat.le_refl 0, setR_new_at (Heap.get?_push_of_some _ at')⟩ fun s' c' hm hc' hS' => ?_
    · have hv' : its[i]? = some v := by simpa using hv
      have hi' : i < ns.length := by rw [← len]; exact (List.getElem?_eq_some_iff.mp hv').1
      obtain ⟨t, e⟩ := hi.int_at i v hv'
      exact ⟨ns[i], t, List.getElem?_eq_getElem hi', by rw [e, List.getD_eq_getElem?_getD, List.getElem?_eq_getElem hi'] <;> rfl⟩
    · obtain ⟨h', g2, d', tk', os'⟩ := s'
      obtain rfl : g2 = s.gens := hm.gens
      obtain rfl : d' = s.drawn := hm.drawn
      obtain rfl : os' = s.os := hm.os
      refine wpAny_pure (show wpAny _ _ (ret Value.none) _ _ _ from wpAny_pure ⟨rfl, h', tk', c', rfl, hS', fun b o e => ?_⟩)
      have lb := Heap.lt_size e
      exact hm.heap b o (by rw [sz]; simp only [List.mem_cons, List.not_mem_nil, or_false, not_or]; exact ⟨Nat.ne_of_lt lb, Nat.ne_of_lt (Nat.lt_succ_of_lt lb)⟩) (Heap.get?_push_of_some _ (kp b o e))
  · rcases r₂ with e | (_ | _ | _ | r) <;> first | exact hr₂ | exact hr₂.elim | skip
    obtain ⟨rfl, h', tk, c', rfl, hS', hk'⟩ := hr₂
    repeat (any_goals (first | assumption | wp_step))
    exact go _ _ _ hS' hk'
end
end Mo
end
section
set_option maxHeartbeats 4000000
/-! sorted(..), sorted(set(..)), sorted({..}) in M. -/
namespace Mo
open PySem L2 PyProof.Rows He
section
variable {G : Gm} {E : WM} {X : Cx}
theorem ints_rel {ρ : List Addr} {H : Hp} : ∀ {ks : List Int} {vs : List V}, VRels G ρ H vs (ks.map .int) → vs = ks.map V.int
  | [], _, .nil => rfl
  | k :: ks, _, .cons q qs => by
    cases q
    rw [ints_rel qs]
    rfl
theorem rel_ints {ρ : List Addr} {H : Hp} : ∀ ks : List Int, VRels G ρ H (ks.map V.int) (ks.map .int)
  | [] => .nil
  | k :: ks => .cons (.int k) (rel_ints ks)
theorem bs_sorted : BiS G E (fun xs H Q => ∃ (a : Addr) (ns : List Int), xs = [V.ref a] ∧ SqL G.K H a (ns.map V.int) ∧ ∀ (ns' : List Int) (p : Addr), ns'.Perm ns → ns'.Pairwise (· ≤ ·) → H p = none → Leave Q (.ref p) (upd H p (.lst (ns'.map V.int)))) bSorted := by
  intro τ ρ H h ds vs Q r q w
  unfold bSorted at w
  split at w <;> first | exact False.elim w | skip
  obtain ⟨v, rfl, k⟩ := vs1 q
  split at w <;> first | exact False.elim w | skip
  rename_i xs e
  split at w <;> first | exact False.elim w | skip
  rename_i ks e2
  obtain ⟨p, us, rfl, hl, qs⟩ := r.seqL e k
  rw [intsOf_eq e2] at qs
  rw [ints_rel qs] at hl
  refine ⟨p, ks, rfl, hl, fun ns' p' pm pw hp => ?_⟩
  rw [sortI_eq pm pw]
  exact Leave.new w r (rel_ints _) hp
/-- sorted(x), left alone -/
theorem me_sorted {a : Expr} {es : List Expr} {as : MA} {x : Str} {p pos : Pos} (hK : X.K = G.K) (hg : Gl X x) (hm : X.mg x = none) (hv : bootBuiltins x = some (.builtin "sorted")) (ha : PA X (a :: es) (rdA G E as)) (hn : x ≠ "__name__" := by decide) (hdb : (x == ("__debug__" : Str)) = false := by decide)
    (he : starEach (a :: es) X.env = (false, eval a X.env) :: starEach es X.env := by rfl) (hpl : (backTo pos (starEach es X.env)).any (·.1) = false := by rfl) : PE X (.Call (.Name x p) (a :: es) [] pos) (rd G E (eBi bSorted as)) :=
  pe_w (pe_frz (pe_callB cr_sortedI hg hm hv ha hn hdb he hpl)) fun σ H Q ⟨ρ, env, h, hs, hr, w⟩ => ⟨ρ, env, h, hs, hr, w.seq fun x h1 ρ1 H1 v g1 r1 q1 w1 => by
    rw [hK]
    exact bs_sorted σ ρ1 H1 h1 x v Q r1 q1 w1⟩
theorem call_setI (hc : X.calm = true) : CallR X (.type "set") (fun xs H Q => ∃ (l : Addr) (ns : List Int), xs = [V.ref l] ∧ LX X.K H l (ns.map V.int) ∧ ns.length < MSET ∧ ∀ (a : Addr) (c : Nat), H a = none → Q (.ref a) (upd H a (SetO X.w a (fun j => decide (j ∈ ns)) c))) := by
  intro pins s σ H xs us Q I r h
  obtain ⟨l, ns, rfl, hl, hn, q⟩ := h
  rw [Vals.ref1 r]
  obtain ⟨_, its, n, rv, len, e⟩ := lx_at I hl
  refine set_of_list ns (I.ok.hd hc) e (ints_of_vals rv) (by unfold MSET at hn; unfold scanBound; omega) fun h' tk c R k => ?_
  refine ⟨.ref s.heap.objs.size, upd H s.heap.objs.size (SetO X.w s.heap.objs.size (fun j => decide (j ∈ ns)) c), ?_, rfl, q _ _ I.fresh⟩
  exact I.laid (t' := tk) k (Nat.le_refl _) (setO_new R)
theorem setO_len {w : World} {h : Heap} {a : Addr} {S : Int → Bool} {n : Nat} {ks : List Int} (R : SetR w h a S n) (m : ∀ k, S k = true ↔ k ∈ ks) : n = (sortU ks).length := by
  obtain ⟨o, es, ep, t, _, _, _, _, nd, mm, _, _, hn, _⟩ := R
  have nd2 : (sortU ks).Nodup := (sortU_pw ks).imp fun h => Int.ne_of_lt h
  have p : (es.toList.map L2.keyOf).Perm (sortU ks) := (List.perm_ext_iff_of_nodup nd nd2).mpr fun k => by rw [← mm k, m k, sortU_mem]
  have := p.length_eq
  rw [List.length_map] at this
  rw [← this, ← hn]
  simp
/-- sorted of a set, by what is in it -/
theorem cr_sortedSetM (hc : X.calm = true) : CallR X (.builtin "sorted") (fun vs H Q => ∃ (a : Addr) (S : Int → Bool) (n : Nat) (ks : List Int), vs = [V.ref a] ∧ H a = some (SetO X.w a S n) ∧ (∀ k, S k = true ↔ k ∈ ks) ∧ (sortU ks).length < 64 ∧ ∀ p, H p = none → Q (.ref p) (upd H p (.lst ((sortU ks).map V.int)))) := by
  intro pins s σ H xs us Q I r h
  obtain ⟨a, S, n, ks, rfl, ha, m, l, q⟩ := h
  refine cr_sortedSet hc pins s σ H _ us Q I r ⟨a, S, n, rfl, ha, by rw [setO_len (setO_get I ha) m]; exact l, fun ns p pw mm _ hp => ?_⟩
  rw [sortU_eq (fun j => (mm j).trans (m j)) pw]
  exact q p hp
section
variable {a : Expr} {ma : ME} {x y : Str} {p p2 pos pos2 : Pos}
/-- sorted(set(x)) -/
theorem me_sortSet (hc : X.calm = true) (hK : X.K = G.K) (hg : Gl X x) (hm : X.mg x = none) (hv : bootBuiltins x = some (.builtin "sorted")) (hg2 : Gl X y) (hm2 : X.mg y = none) (hv2 : bootBuiltins y = some (.type "set")) (ha : PE X a (rd G E ma)) (hn : x ≠ "__name__" := by decide) (hdb : (x == ("__debug__" : Str)) = false := by decide) (hn2 : y ≠ "__name__" := by decide) (hdb2 : (y == ("__debug__" : Str)) = false := by decide)
    (hs : starEach [a] X.env = (false, eval a X.env) :: starEach [] X.env := by rfl) (hpl : (backTo pos2 (starEach [] X.env)).any (·.1) = false := by rfl)
    (hs2 : starEach [.Call (.Name y p2) [a] [] pos2] X.env = (false, eval (.Call (.Name y p2) [a] [] pos2) X.env) :: starEach [] X.env := by rfl) (hpl2 : (backTo pos (starEach [] X.env)).any (·.1) = false := by rfl) :
    PE X (.Call (.Name x p) [.Call (.Name y p2) [a] [] pos2] [] pos) (rd G E (eSortSet ma)) :=
  pe_w (pe_frz (pe_callB (cr_sortedSetM hc) hg hm hv (pa_cons (pe_callTy (call_setI hc) hg2 hm2 hv2 (pa_cons ha pa_nil hs) hn2 hdb2 hs hpl) pa_nil hs2) hn hdb hs2 hpl2)) fun σ H Q ⟨ρ, env, h, hs, hr, w⟩ => ⟨ρ, env, h, hs, hr, w.seq fun d h1 ρ1 H1 v g1 r1 q1 w1 => by
    unfold sortSetR at w1
    split at w1 <;> first | exact False.elim w1 | skip
    rename_i xs e
    split at w1 <;> first | exact False.elim w1 | skip
    rename_i ks e2
    obtain ⟨c, w1⟩ := Wp.ifR w1
    obtain ⟨c1, c2⟩ := Bool.and_eq_true_iff.mp c
    obtain ⟨l, us, rfl, hl, qs⟩ := seq_lx r1 e q1
    rw [intsOf_eq e2] at qs
    rw [ints_rel qs] at hl
    rw [hK]
    refine ⟨l, ks, rfl, hl, of_decide_eq_true c1, fun a n ha => ?_⟩
    refine ⟨a, _, n, ks, rfl, upd_same, fun k => by simp, of_decide_eq_true c2, fun p hp => ?_⟩
    have g := Grow.tmp (ρ := ρ1) ha (SetO X.w a (fun j => decide (j ∈ ks)) n)
    exact Leave.new (Wp.grow g w1) (r1.tmp ha _) (rel_ints _) hp⟩
end
end
end Mo
end
section
set_option maxHeartbeats 4000000
/-! sorted({.. for ..}) in M. -/
namespace Mo
open PySem L2 PyProof.Rows He
section
variable {G : Gm} {E : WM} {X : Cx} {ma : ME}
theorem rd_setC {w0 : World} {mi : MI} {own : List Nat} {one : Bool} {is : List Nat} {t : MT} {g : TG} (fin : List Int → Hm → R D) (hb : BdOk G (bindC one is) g own) (σ : L2.St) (H : Hp) (Q Q' : VK)
    (hf : ∀ ρ1 H1 ρ2 H2 h2 S n ks L, H1 L = none → Grow ρ1 H1 ρ2 H2 → HRel G ρ2 H2 h2 → L ∉ ρ2 → H2 L = some (SetO w0 L S n) → (∀ k, S k = true ↔ k ∈ ks) → Wp G (atW E σ) (VRel G) (fin ks h2) ρ1 H1 Q → Q' (.ref L) H2)
    (w : rd G E (fun σ h => (mi σ h).bind fun J h1 => (setGo (bindC one is) t ma J.ok (wipe σ own) J.xs [] h1).bind fin) σ H Q) : tScI w0 (rdI G E mi) g (rdT G EW t) (rd G EW ma) own σ H Q' := by
  obtain ⟨ρ, env, h, hs, hr, w⟩ := w
  refine ⟨ρ, env, h, hs, hr, Wp.seq w fun J h1 ρ1 H1 JJ g1 r1 y w1 => ?_⟩
  intro L hL
  have s1 := hs.grow g1
  have gL := Grow.tmp (ρ := ρ1) hL (SetO w0 L (fun _ => false) 0)
  let Wn : Nat → Hp → Prop := fun i H2 => i ≤ J.xs.length ∧ ∃ ρ2 h2 ks S n, Grow ρ1 H1 ρ2 H2 ∧ HRel G ρ2 H2 h2 ∧ L ∉ ρ2 ∧ H2 L = some (SetO w0 L S n) ∧ (∀ k, S k = true ↔ k ∈ ks) ∧ n ≤ ks.length ∧
    Wp G (atW E σ) (VRel G) ((setGo (bindC one is) t ma J.ok (wipe env own) (J.xs.drop i) ks h2).bind fin) ρ1 H1 Q
  refine ⟨fun i m H2 => m = J.xs.length - i ∧ Wn i H2, ⟨_, rfl, Nat.zero_le _, ρ1, h1, [], _, 0, gL, r1.tmp hL _, r1.fresh hL, upd_same, fun k => by simp, Nat.le_refl _, w1⟩, ?_⟩
  rintro i m H2 ⟨rfl, hle, ρ2, h2, ks, S, n, g2, r2, n2, e2, mem, nle, w2⟩
  by_cases hlt : i < J.xs.length
  · rw [List.drop_eq_getElem_cons hlt] at w2
    unfold setGo at w2
    split at w2 <;> first | exact False.elim w2 | skip
    rename_i env3 ok eb
    refine .inr ⟨y.go ρ2 H2 h2 i g2 r2 ok hlt, Wn (i + 1), fun H' q => ⟨J.xs.length - (i + 1), by omega, rfl, q⟩, fun x H3 yl => ?_⟩
    obtain ⟨ρ3, g3, r3, q3⟩ := y.yld ρ2 H2 h2 i x H3 g2 r2 ok yl J.xs[i] (by simp [hlt])
    refine hb ρ3 H3 J.xs[i] x _ env3 _ q3 (((s1.grow g2).grow g3).wipe own) eb _ fun σ4 s4 ew => ⟨by rw [ew, wipe_wipe], ρ3, env3, h2, s4, r3, ?_⟩
    obtain ⟨e3, n3⟩ := g3.out L _ e2 n2
    let P : R (List Int) → Prop := fun r => Wp G (atW E σ) (VRel G) (r.bind fin) ρ1 H1 Q
    refine Wp.seqQ P (fun z => z) w2 fun k h4 ρ4 H4 b g4 r4 q4 w4 => ?_
    obtain rfl : b = k := q4
    obtain ⟨e4, n4⟩ := g4.out L _ e3 n3
    have gg := (g2.trans g3).trans g4
    cases b with
    | false => exact ⟨hlt, ρ4, h4, ks, S, n, gg, r4, n4, e4, mem, nle, w4⟩
    | true =>
      show rd G EW ma σ4 H4 _
      refine ⟨ρ4, env3, h4, s4.grow g4, r4, Wp.seqQ P (fun z => z) w4 fun d h5 ρ5 H5 v g5 r5 q5 w5 => ?_⟩
      obtain ⟨e5, n5⟩ := g5.out L _ e4 n4
      cases q5 with
      | int k =>
        have w5 : P (ifR (decide (ks.length < MSET)) (setGo (bindC one is) t ma J.ok (wipe env own) (J.xs.drop (i + 1)) (ks ++ [k]) h5)) := w5
        cases c : decide (ks.length < MSET) with
        | false => rw [c] at w5; exact False.elim w5
        | true =>
          rw [c] at w5
          have c := of_decide_eq_true c
          obtain ⟨r6, x6⟩ := r5.aside (u' := SetO w0 L (fun j => S j || decide (j = k)) (if S k = true then n else n + 1)) n5 e5 trivial
          have g6 := gg.trans g5
          refine ⟨k, S, n, rfl, e5, by unfold MSET at c; unfold scanBound; omega, hlt, ρ5, h5, ks ++ [k], _, _, ⟨g6.pre, fun b xs e => ?_, fun b o u e => ?_, fun b o e nn kt => ?_⟩, r6, n5, upd_same, fun j => ?_, ?_, w5⟩
          · rw [upd_ne (ne_of_none e hL)]; exact g6.tup b xs e
          · rw [upd_ne (ne_of_none e hL)]; exact g6.frz b o u e
          · rw [upd_ne (ne_of_none e hL)]; exact g6.out b o e nn kt
          · rw [Bool.or_eq_true, mem j, decide_eq_true_eq, List.mem_append, List.mem_singleton]
          · rw [List.length_append, List.length_singleton]
            split <;> omega
      | _ => exact False.elim w5
  · have e : i = J.xs.length := by omega
    subst e
    rw [List.drop_length] at w2
    unfold setGo at w2
    cases ok : J.ok h2 with
    | false => rw [ok] at w2; exact False.elim w2
    | true =>
      rw [ok] at w2
      exact .inl ⟨y.stop ρ2 H2 h2 _ g2 r2 ok (Nat.le_refl _), hf ρ1 H1 ρ2 H2 h2 S n ks L hL g2 r2 n2 e2 mem w2⟩
variable {tg it elt : Expr} {ifs : List Expr} {scope : Scope} {own : List (Str × Nat)} {mi : MI} {t : MT} {one : Bool} {is : List Nat} {g : TG} {x : Str} {p pos pos2 : Pos}
theorem me_sortC (hc : X.calm = true) (hN : X.N.Nodup) (hg0 : Gl X x) (hm : X.mg x = none) (hv : bootBuiltins x = some (.builtin "sorted")) (hi : PI X tg it (rdI G E mi)) (ok : BlkOk X.N X.env.scope scope own) (hbd : BdOk G (bindC one is) g (own.map (·.2)))
    (hg : ∀ (s : Shared) (H : Hp) (C : Addr) (cl : List (Str × Addr)) (fp : List Addr), PG (X.blk s H scope (compEnvC scope cl C X.env) fp) tg g) (ht : ∀ (s : Shared) (H : Hp) (C : Addr) (cl : List (Str × Addr)) (fp : List Addr), PTs (X.blk s H scope (compEnvC scope cl C X.env) fp) ifs (rdT G EW t))
    (he : ∀ (s : Shared) (H : Hp) (C : Addr) (cl : List (Str × Addr)) (fp : List Addr), PE (X.blk s H scope (compEnvC scope cl C X.env) fp) elt (rd G EW ma)) (hs : ∀ x, foldedSetIterable it X.env x = pure x := by intro _; rfl) (hn : x ≠ "__name__" := by decide) (hdb : (x == ("__debug__" : Str)) = false := by decide)
    (hs2 : starEach [.SetComp elt [⟨tg, it, ifs, 0⟩] scope pos2] X.env = (false, eval (.SetComp elt [⟨tg, it, ifs, 0⟩] scope pos2) X.env) :: starEach [] X.env := by rfl) (hpl2 : (backTo pos (starEach [] X.env)).any (·.1) = false := by rfl) :
    PE X (.Call (.Name x p) [.SetComp elt [⟨tg, it, ifs, 0⟩] scope pos2] [] pos) (rd G E (eSortC mi (own.map (·.2)) one is t ma)) :=
  pe_w (pe_frz (pe_callB (cr_sortedSetM hc) hg0 hm hv (pa_cons (pe_scI hc hN hi ok hg ht he hs) pa_nil hs2) hn hdb hs2 hpl2)) fun σ H Q w =>
    rd_setC (w0 := X.w) (fun ks h2 => ifR (decide ((sortU ks).length < 64)) (.ok (.kl ((sortU ks).map .int)) h2)) hbd σ H Q (fun v H1 => ∃ a S n ks, [v] = [V.ref a] ∧ H1 a = some (SetO X.w a S n) ∧ (∀ k, S k = true ↔ k ∈ ks) ∧ (sortU ks).length < 64 ∧ ∀ p, H1 p = none → Leave Q (.ref p) (upd H1 p (.lst ((sortU ks).map V.int)))) (fun ρ1 H1 ρ2 H2 h2 S n ks L hL g2 r2 n2 e2 mem w2 => by
      obtain ⟨c, w2⟩ := Wp.ifR w2
      exact ⟨L, S, n, ks, rfl, e2, mem, of_decide_eq_true c, fun p hp => Leave.new (Wp.grow g2 w2) r2 (rel_ints _) hp⟩) w
end
end Mo
end
section
/-! len, repr of own instances; str; f-strings. -/
namespace Mo
open PySem L2 PyProof.Rows He
section
variable {G : Gm} {E : WM} {X : Cx}
abbrev E0x : XK := fun _ _ _ => False
/-- the def at f called in A: F -/
def CallsIn (X : Cx) (G : Gm) (A : Around) (f : Addr) (n : Nat) (F : Fn) : Prop := ∀ (pins : List (Addr × Obj)) (s : Shared) (σ : L2.St) (H : Hp) (us : List Value) (vs : List V) (ρ : List Addr) (h : Hm) (ds : List D) (Q : VK), Inv X pins σ H s → Vals vs us → HRel G ρ H h → VRels G ρ H vs ds → ds.length = n →
  Wp G E0x (VRel G) (F ds h) ρ H Q → wpAny (model X.prog X.w) A (call (.ref f) us) (EP X pins σ Q) X.xe s
theorem OkD.callsIn {A : Around} {j k n : Nat} {d : DefD} {ps : List Str} {F : Fn} (O : OkD X.prog X.w X.K X.mg X.base k d ps F G) (B : Form X.K G d ps n [] (fun ds _ => ds)) (rg : RG j A) (he : ∀ {pins : List (Addr × Obj)} {σ : L2.St} {H : Hp} {s : Shared}, Inv X pins σ H s → Env0 X.prog X.w X.K X.mg X.base A X.stack s H) (hkj : k ≤ j := by decide) : CallsIn X G A (fAd X.K d.at_) n F := by
  obtain ⟨fd, FD, FG⟩ := O
  obtain ⟨gV, b1, b2, b3⟩ := B
  obtain ⟨g, kb⟩ := b1 fd FD
  intro pins s σ H us vs ρ h ds Q I rv hr qv hn w
  have l1 : us.length = n := by rw [← rv.length, qv.length, hn]
  obtain ⟨k1, k2⟩ := b2 ρ H vs ds [] [] qv .nil hn rfl
  have kb1 := kb.to s us [] I.kIn l1 rfl
  refine wpAny_call (codeAny_mono (FG.go A (rg.mono hkj) X.stack s H ⟨us, []⟩ (g us []) (gV vs []) Q E0x (he I) kb1 (kb.rel rv .nil) ⟨ρ, ds, h, hr, k1, by rw [k2]; exact b3 ds [] hn rfl, w⟩) fun r s' hq => ?_)
  cases r with
  | error e => exact (passEW pins σ H s e s' I hq)
  | ok fl =>
    cases fl with
    | ret u => exact I.after hq
    | _ => exact (hq : False).elim
/-- which def stands for a class's own m -/
def SlotF (X : Cx) (G : Gm) (A : Around) (m : Str) (n : Nat) (ms : List (Nat × Fn)) : Prop := ∀ c F, pickF c ms = some F → ∃ f, Meth X.K (G.cA c) m f ∧ CallsIn X G A f n F
theorem slotF_nil {A : Around} {m : Str} {n : Nat} : SlotF X G A m n [] := fun c F e => nomatch e
theorem slotF_cons {A : Around} {m : Str} {n c : Nat} {f : Addr} {F : Fn} {ms : List (Nat × Fn)} (h2 : Meth X.K (G.cA c) m f) (h3 : CallsIn X G A f n F) (hr : SlotF X G A m n ms) : SlotF X G A m n ((c, F) :: ms) := fun d F' e => by
  have e : (if c = d then some F else pickF d ms) = some F' := e
  by_cases k : c = d
  · rw [if_pos k] at e
    cases e
    subst k
    exact ⟨f, h2, h3⟩
  · rw [if_neg k] at e
    exact hr d F' e
def rOwn1 (G : Gm) (ms : List (Nat × Fn)) (chk : D → Hm → R D) : List V → Hp → VK → Prop := fun xs H Q => ∃ ρ h l a F, xs = [.ref a] ∧ HRel G ρ H h ∧ ρ[l]? = some a ∧ ownM ms h (.loc l) = some F ∧ Wp G E0x (VRel G) ((F [.loc l] h).quiet.bind chk) ρ H Q
theorem quiet_wp {E' : XK} {ρ : List Addr} {H : Hp} {r : R D} {chk : D → Hm → R D} {Q Q1 : VK} (w : Wp G E' (VRel G) (r.quiet.bind chk) ρ H Q) (k : ∀ d h' ρ' H' v, Grow ρ H ρ' H' → HRel G ρ' H' h' → VRel G ρ' H' v d → Wp G E' (VRel G) (chk d h') ρ' H' Q → Q1 v H') : Wp G E0x (VRel G) r ρ H Q1 := by
  cases r with
  | ok d h' => exact fun ρ' H' v g hr q => k d h' ρ' H' v g hr q (Wp.grow g w)
  | exc c l h' => exact False.elim w
  | bad => exact w
theorem own_at {ρ : List Addr} {H : Hp} {h : Hm} {l : Nat} {a : Addr} {ms : List (Nat × Fn)} {F : Fn} (r : HRel G ρ H h) (hl : ρ[l]? = some a) (e : ownM ms h (.loc l) = some F) : ∃ c dx fvs, H a = some (.ins (G.cA c) dx fvs) ∧ pickF c ms = some F := by
  simp only [ownM] at e
  split at e <;> first | (cases e; done) | skip
  rename_i c fs e1
  obtain ⟨dx, fvs, e2, _⟩ := r.at e1 hl
  exact ⟨c, dx, fvs, e2, e⟩
theorem call_lenOwn {ms : List (Nat × Fn)} (hM : SlotF X G X.A.in1 "__len__" 1 ms) : CallR X (.builtin "len") (rOwn1 G ms chkLen) := by
  intro pins s σ H xs us Q I r hh
  obtain ⟨ρ, h, l, a, F, rfl, hr, hl, e, w⟩ := hh
  rw [Vals.ref1 r]
  obtain ⟨c, dx, fvs, ea, ep⟩ := own_at hr hl e
  obtain ⟨f, M, cf⟩ := hM c F ep
  obtain ⟨mA, O, _⟩ := ins_get I.hok ea
  obtain ⟨od, J, _⟩ := O.look
  obtain ⟨m, hF⟩ := I.fr
  refine PySem.W.len_K hF I.ok.mod.kin J M.at_ M.fn (wpAny_mono (cf pins s σ H [.ref a] [.ref a] ρ h [.loc l] (fun v H' => ∃ i : Int, v = .int i ∧ (0 ≤ i ∧ i < 2 ^ 63) ∧ Q (.int i) H') I (.cons rfl .nil) hr (.cons (.loc hl) .nil) rfl (quiet_wp w fun d h' ρ' H' v g r' q w' => ?_)) (fun u s' hu => ?_) fun _ _ x => x)
  · unfold chkLen at w'
    split at w' <;> first | exact False.elim w' | skip
    cases q
    obtain ⟨c, w'⟩ := Wp.ifR w'
    exact ⟨_, rfl, of_decide_eq_true c, w'.val r' (.int _)⟩
  · obtain ⟨v, H', I', rv, i, rfl, hi, q⟩ := hu
    obtain ⟨t, rfl⟩ := rv
    exact ⟨hi, .int i, H', I'.tok _, ⟨_, rfl⟩, q⟩
theorem call_reprOwn {ms : List (Nat × Fn)} (hu : X.A.in1.units < cLine) (hM : SlotF X G X.A.in1 "__repr__" 1 ms) : CallR X (.builtin "repr") (rOwn1 G ms chkStr) := by
  intro pins s σ H xs us Q I r hh
  obtain ⟨ρ, h, l, a, F, rfl, hr, hl, e, w⟩ := hh
  rw [Vals.ref1 r]
  obtain ⟨c, dx, fvs, ea, ep⟩ := own_at hr hl e
  obtain ⟨f, M, cf⟩ := hM c F ep
  obtain ⟨mA, O, _⟩ := ins_get I.hok ea
  obtain ⟨od, J, _⟩ := O.look
  obtain ⟨m, hF⟩ := I.fr
  refine PySem.W.repr_K hu hF I.ok.mod.kin J M.at_ M.fn (wpAny_mono (cf pins s σ H [.ref a] [.ref a] ρ h [.loc l] (fun v H' => ∃ i : Str, v = .str i ∧ Q (.str i) H') I (.cons rfl .nil) hr (.cons (.loc hl) .nil) rfl (quiet_wp w fun d h' ρ' H' v g r' q w' => ?_)) (fun u s' hu => ?_) fun _ _ x => x)
  · unfold chkStr at w'
    split at w' <;> first | exact False.elim w' | skip
    cases q
    exact ⟨_, rfl, w'.val r' (.str _)⟩
  · obtain ⟨v, H', I', rv, i, rfl, q⟩ := hu
    obtain ⟨t, rfl⟩ := rv
    exact ⟨.str i, H', I', ⟨_, rfl⟩, q⟩
theorem rg_in1 {A : Around} {k : Nat} (rg : RG (k + 1) A) : RG k A.in1 := ⟨rg.r.in1, rg.g⟩
/-- .. or else by the built-in's own way -/
theorem bs_own1 {ms : List (Nat × Fn)} {chk : D → Hm → R D} {b : Bi} {r : List V → Hp → VK → Prop} (hb : BiS G E r b) (hq : ∀ (x : D) (h : Hm) (E1 E2 : XK) ρ H Q, Wp G E1 (VRel G) (chk x h) ρ H Q → Wp G E2 (VRel G) (chk x h) ρ H Q) : BiS G E (fun xs H Q => r xs H Q ∨ rOwn1 G ms chk xs H Q) (bOwn1 ms chk b) := by
  intro τ ρ H h ds vs Q hr q w
  unfold bOwn1 at w
  split at w
  · rename_i x
    split at w
    · rename_i F e
      obtain ⟨v, rfl, k⟩ := vs1 q
      cases k with
      | @loc a l hl =>
        refine .inr ⟨ρ, h, l, a, F, rfl, hr, hl, e, ?_⟩
        cases e2 : F [.loc l] h with
        | ok d h' => rw [e2] at w; exact hq d h' _ _ ρ H Q w
        | exc c l h' => rw [e2] at w; exact False.elim w
        | bad => rw [e2] at w; exact False.elim w
      | _ => cases e
    · exact .inl (hb τ ρ H h _ vs Q hr q w)
  · exact .inl (hb τ ρ H h _ vs Q hr q w)
theorem bs_lenU {ms : List (Nat × Fn)} : BiS G E (fun xs H Q => rLen G.K xs H Q ∨ rOwn1 G ms chkLen xs H Q) (bLenU ms) := bs_own1 bs_len fun x h E1 E2 ρ H Q w => by
  unfold chkLen ifR at w ⊢
  split at w <;> first | exact False.elim w | skip
  split at w
  · exact w
  · exact False.elim w
theorem bs_reprU {ms : List (Nat × Fn)} : BiS G E (fun xs H Q => rRepr G.K xs H Q ∨ rOwn1 G ms chkStr xs H Q) (bReprU ms) := bs_own1 bs_repr fun x h E1 E2 ρ H Q w => by
  unfold chkStr at w ⊢
  split at w
  · exact w
  · exact False.elim w
theorem cl_lenU {ms : List (Nat × Fn)} (hK : X.K = G.K) (hM : SlotF X G X.A.in1 "__len__" 1 ms) : CallR X (.builtin "len") (fun xs H Q => rLen G.K xs H Q ∨ rOwn1 G ms chkLen xs H Q) := by
  rw [← hK]
  exact cl_len.or (call_lenOwn hM)
theorem cl_reprU {ms : List (Nat × Fn)} {k : Nat} (hK : X.K = G.K) (rg : RG (k + 1) X.A) (hM : SlotF X G X.A.in1 "__repr__" 1 ms) : CallR X (.builtin "repr") (fun xs H Q => rRepr G.K xs H Q ∨ rOwn1 G ms chkStr xs H Q) := by
  rw [← hK]
  exact (cl_repr rg).or (call_reprOwn (rg_in1 rg).r.units0 hM)
/-! ### str -/
theorem cl_str : CallR X (.type "str") (fun xs H Q => (∃ i, xs = [.int i] ∧ i.natAbs.log2 < 1920 ∧ Q (.str (toString i)) H) ∨ ∃ a, xs = [.str a] ∧ Q (.str a) H) := call_str_int.or SkE.call_str_str
theorem bs_str : BiS G E (fun xs H Q => (∃ i, xs = [.int i] ∧ i.natAbs.log2 < 1920 ∧ Q (.str (toString i)) H) ∨ ∃ a, xs = [.str a] ∧ Q (.str a) H) bStr := by
  intro τ ρ H h ds vs Q r q w
  unfold bStr at w
  split at w <;> first | exact False.elim w | skip
  · obtain ⟨v, rfl, k⟩ := vs1 q
    cases k
    obtain ⟨c, w⟩ := Wp.ifR w
    exact .inl ⟨_, rfl, of_decide_eq_true c, w.val r (.str _)⟩
  · obtain ⟨v, rfl, k⟩ := vs1 q
    cases k
    exact .inr ⟨_, rfl, w.val r (.str _)⟩
/-! ### f-strings -/
theorem me_fmt {a : Expr} {ma : ME} {pos : Pos} (ha : PE X a (rd G E ma)) : PE X (.FormattedValue a (-1) none pos) (rd G E (eFmt ma)) :=
  pe_w (pe_fmt ha) fun σ H Q ⟨ρ, env, h, hs, hr, w⟩ => ⟨ρ, env, h, hs, hr, w.seq fun x h1 ρ1 H1 v g1 r1 q1 w1 => by
    unfold fmtR at w1
    split at w1 <;> first | exact False.elim w1 | skip
    · cases q1
      obtain ⟨c, w1⟩ := Wp.ifR w1
      exact .inr ⟨_, rfl, of_decide_eq_true c, w1.val r1 (.str _)⟩
    · cases q1
      obtain ⟨c, w1⟩ := Wp.ifR w1
      exact .inl ⟨_, rfl, sl_le (of_decide_eq_true c), w1.val r1 (.str _)⟩⟩
inductive PJm (X : Cx) (G : Gm) (E : WM) : List Expr → List ME → Prop
  | nil : PJm X G E [] []
  | cons {e : Expr} {m : ME} {es : List Expr} {ms : List ME} (h : PE X e (rd G E m)) (r : PJm X G E es ms) : PJm X G E (e :: es) (m :: ms)
theorem PJm.pj {es : List Expr} {ms : List ME} (h : PJm X G E es ms) : PJ X es (ms.map (rd G E)) := by
  induction h with
  | nil => exact .nil
  | cons h _ ih => exact .cons h ih
theorem join_rd : ∀ {ms : List ME} {acc : Str} {ρ : List Addr} {σ : L2.St} {env : Env} {H : Hp} {h : Hm} {Q : VK}, SRel G ρ H σ env → HRel G ρ H h → Wp G (atW E σ) (VRel G) (joinGo ms acc env h) ρ H Q → tJs (ms.map (rd G E)) acc σ H fun out H1 => Q (.str out) H1
  | [], acc, ρ, σ, env, H, h, Q, hs, hr, w => Wp.val w hr (.str acc)
  | m :: ms, acc, ρ, σ, env, H, h, Q, hs, hr, w => by
    have w : Wp G (atW E σ) (VRel G) ((m env h).bind fun x h1 => match x with | .str y => ifR (decide ((acc ++ y).length ≤ SL)) (joinGo ms (acc ++ y) env h1) | _ => .bad) ρ H Q := w
    refine ⟨ρ, env, h, hs, hr, w.seq fun x h1 ρ1 H1 v g1 r1 q1 w1 => ?_⟩
    split at w1 <;> first | exact False.elim w1 | skip
    cases q1
    obtain ⟨c, w1⟩ := Wp.ifR w1
    exact ⟨_, rfl, sl_le (of_decide_eq_true c), join_rd (hs.grow g1) r1 w1⟩
theorem me_fs {e1 e2 : Expr} {es : List Expr} {ms : List ME} {pos : Pos} (h : PJm X G E (e1 :: e2 :: es) ms) : PE X (.JoinedStr (e1 :: e2 :: es) pos) (rd G E (eFs ms)) :=
  pe_w (pe_joined h.pj) fun σ H Q ⟨ρ, env, hh, hs, hr, w⟩ => join_rd hs hr w
theorem me_fs1 {e : Expr} {m : ME} {pos : Pos} (h : PE X e (rd G E m)) : PE X (.JoinedStr [e] pos) (rd G E m) := pe_joined1 h
end
end Mo
end
section
/-! Exception classes by the top's facts; try by such. -/
namespace Mo
open PySem L2 PyProof.Rows He
def valB (o : Option PySem.W.CFound) (id : String) : Bool := match o with
  | some (.val (.builtin n)) => decide (n = id)
  | _ => false
theorem valB_ok {o : Option PySem.W.CFound} {id : String} (h : valB o id = true) : o = some (.val (.builtin id)) := by
  unfold valB at h
  split at h
  · rw [of_decide_eq_true h]
  · cases h
/-- B.__init__, B a built-in exception -/
def biB (K : PySem.W.Frag) (B initId : String) : Bool := valB (PySem.W.findCls K (.type B) (.type "type") "__init__") initId
/-- x.__init__, x an own class without one -/
def ciB (K : PySem.W.Frag) (x : Str) (initId : String) : Bool := eqO (PySem.W.specialIn K (.ref (ga K x)) "__getattribute__") (some (some (.builtin "type.__getattribute__"))) && (PySem.W.readsIn K (ga K x) (.type "type") && valB (PySem.W.findCls K (.ref (ga K x)) (.type "type") "__init__") initId)
section
variable {X : Cx} {B newId initId : String} {tl : List Value} {x f g : Str} {ts : TS}
/-- how an __init__ calls the one of its base -/
structure BIn (X : Cx) (tl : List Value) (newId : String) (x : Str) : Prop where
  go : ∀ {e : Expr} {es : List Expr} {ta : TA} {p1 p2 pos : Pos} {pl : Sem Bool}, PA X (e :: es) ta → (x == ("__debug__" : Str)) = false →
    (eval (.Call (.Attribute (.Name x p1) "__init__" p2) (e :: es) [] pos) X.env = (do
      let ov ← eval (.Name x p1) X.env
      standAt p2.atName
      let (f, first) ← holding [ov] (getMethod ov "__init__" pl)
      callWith pos f first (backTo pos (starEach (e :: es) X.env)) (backToKw pos (keywordEach [] X.env)))) →
    starEach (e :: es) X.env = (false, eval e X.env) :: starEach es X.env → (backTo pos (starEach es X.env)).any (·.1) = false → PE X (.Call (.Attribute (.Name x p1) "__init__" p2) (e :: es) [] pos) (tXI X.K tl newId ta)
theorem bin_b (Fb : BaF B newId initId tl) (hg : Gl X x) (hm : X.mg x = none) (hv : bootBuiltins x = some (.type B)) (vV : biB X.K B initId = true) (hty : PySem.W.kitMeta B = true := by decide +kernel) (hst : Manifest.isStub B = false := by decide +kernel) (hh : PySem.W.handedIn (.builtin initId) = true := by decide +kernel)
    (hn : x ≠ "__name__" := by decide) : BIn X tl newId x := ⟨fun ha hdb hc he hpl => pe_binit Fb hg hm hv (PySem.W.kitMeta_of hty) hst hh (valB_ok vV) ha hn hdb hc he hpl⟩
theorem bin_c (Fb : BaF B newId initId tl) (hg : Gl X x) (hm : X.mg x = some (.ref (ga X.K x))) (vV : ciB X.K x initId = true) (hh : PySem.W.handedIn (.builtin initId) = true := by decide +kernel) : BIn X tl newId x := ⟨fun ha hdb hc he hpl => by
  obtain ⟨a, b⟩ := ba vV
  obtain ⟨b, c⟩ := ba b
  exact pe_cinit Fb hg hm (eqO_ok a) b hh (valB_ok c) ha hdb hc he hpl⟩
end
/-- the exceptions' answers to a clause: ks may come, cs are caught -/
def tryB (K : PySem.W.Frag) (cA : Nat → Addr) (us : List Value) (ks cs : List Nat) : Bool := ks.all fun c => decide (PySem.W.exmAny K (.ref (cA c)) us = some (cs.contains c))
def tryB1 (K : PySem.W.Frag) (cA : Nat → Addr) (u : Value) (ks cs : List Nat) : Bool := ks.all fun c => decide (PySem.W.exmOne K (.ref (cA c)) u = some (cs.contains c))
theorem tryB_ok {K : PySem.W.Frag} {cA : Nat → Addr} {us : List Value} {ks cs : List Nat} (h : tryB K cA us ks cs = true) : ∀ c, ks.contains c = true → PySem.W.exmAny K (.ref (cA c)) us = some (cs.contains c) := fun c k => of_decide_eq_true (List.all_eq_true.mp h c (by simpa using k))
theorem tryB1_ok {K : PySem.W.Frag} {cA : Nat → Addr} {u : Value} {ks cs : List Nat} (h : tryB1 K cA u ks cs = true) : ∀ c, ks.contains c = true → PySem.W.exmOne K (.ref (cA c)) u = some (cs.contains c) := fun c k => of_decide_eq_true (List.all_eq_true.mp h c (by simpa using k))
theorem names_own {X : Cx} {x : Str} (hg : Gl X x) (hm : X.mg x = some (.ref (ga X.K x))) (hd : (x == ("__debug__" : Str)) = false := by decide) : Names X x (.ref (ga X.K x)) := ⟨hg, hd, .inl hm⟩
theorem names_ty {X : Cx} {x : Str} {T : String} (hg : Gl X x) (hm : X.mg x = none) (hv : bootBuiltins x = some (.type T) := by rfl) (hn : x ≠ "__name__" := by decide) (hd : (x == ("__debug__" : Str)) = false := by decide) : Names X x (.type T) := ⟨hg, hd, .inr ⟨hm, hv, hn⟩⟩
end Mo
end
section
/-! Still more of M. -/
namespace Mo
open PySem
/-- a slice of a list (left alone) or of a tuple -/
def slX (x : D) (l u : Option Int) (h : Hm) : R D := match x with
  | .tup xs => .ok (.tup (cutL xs l u)) h
  | x => match h.seq x with
    | some xs => .ok (.kl (cutL xs l u)) h
    | none => .bad
def eSlX (a : ME) (lo hi : MO) : ME := fun σ h => (a σ h).bind fun x h1 => (lo σ h1).bind fun l h2 => (hi σ h2).bind fun u h3 => slX x l u h3
section
variable {E : XE} {σ : Env} {h : Hm} {Q : D → Hm → Prop} {a : ME}
theorem ev_slX {lo hi : MO} (q : Ev E (a σ h) fun x h1 => Ev E (lo σ h1) fun l h2 => Ev E (hi σ h2) fun u h3 => Ev E (slX x l u h3) Q) : Ev E (eSlX a lo hi σ h) Q := ev_bind (q.mono fun x h1 w => ev_bind (w.mono fun l h2 w => ev_bind w))
theorem ev_slXT {xs : List D} {l u : Option Int} (q : Q (.tup (cutL xs l u)) h) : Ev E (slX (.tup xs) l u h) Q := q
theorem ev_slXK {xs : List D} {l u : Option Int} (q : Q (.kl (cutL xs l u)) h) : Ev E (slX (.kl xs) l u h) Q := q
theorem ev_slXL {k : Nat} {xs : List D} {l u : Option Int} (e : h.g k = some (.lst xs)) (q : Q (.kl (cutL xs l u)) h) : Ev E (slX (.loc k) l u h) Q := by
  unfold slX Hm.seq
  simp only [e]
  exact q
end
end Mo
end
section
/-! Still more of M: methods of lists and of dicts, for what cores do. -/
namespace Mo
open PySem
def mReverse : Mb
  | .loc l, [], h => match h.g l with
    | some (.lst xs) => .ok .non (h.put l (.lst xs.reverse))
    | _ => .bad
  | _, _, _ => .bad
def mClear : Mb
  | .loc l, [], h => match h.g l with
    | some (.lst _) => .ok .non (h.put l (.lst []))
    | _ => .bad
  | _, _, _ => .bad
/-- list.remove of a whole number, in a list of whole numbers that holds it -/
def mRemove : Mb
  | .loc l, [.int k], h => match h.g l with
    | some (.lst xs) => match intsOf xs with
      | some ks => ifR (decide (k ∈ ks)) (.ok .non (h.put l (.lst ((ks.erase k).map .int))))
      | none => .bad
    | _ => .bad
  | _, _, _ => .bad
/-- the keys of a dict, all whole numbers -/
def intK : List (Key × D) → Option (List Int)
  | [] => some []
  | (.inl i, _) :: r => (intK r).map (i :: ·)
  | (.inr _, _) :: _ => none
/-- sorted(d), left alone -/
def bSortedD : Bi
  | [.loc l], h => match h.g l with
    | some (.dic kvs) => match intK kvs with
      | some ks => ifR (decide (ks.length < 64)) (.ok (.kl ((sortI ks).map .int)) h)
      | none => .bad
    | _ => .bad
  | _, _ => .bad
/-- x in y, y a dict or a sequence of flat things -/
def opInX (neg : Bool) (x y : D) (h : Hm) : R D := match y with
  | .loc l => match h.g l with
    | some (.dic kvs) => match kOf x with
      | some k => .ok (.bl (if neg then !(lookA k kvs).isSome else (lookA k kvs).isSome)) h
      | none => .bad
    | _ => opIn neg x (.loc l) h
  | y => opIn neg x y h
/-- dict(d) -/
def bDictC : Bi
  | [.loc l], h => match h.g l with
    | some (.dic kvs) => .ok (.loc h.n) (h.new (.dic kvs))
    | _ => .bad
  | _, _ => .bad
def dropA (k : Key) (kvs : List (Key × D)) : List (Key × D) := kvs.filter fun kv => !@decide (kv.1 = k) (keyDec kv.1 k)
/-- d.pop(k) of a key that is there -/
def dPop (x y : D) (h : Hm) : R D := match x with
  | .loc l => match h.g l, kOf y with
    | some (.dic kvs), some k => match lookA k kvs with
      | some v => .ok v (h.put l (.dic (dropA k kvs)))
      | none => .bad
    | _, _ => .bad
  | _ => .bad
def eDPop (a b : ME) : ME := fun σ h => (a σ h).bind fun x h1 => ifR (decide (tyD h1 x = some "dict")) ((b σ h1).bind fun y h2 => dPop x y h2)
/-- a, *r = a list: r is a new list -/
def gStar (gs : List MG) : MG := fun d σ h => match d with
  | .loc l => match h.g l with
    | some (.lst (x :: xs)) => gsAll gs [x, .loc h.n] σ (h.new (.lst xs))
    | _ => .bad
  | _ => .bad
theorem ev_gStar {E : XE} {QE : Mo.Env → Hm → Prop} {gs : List MG} {l : Nat} {x : D} {xs : List D} {σ : Mo.Env} {h : Hm} (e : h.g l = some (.lst (x :: xs))) (q : Ev E (gsAll gs [x, .loc h.n] σ (h.new (.lst xs))) QE) : Ev E (gStar gs (.loc l) σ h) QE := by
  unfold gStar
  simp only [e]
  exact q
section
variable {E : XE} {h : Hm} {Q : D → Hm → Prop}
theorem ev_inXD {neg : Bool} {x : D} {l : Nat} {kvs : List (Key × D)} {k : Key} (e : h.g l = some (.dic kvs)) (e2 : kOf x = some k) (q : Q (.bl (if neg then !(lookA k kvs).isSome else (lookA k kvs).isSome)) h) : Ev E (opInX neg x (.loc l) h) Q := by
  unfold opInX
  simp only [e, e2]
  exact q
theorem ev_inXL {neg : Bool} {x : D} {l : Nat} {xs : List D} (e : h.g l = some (.lst xs)) (q : Ev E (opIn neg x (.loc l) h) Q) : Ev E (opInX neg x (.loc l) h) Q := by
  unfold opInX
  simp only [e]
  exact q
theorem ev_dictC {l : Nat} {kvs : List (Key × D)} (e : h.g l = some (.dic kvs)) (q : Q (.loc h.n) (h.new (.dic kvs))) : Ev E (bDictC [.loc l] h) Q := by
  unfold bDictC
  simp only [e]
  exact q
theorem ev_dPop {l : Nat} {y v : D} {kvs : List (Key × D)} {k : Key} (e : h.g l = some (.dic kvs)) (e2 : kOf y = some k) (e3 : lookA k kvs = some v) (q : Q v (h.put l (.dic (dropA k kvs)))) : Ev E (dPop (.loc l) y h) Q := by
  unfold dPop
  simp only [e, e2, e3]
  exact q
theorem ev_reverse {l : Nat} {xs : List D} (e : h.g l = some (.lst xs)) (q : Q .non (h.put l (.lst xs.reverse))) : Ev E (mReverse (.loc l) [] h) Q := by
  unfold mReverse
  simp only [e]
  exact q
theorem ev_clear {l : Nat} {xs : List D} (e : h.g l = some (.lst xs)) (q : Q .non (h.put l (.lst []))) : Ev E (mClear (.loc l) [] h) Q := by
  unfold mClear
  simp only [e]
  exact q
theorem ev_remove {l : Nat} {ks : List Int} {k : Int} (e : h.g l = some (.lst (ks.map .int))) (m : k ∈ ks) (q : Q .non (h.put l (.lst ((ks.erase k).map .int)))) : Ev E (mRemove (.loc l) [.int k] h) Q := by
  unfold mRemove
  simp only [e, intsOf_map]
  exact ev_ifR (decide_eq_true m) q
theorem ev_sortedD {l : Nat} {kvs : List (Key × D)} {ks : List Int} (e : h.g l = some (.dic kvs)) (e2 : intK kvs = some ks) (k : ks.length < 64) (q : Q (.kl ((sortI ks).map .int)) h) : Ev E (bSortedD [.loc l] h) Q := by
  unfold bSortedD
  simp only [e, e2]
  exact ev_ifR (decide_eq_true k) q
theorem intK_keys : ∀ {kvs : List (Key × D)} {ks : List Int}, intK kvs = some ks → kvs.map (·.1) = ks.map Sum.inl
  | [], ks, e => by cases (show some [] = some ks from e); rfl
  | (.inl i, d) :: r, ks, e => by
    obtain ⟨js, e1, rfl⟩ := Option.map_eq_some_iff.mp (show (intK r).map (i :: ·) = some ks from e)
    rw [List.map_cons, intK_keys e1]
    rfl
  | (.inr x, d) :: r, ks, e => nomatch (show (none : Option (List Int)) = some ks from e)
end
end Mo
end
section
/-! Slices of lists or tuples; own exceptions' __init__s. -/
namespace Mo
open PySem L2 PyProof.Rows He
section
variable {G : Gm} {E : WM} {X : Cx} {a : Expr} {ma : ME} {pos : Pos}
theorem sIx_eq (n d : Nat) (o : Option Int) : HT.sIx n d o = sIx n d o := by cases o <;> rfl
theorem cut_all {xs : List D} {y z : Option Int} (c1 : sIx xs.length 0 y = 0) (c2 : sIx xs.length xs.length z = xs.length) : cutL xs y z = xs := by
  unfold cutL
  rw [c1, c2]
  simp
theorem me_slX {lo hi : Option Expr} {ml mh : MO} {p2 : Pos} (hK : X.K = G.K) (ha : PE X a (rd G E ma)) (hl : PO X lo (rdO G E ml)) (hh : PO X hi (rdO G E mh)) : PE X (.Subscript a (.Slice lo hi none p2) pos) (rd G E (eSlX ma ml mh)) :=
  pe_w (pe_frzO (pe_slice (sl_list.or sl_tupA) ha hl hh)) fun σ H Q ⟨ρ, env, h, hs, hr, w⟩ => ⟨ρ, env, h, hs, hr, w.seq fun x h1 ρ1 H1 v g1 r1 q1 w1 => ⟨ρ1, env, h1, hs.grow g1, r1, w1.seq fun y h2 ρ2 H2 u g2 r2 q2 w2 =>
    ⟨ρ2, env, h2, (hs.grow g1).grow g2, r2, w2.seq fun z h3 ρ3 H3 t g3 r3 q3 w3 => by
      cases q2
      cases q3
      have q1 := (q1.grow g2).grow g3
      unfold slX at w3
      split at w3
      · cases q1 with
        | tup h1 h2 =>
          rw [hK]
          refine .inr ⟨_, _, rfl, h1, fun ⟨c1, c2⟩ => .inr ?_, fun _ p' hp => .inr ?_⟩
          · rw [sIx_eq, h2.length] at c1 c2
            rw [cut_all c1 c2] at w3
            exact w3.val r3 (.tup h1 h2)
          · exact w3 ρ3 _ _ (Grow.tmp hp _) (r3.tmp hp _) (.tup (SqT.of upd_same) ((cut_rel h2 _ _).grow (Grow.tmp hp _)))
      · split at w3
        · rename_i xs e
          obtain ⟨p, vs, rfl, hl, qs⟩ := r3.seqL e q1
          rw [hK]
          exact .inl ⟨p, vs, rfl, hl, fun p' hp => .inl (Leave.new w3 r3 (cut_rel qs _ _) hp)⟩
        · exact False.elim w3⟩⟩⟩
end
section
variable {X : Cx} {B newId initId : String} {tl : List Value} {x f f' n0 n1 n2 : Str} {p1 p2 pos pos2 p3 p4 p5 p6 p7 p8 pa pb pc : Pos}
/-- self.f = y of an own exception of one field -/
theorem xb1 (Fb : BaF B newId initId tl) (b : BIn X tl newId x) (h0 : X.N[0]? = some n0) (h1 : X.N[1]? = some n1) (v0 : Vis X.env.scope n0) (v1 : Vis X.env.scope n1) (hf : f = f') (hd0 : (n0 == ("__debug__" : Str)) = false := by decide) (hd1 : (n1 == ("__debug__" : Str)) = false := by decide) (hc0 : (n0 == ("__classdict__" : Str)) = false := by decide) (hc1 : (n1 == ("__classdict__" : Str)) = false := by decide) (hdb : (x == ("__debug__" : Str)) = false := by decide)
    {pl : Sem Bool} (hc : eval (.Call (.Attribute (.Name x p1) "__init__" p2) [.Name n0 p3, .Name n1 p4] [] pos) X.env = (do
      let ov ← eval (.Name x p1) X.env
      standAt p2.atName
      let (f, first) ← holding [ov] (getMethod ov "__init__" pl)
      callWith pos f first (backTo pos (starEach [.Name n0 p3, .Name n1 p4] X.env)) (backToKw pos (keywordEach [] X.env))) := by rfl)
    (hs0 : swapsWith (.Call (.Attribute (.Name x p1) "__init__" p2) [.Name n0 p3, .Name n1 p4] [] pos) none pos2.line X.env = pure false := by rfl) (hs : swapsWith (.Name n1 p6) (some (.Attribute (.Name n0 p5) f pb)) pa.line X.env = pure false := by rfl) :
    PSs X [.Expr (.Call (.Attribute (.Name x p1) "__init__" p2) [.Name n0 p3, .Name n1 p4] [] pos) pos2, .Assign [.Attribute (.Name n0 p5) f pb] (.Name n1 p6) pa] (xB1 X.K tl newId f') := by
  subst hf
  have e0 : ∀ {p : Pos}, PE X (.Name n0 p) (tVar 0) := pe_var h0 v0 hd0 hc0
  have e1 : ∀ {p : Pos}, PE X (.Name n1 p) (tVar 1) := pe_var h1 v1 hd1 hc1
  exact pss_cons (ps_expr (b.go (pa_cons e0 (pa_cons e1 pa_nil)) hdb hc rfl rfl) hs0) (pss_one (ps_xst Fb e0 e1 hs))
theorem hX_nil {K : PySem.W.Frag} {cA : Nat → Addr} {f : Str} : ∀ c, ([] : List Nat).contains c = true → XfC K (cA c) ∧ PySem.W.findIn K (.ref (cA c)) f = some none := fun c z => nomatch z
theorem hX_cons {K : PySem.W.Frag} {cA : Nat → Addr} {f : Str} {c0 : Nat} {cs : List Nat} {x : Str} {tl : List Value} {newId : String} {fsn : List Str} (e : ga K x = cA c0) (h1 : excB K x tl newId fsn = true) (hf : f ∈ fsn) (hr : ∀ c, cs.contains c = true → XfC K (cA c) ∧ PySem.W.findIn K (.ref (cA c)) f = some none) : ∀ c, (c0 :: cs).contains c = true → XfC K (cA c) ∧ PySem.W.findIn K (.ref (cA c)) f = some none := fun c z => by
  rw [List.contains_cons, Bool.or_eq_true] at z
  rcases z with z | z
  · rw [beq_iff_eq.mp z, ← e]
    exact ⟨(excB_ok h1).xf, (excB_ok h1).n f hf⟩
  · exact hr c z
/-- an own exception class of one field -/
theorem xc1 {P : Program} {w : World} {K : PySem.W.Frag} {mg : Str → Option Value} {base : Heap} {C : Str} {d : DefD} {N ps : List Str} {f : Str} (Fb : BaF B newId initId tl) (h : excB K C tl newId [f] = true) (fd : ∃ fd, FunD K d.name d.qual d.params d.body d.scope [] (d.kws K) (ma K (ga K C) "__init__") fd) (S : FnScope N ps d.scope) (hN : N.length = 2) (hps : ps.length = 2) (hk : d.kws K = [])
    (hb : ∀ (cdv : Value) (A : Around) (outer : List PySem.Env) (s : Shared) (H : Hp) (E : XK), PSs (cxOf (L2.CX P w) P w K mg base N d.qual d.scope (ma K (ga K C) "__init__") cdv A outer s H E) d.body (xB1 K tl newId f))
    (hbd : ∀ (kV doc pm : Value) (an : Option Addr) (cdv ct : Value) (us : List Value), us.length = ps.length → bindArgs (PySem.W.fnOf d.name d.qual d.params d.body d.scope .none kV doc pm an cdv ct) ⟨us, []⟩ = pure (ps.zip us)) : XC P w K mg base (ga K C) [f] := by
  obtain ⟨fd, FD⟩ := fd
  have x := excB_ok h
  rw [hk] at FD
  exact ⟨B, newId, initId, tl, _, fd, ps, Fb, x.t, x.i, x.f, xok1 x.t (x.n f (by simp)) FD hN hps S hb, FD.bindsN hbd⟩
end
theorem isC_nil {K : PySem.W.Frag} {cA : Nat → Addr} : ∀ (c : Nat) (b : Bool), (c, b) ∈ ([] : List (Nat × Bool)) → Cls K (cA c) := fun c b h => nomatch h
theorem isC_cons {K : PySem.W.Frag} {cA : Nat → Addr} {c0 : Nat} {b0 : Bool} {l : List (Nat × Bool)} (h : Cls K (cA c0)) (r : ∀ (c : Nat) (b : Bool), (c, b) ∈ l → Cls K (cA c)) : ∀ (c : Nat) (b : Bool), (c, b) ∈ (c0, b0) :: l → Cls K (cA c) := fun c b m => by
  rcases List.mem_cons.mp m with e | m
  · cases e
    exact h
  · exact r c b m
end Mo
end
section
/-! list.reverse, list.clear, list.remove. -/
namespace Mo
open PySem L2 PyProof.Rows He
section
variable {G : Gm} {E : WM}
theorem vrels_rev {ρ : List Addr} {H : Hp} : ∀ {vs : List V} {ds : List D}, VRels G ρ H vs ds → VRels G ρ H vs.reverse ds.reverse
  | _, _, .nil => .nil
  | _, _, .cons q qs => by
    rw [show ∀ (x : V) xs, (x :: xs).reverse = xs.reverse ++ [x] from fun _ _ => List.reverse_cons, show ∀ (x : D) xs, (x :: xs).reverse = xs.reverse ++ [x] from fun _ _ => List.reverse_cons]
    exact (vrels_rev qs).append (.cons q .nil)
theorem bs_reverse : MbS G E rReverse mReverse := by
  intro τ ρ H h x v ds vs Q r q qs w
  unfold mReverse at w
  split at w
  · cases qs
    cases q with
    | @loc a l ha =>
      split at w <;> first | exact False.elim w | skip
      rename_i xs e
      obtain ⟨ws, e2, k2⟩ := r.at e ha
      exact ⟨a, ws, rfl, rfl, e2, w.putL r ha e2 (vrels_rev k2) .non⟩
  · exact False.elim w
theorem bs_clear : MbS G E rClear mClear := by
  intro τ ρ H h x v ds vs Q r q qs w
  unfold mClear at w
  split at w
  · cases qs
    cases q with
    | @loc a l ha =>
      split at w <;> first | exact False.elim w | skip
      rename_i xs e
      obtain ⟨ws, e2, k2⟩ := r.at e ha
      exact ⟨a, ws, rfl, rfl, e2, w.putL r ha e2 .nil .non⟩
  · exact False.elim w
theorem vrels_ints {ρ : List Addr} {H : Hp} : ∀ {vs : List V} {ks : List Int}, VRels G ρ H vs (ks.map .int) → vs = ks.map V.int
  | _, [], .nil => rfl
  | _, k :: ks, .cons q qs => by
    cases q
    rw [vrels_ints qs]
    rfl
theorem ints_vrels {ρ : List Addr} {H : Hp} : ∀ ks : List Int, VRels G ρ H (ks.map V.int) (ks.map .int)
  | [] => .nil
  | k :: ks => .cons (.int k) (ints_vrels ks)
theorem bs_remove : MbS G E rRemI mRemove := by
  intro τ ρ H h x v ds vs Q r q qs w
  unfold mRemove at w
  split at w
  · obtain ⟨u, rfl, k⟩ := vs1 qs
    cases k
    cases q with
    | @loc a l ha =>
      split at w <;> first | exact False.elim w | skip
      rename_i xs e
      split at w <;> first | exact False.elim w | skip
      rename_i ks e3
      obtain ⟨c, w⟩ := Wp.ifR w
      have c := of_decide_eq_true c
      obtain ⟨ws, e2, k2⟩ := r.at e ha
      rw [intsOf_eq e3] at k2
      have ew := vrels_ints k2
      subst ew
      obtain ⟨j, j1, j2, j3, j4⟩ := first_at c
      refine ⟨a, ks, _, j, rfl, rfl, e2, j2, j3, ?_⟩
      rw [j4]
      exact w.putL r ha e2 (ints_vrels _) .non
  · exact False.elim w
end
end Mo
end
section
/-! k in d, dict(d), d.pop(k). -/
namespace Mo
open PySem L2 PyProof.Rows He
section
variable {X : Cx}
def rInDic (neg : Bool) : V → V → Hp → VK → Prop := fun x y H Q => ∃ a o, y = .ref a ∧ DGet H a x o ∧ Q (.bl (if neg then !o.isSome else o.isSome)) H
theorem op_inDic (hu : X.A.units + 1 < cLine) : OpR X (compareOp .In) (rInDic false) := by
  intro pins s σ H x y u w Q I rx ry h
  obtain ⟨a, o, rfl, g, q⟩ := h
  cases ry
  exact d_in hu I g rx fun s' I' => ⟨.bl _, H, I', rfl, q⟩
theorem op_notInDic (hu : X.A.units + 1 < cLine) : OpR X (compareOp .NotIn) (rInDic true) := by
  intro pins s σ H x y u w Q I rx ry h
  obtain ⟨a, o, rfl, g, q⟩ := h
  cases ry
  exact d_notIn hu I g rx fun s' I' => ⟨.bl _, H, I', rfl, q⟩
end
section
variable {G : Gm} {E : WM}
theorem os_inX {neg : Bool} : OpS G E (fun x y H Q => rInDic neg x y H Q ∨ rIn G.K neg x y H Q) (opInX neg) := by
  intro τ ρ H h x y v u Q r q1 q2 w
  unfold opInX at w
  have q3 := q2
  cases q2 with
  | @loc a l hl =>
    simp only at w
    split at w
    · rename_i kds e
      split at w <;> first | exact False.elim w | skip
      rename_i k e2
      obtain ⟨kvs, e4, n⟩ := r.at e hl
      refine .inl ⟨a, valV kvs k, rfl, ?_, ?_⟩
      · rw [kOf_rel q1 e2]
        exact DGet.k e4
      · have em : (valV kvs k).isSome = (lookA k kds).isSome := by
          obtain ⟨i1, i2⟩ := look_rel n (k := k)
          cases c : lookA k kds with
          | none => rw [i2 c]; rfl
          | some d =>
            obtain ⟨z, e5, _⟩ := i1 d c
            rw [e5]
            rfl
        rw [em]
        exact w.val r (.bl _)
    · exact .inr (os_in τ ρ H h x _ v _ Q r q1 q3 w)
  | _ => exact .inr (os_in τ ρ H h x _ v _ Q r q1 q3 w)
theorem bs_dictC : BiS G E (fun xs H Q => ∃ (a : Addr) (kvs : List (L2.Key × V)), xs = [.ref a] ∧ Rd H a (.dK kvs) ∧ ∀ p, H p = none → Q (.ref p) (upd H p (.dK kvs))) bDictC := by
  intro τ ρ H h ds vs Q r q w
  unfold bDictC at w
  split at w
  · obtain ⟨v, rfl, k⟩ := vs1 q
    cases k with
    | @loc a l hl =>
      split at w <;> first | exact False.elim w | skip
      rename_i kds e
      obtain ⟨kvs, e4, n⟩ := r.at e hl
      refine ⟨a, kvs, rfl, .inl e4, fun p hp => ?_⟩
      have g := Grow.new r hp (.dK kvs)
      refine w _ _ _ g (r.new hp ⟨kvs, upd_same, n.grow g⟩) (.loc ?_)
      rw [← r.len]
      simp
  · exact False.elim w
theorem drop_rel {ρ : List Addr} {H : Hp} (k : L2.Key) : ∀ {kvs : List (L2.Key × V)} {kds : List (Key × D)}, NRel G ρ H kvs kds → NRel G ρ H (dropK kvs k) (dropA k kds)
  | _, _, .nil => .nil
  | _, _, @Paired.cons _ _ _ p q ps qs rr t => by
    have ih := drop_rel k t
    unfold dropK dropA at ih ⊢
    rw [List.filter_cons (xs := ps), List.filter_cons (xs := qs)]
    have e : decide (p.1 ≠ k) = !@decide (q.1 = k) (keyDec q.1 k) := by
      rw [rr.1]
      by_cases c : q.1 = k
      · rw [decide_eq_false (fun z => z c), @decide_eq_true _ (keyDec _ _) c]; rfl
      · rw [decide_eq_true c, @decide_eq_false _ (keyDec _ _) c]; rfl
    rw [e]
    split
    · exact .cons rr ih
    · exact ih
variable {X : Cx} {o e : Expr} {apos cpos : Pos} {ma mb : ME}
/-- d.pop(k) -/
theorem me_dpop (ho : PE X o (rd G E ma)) (he : PE X e (rd G E mb)) (m : M1 X o "pop" apos e cpos) : PE X (.Call (.Attribute o "pop" apos) [e] [] cpos) (rd G E (eDPop ma mb)) :=
  pe_w (pe_dpop1 ho he m) fun σ H Q ⟨ρ, env, h, hs, hr, w⟩ => ⟨ρ, env, h, hs, hr, w.seq fun x h1 ρ1 H1 v g1 r1 q1 w1 => by
    obtain ⟨c, w1⟩ := w1.ifR
    have c := of_decide_eq_true c
    cases q1 with
    | @loc a l hl =>
      have hd : ∃ kds, h1.g l = some (.dic kds) := by
        unfold tyD at c
        simp only at c
        split at c
        · exact absurd c (by decide)
        · rename_i kds e1
          exact ⟨kds, e1⟩
        · cases c
      obtain ⟨kds, e1⟩ := hd
      obtain ⟨kvs, e4, n⟩ := r1.at e1 hl
      refine ⟨a, rfl, .inl ⟨kvs, .inl e4⟩, ρ1, env, h1, hs.grow g1, r1, w1.seq fun y h2 ρ2 H2 u g2 r2 q2 w2 => ?_⟩
      have hl2 := (VRel.loc (G := G) (H := H1) hl).grow g2
      cases hl2 with
      | loc hl2 =>
        unfold dPop at w2
        simp only at w2
        split at w2 <;> first | exact False.elim w2 | skip
        rename_i kds2 k e6 e7
        split at w2 <;> first | exact False.elim w2 | skip
        rename_i d e8
        obtain ⟨kvs2, e9, n2⟩ := r2.at e6 hl2
        obtain ⟨z, e10, q10⟩ := (look_rel n2).1 d e8
        have g := Grow.put r2 hl2 e9 trivial (.dK (dropK kvs2 k))
        refine ⟨kvs2, k, z, e9, kOf_rel q2 e7, e10, ?_⟩
        exact w2 _ _ _ g (r2.put hl2 e9 trivial ⟨_, upd_same, (drop_rel k n2).grow g⟩) (q10.grow g)
    | _ => exact absurd c (fun z => by first | (simp only [tyD] at z; injection z with z; exact absurd z (by decide)) | (simp [tyD] at z))⟩
theorem keys_rel {ρ : List Addr} {H : Hp} : ∀ {kvs : List (L2.Key × V)} {kds : List (Key × D)}, NRel G ρ H kvs kds → kvs.map (·.1) = kds.map (·.1)
  | _, _, .nil => rfl
  | _, _, @Paired.cons _ _ _ p q ps qs rr t => by
    rw [List.map_cons, List.map_cons, keys_rel t, rr.1]
theorem bs_sortedD : BiS G E (fun xs H Q => ∃ (a : Addr) (kvs : List (L2.Key × V)) (ks : List Int), xs = [.ref a] ∧ Rd H a (.dK kvs) ∧ kvs.map (·.1) = ks.map Sum.inl ∧ ks.length < 64 ∧
    ∀ (ys : List Int) (p : Addr), ys.Perm ks → ys.Pairwise (· ≤ ·) → H p = none → Leave Q (.ref p) (upd H p (.lst (ys.map V.int)))) bSortedD := by
  intro τ ρ H h ds vs Q r q w
  unfold bSortedD at w
  split at w <;> first | exact False.elim w | skip
  obtain ⟨v, rfl, k⟩ := vs1 q
  cases k with
  | @loc a l hl =>
    split at w <;> first | exact False.elim w | skip
    rename_i kds e
    split at w <;> first | exact False.elim w | skip
    rename_i ks e2
    obtain ⟨c, w⟩ := Wp.ifR w
    have c := of_decide_eq_true c
    obtain ⟨kvs, e4, n⟩ := r.at e hl
    refine ⟨a, kvs, ks, rfl, .inl e4, (keys_rel n).trans (intK_keys e2), c, fun ys p pm pw hp => ?_⟩
    rw [sortI_eq pm pw]
    exact Leave.new w r (rel_ints _) hp
/-- sorted(d), left alone -/
theorem me_sortedD {a : Expr} {es : List Expr} {as : MA} {x : Str} {p pos : Pos} (hc : X.calm = true) (hg : Gl X x) (hm : X.mg x = none) (hv : bootBuiltins x = some (.builtin "sorted")) (ha : PA X (a :: es) (rdA G E as)) (hn : x ≠ "__name__" := by decide) (hdb : (x == ("__debug__" : Str)) = false := by decide)
    (he : starEach (a :: es) X.env = (false, eval a X.env) :: starEach es X.env := by rfl) (hpl : (backTo pos (starEach es X.env)).any (·.1) = false := by rfl) : PE X (.Call (.Name x p) (a :: es) [] pos) (rd G E (eBi bSortedD as)) :=
  pe_w (pe_frz (pe_callB (call_sortedDI hc) hg hm hv ha hn hdb he hpl)) fun σ H Q ⟨ρ, env, h, hs, hr, w⟩ => ⟨ρ, env, h, hs, hr, w.seq fun x h1 ρ1 H1 v g1 r1 q1 w1 => bs_sortedD σ ρ1 H1 h1 x v Q r1 q1 w1⟩
end
end Mo
end
section
/-! a, *r = a list. -/
namespace Mo
open PySem PySem.Sem PyProof.Rows
theorem walk_shift {prog : Program} {w : World} {A : Around} {I : Addr} {fp wr : List Addr} {G : Array GenState → Array GenState → Prop} {n k : Nat} {P : Nat → Value → Prop} {St : Nat → Shared → Prop} (W : WalksS prog w A I fp wr G (n + k) P St) :
    WalksS prog w A I fp wr G n (fun i v => P (i + k) v) (fun i s => St (i + k) s) where
  sub := W.sub
  grefl := W.grefl
  gtrans := W.gtrans
  frame := fun i s h' tk st ht hk => W.frame (i + k) s h' tk st ht hk
  item := fun i s Q E hi st hQ => W.item (i + k) s Q E (by omega) st fun v s' hp st' hm => hQ v s' hp (by rw [show i + 1 + k = i + k + 1 by omega]; exact st') hm
  done := fun s Q E st hQ => W.done s Q E st hQ
  self := fun i s Q E st hQ => W.self (i + k) s Q E st hQ
section
variable {s : Shared} {A : Around} {E : Value → Shared → Prop} {w : World} {prog : Program}
theorem star_items {l : Addr} {x : Value} {xs : List Value} {Q : List Value → Shared → Prop} (hh : A.handled = none) (hl : s.heap.IsList l (x :: xs).toArray) (hz : xs.length ≤ sizeLine)
    (hQ : ∀ (s' : Shared), (∀ b o, s.heap.get? b = some o → s'.heap.get? b = some o) → s'.gens = s.gens → s'.drawn = s.drawn → s'.os = s.os → s.toks ≤ s'.toks → Q [x, .ref s'.heap.objs.size] { s' with heap := s'.heap.push { cls := .type "list", data := .seq xs.toArray } }) :
    wpAny (model prog w) A (unpackItems (.ref l) 2 (some 1)) Q E s := by
  have hlt : l ≠ s.heap.objs.size := by
    obtain ⟨ob, hob, _⟩ := hl
    exact Nat.ne_of_lt (Heap.lt_size hob)
  unfold unpackItems
  refine wpAny_bind ?_
  unfold notIterableAtAll
  refine wpAny_bind (wpAny_specialOf hl.typeIs slot_list_iter.lookup (wpAny_pure ?_))
  simp only [if_false, Bool.false_eq_true]
  refine wpAny_bind (wpAny_holding (wpAny_pyIter_list (l := l) hl ?_))
  have hl1 := hl.push { cls := .type "list_iterator", data := .fields #[.ref l, .int 0 0] }
  refine (wpAny_bind (wpAny_holding ?_))
  show wpAny _ _ (pyNext (.ref s.heap.objs.size) >>= _) _ E _
  refine wpAny_bind (wpAny_pyNext_list_item (i := 0) ⟨_, Heap.get?_push_size _ rfl, rfl, rfl⟩ hl1 (x := x) (by simp) fun h1 hit1 hs1 => ?_)
  refine wpAny_bind (wpAny_holding (wpAny_pure (wpAny_pure ?_)))
  rw [if_neg (by simp)]
  have hl2 : h1.IsList l (x :: xs).toArray := hl1.extBut hs1.extBut hlt
  have W := walk_shift (k := 1) (n := xs.length) (show WalksS prog w A.in1 s.heap.objs.size [s.heap.objs.size, l] [s.heap.objs.size] (fun a b => b = a) (xs.length + 1) _ _ from (Walks.list (A := A.in1) hh s.heap.objs.size l hlt (x :: xs).toArray).toS)
  refine wpAny_bind (wpAny_holding (wpAny_collect_iter (.inr (.inr (.inl rfl))) W (fun i s' st => st.1.typeIs) ⟨hit1, hl2⟩ ?_ (by simp) (fun s' acc hm ha => ?_) hz))
  · intro b hb
    have hs2 : s.heap.objs.size < h1.objs.size := by obtain ⟨o, ho, _⟩ := hit1; exact Heap.lt_size ho
    rcases List.mem_cons.mp hb with e0 | hb
    · subst e0; exact hs2
    · rcases List.mem_cons.mp hb with e1 | hb
      · subst e1
        obtain ⟨o, ho, _⟩ := hl2
        exact Heap.lt_size ho
      · cases hb
  · have e : acc.toList = xs := by
      refine List.ext_getElem? fun i => ?_
      rw [Array.getElem?_toList]
      cases c : acc[i]? with
      | none =>
        have := Array.getElem?_eq_none_iff.mp c
        rw [ha.1] at this
        rw [List.getElem?_eq_none this]
      | some v =>
        have := ha.2 i v c
        simpa using this.symm
    rw [e, if_neg (show ¬ xs.length < 2 - 1 - 1 from Nat.not_lt_zero _)]
    have e1 : List.take (xs.length - (2 - 1 - 1)) xs = xs := List.take_of_length_le (Nat.le_refl _)
    have e2 : List.drop (xs.length - (2 - 1 - 1)) xs = [] := List.drop_of_length_le (Nat.le_refl _)
    rw [e1, e2]
    refine wpAny_bind (wpAny_newObj_type (wpAny_pure ?_) (by size_fits))
    refine hQ s' (fun b o ho => ?_) hm.gens hm.drawn hm.os hm.toks
    have hb : b ≠ s.heap.objs.size := Nat.ne_of_lt (Heap.lt_size ho)
    exact hm.heap b o (by simpa using hb) (hs1.extBut b o hb (Heap.get?_push_of_some _ ho))
end
end Mo
end
section
namespace Mo
open PySem L2 PyProof.Rows He
section
variable {X : Cx}
def gStarV (t : TGs) : TG := fun v σ H Q => ∃ a x xs, v = .ref a ∧ H a = some (.lst (x :: xs)) ∧ ∀ p, H p = none → t [x, .ref p] σ (upd H p (.lst xs)) Q
theorem pg_star {t1 t2 : Expr} {p pos : Pos} {k : Nat} {t : TGs} (hc : X.calm = true) (h : PGs X [t1, t2] t) (hs : (assignEach [t1, .Starred t2 p] X.env).map (·.2) = (assignEach [t1, t2] X.env).map (·.2) := by rfl) (hi : (assignEach [t1, .Starred t2 p] X.env).findIdx? (·.1) = some 1 := by rfl) (hn : (assignEach [t1, .Starred t2 p] X.env).length = 2 := by rfl) : PG X (.Tuple [t1, .Starred t2 p] k pos) (gStarV t) := by
  refine ⟨fun pins s σ H v uv Q I r hw => ?_⟩
  obtain ⟨a, x, xs, rfl, hH, hw⟩ := hw
  cases r
  obtain ⟨z, its, n, rv, hl, e⟩ := I.lstM hH
  cases rv with
  | @cons _ u0 _ us ru rus =>
    rw [assign_Tuple]
    refine (wpAny_bind (wpAny_standAt ?_))
    unfold unpack
    rw [hi, hn, hs]
    refine wpAny_bind (wpAny_holding (star_items (x := u0) (xs := us) (I.ok.hd hc) ⟨_, e, rfl, n, rfl⟩ (by have := rus.length; simp only [List.length_cons] at z; omega) fun s' k1 k2 k3 k4 k5 => ?_))
    have es : s' = { s with heap := s'.heap, toks := s'.toks } := by
      cases s'
      cases s
      cases k2
      cases k3
      cases k4
      rfl
    have I1 : Inv X pins σ H { s with heap := s'.heap, toks := s'.toks } := I.kept (t' := s'.toks) k1
    have hf : H s'.heap.objs.size = none := I1.hok.fresh (Nat.le_refl _)
    have I2 := I1.laid (t' := s'.toks) (o := .lst xs) (a := s'.heap.objs.size) (h' := s'.heap.push { cls := .type "list", data := .seq us.toArray }) (fun b u e => Heap.get?_push_of_some _ e) (Nat.le_refl _) ⟨by simp only [List.length_cons] at z; omega, us, 0, rus, Heap.get?_push_size _ rfl⟩
    rw [es]
    exact h.run pins _ σ _ [x, .ref s'.heap.objs.size] _ Q I2 (.cons ru (.cons rfl .nil)) (hw _ hf)
variable {G : Gm} {E : WM}
theorem mg_star {t1 t2 : Expr} {p pos : Pos} {k : Nat} {gs : List MG} (hc : X.calm = true) (h : PGs X [t1, t2] (rdGs G E gs)) (hs : (assignEach [t1, .Starred t2 p] X.env).map (·.2) = (assignEach [t1, t2] X.env).map (·.2) := by rfl) (hi : (assignEach [t1, .Starred t2 p] X.env).findIdx? (·.1) = some 1 := by rfl) (hn : (assignEach [t1, .Starred t2 p] X.env).length = 2 := by rfl) : PG X (.Tuple [t1, .Starred t2 p] k pos) (rdG G E (gStar gs)) :=
  pg_w (pg_star hc h hs hi hn) fun v σ H Q ⟨ρ, env, hh, d, hs, hr, q, w⟩ => by
    cases q with
    | @loc a l hl =>
      unfold gStar at w
      simp only at w
      split at w <;> first | exact False.elim w | skip
      rename_i x xs e
      obtain ⟨vs, e2, r⟩ := hr.at e hl
      cases r with
      | @cons vx _ vxs _ qx qxs =>
        refine ⟨a, vx, vxs, rfl, e2, fun b hb => ?_⟩
        have g := Grow.new hr hb (.lst vxs)
        refine ⟨_, env, hh.new (.lst xs), [x, .loc hh.n], hs.grow g, hr.new hb ⟨vxs, upd_same, qxs.grow g⟩, .cons (qx.grow g) (.cons (.loc ?_) .nil), ?_⟩
        · rw [← hr.len]
          simp
        · exact w.grow g
    | _ => exact False.elim w
end
end Mo
end
section
/-! Still more of M: setdefault, get, dict comprehensions, index, zip, list(range), sorted(set) of any size. -/
namespace Mo
open PySem
/-- d.setdefault(k, z) -/
def dSetd (x y z : D) (h : Hm) : R D := match x with
  | .loc l => match h.g l, kOf y with
    | some (.dic kvs), some k => ifR (decide (kvs.length < SL)) (match lookA k kvs with
      | some v => .ok v h
      | none => .ok z (h.put l (.dic (putK kvs k z))))
    | _, _ => .bad
  | _ => .bad
def eDSetd (a b c : ME) : ME := fun σ h => (a σ h).bind fun x h1 => ifR (decide (tyD h1 x = some "dict")) ((b σ h1).bind fun y h2 => (c σ h2).bind fun z h3 => dSetd x y z h3)
/-- d.get(k, z) -/
def dGet2 (x y z : D) (h : Hm) : R D := match x with
  | .loc l => match h.g l, kOf y with
    | some (.dic kvs), some k => .ok ((lookA k kvs).getD z) h
    | _, _ => .bad
  | _ => .bad
def eDGet2 (a b c : ME) : ME := fun σ h => (a σ h).bind fun x h1 => ifR (decide (tyD h1 x = some "dict")) ((b σ h1).bind fun y h2 => (c σ h2).bind fun z h3 => dGet2 x y z h3)
/-- {k: v for ..} -/
def dcGo (bd : D → Env → Option Env) (t : MT) (ek ev : ME) (ok : Hm → Bool) (σ : Env) : List D → List (Key × D) → Hm → R (List (Key × D))
  | [], acc, h => ifR (ok h) (.ok acc h)
  | d :: ds, acc, h => match ok h, bd d σ with
    | true, some σ1 => (t σ1 h).quiet.bind fun c h1 => match c with
      | false => dcGo bd t ek ev ok σ ds acc h1
      | true => (ek σ1 h1).quiet.bind fun y h2 => (ev σ1 h2).quiet.bind fun z h3 => match kOf y with
        | some k => ifR (decide (acc.length < SL)) (dcGo bd t ek ev ok σ ds (putK acc k z) h3)
        | none => .bad
    | _, _ => .bad
def eDComp (it : MI) (own : List Nat) (one : Bool) (is : List Nat) (t : MT) (ek ev : ME) : ME := fun σ h => (it σ h).bind fun J h1 =>
  (dcGo (bindC one is) t ek ev J.ok (wipe σ own) J.xs [] h1).bind fun acc h2 => .ok (.loc h2.n) (h2.new (.dic acc))
/-- the first place of what is equal -/
def idxP (q : PyData) : List PyData → Option Nat
  | [] => none
  | p :: ps => match PyData.eqv p q with
    | true => some 0
    | false => (idxP q ps).map (· + 1)
def mIndex : Mb
  | x, [y], h => match dat DEP h x, dat DEP h y with
    | some (.list ps), some q => match idxP q ps with
      | some j => .ok (.int (j : Nat)) h
      | none => .bad
    | _, _ => .bad
  | _, _, _ => .bad
/-- x.extend(y), y any list -/
def mExtendX : Mb
  | .loc l, [y], h => match h.g l, h.seq y with
    | some (.lst xs), some ys => ifR (decide (xs.length + ys.length ≤ SL)) (.ok .non (h.put l (.lst (xs ++ ys))))
    | _, _ => .bad
  | _, _, _ => .bad
def zipD : List D → List D → List D
  | x :: xs, y :: ys => .tup [x, y] :: zipD xs ys
  | _, _ => []
/-- zip of two lists, of two tuples -/
def zipOf : List D → Hm → R It
  | [.tup xs, .tup ys], h => .ok ⟨zipD xs ys, fun _ => true⟩ h
  | [x, y], h => match h.seq x, h.seq y with
    | some xs, some ys => .ok ⟨zipD xs ys, fun h' => decide (h'.seq x = some xs) && decide (h'.seq y = some ys)⟩ h
    | _, _ => .bad
  | _, _ => .bad
def iZip (as : MA) : MI := fun σ h => (as σ h).bind zipOf
/-- list(range(..)), left alone -/
def lrOf (i j : Int) (h : Hm) : R D := ifR (decide (-(2 ^ 62) ≤ i ∧ i < 2 ^ 62 ∧ -(2 ^ 62) ≤ j ∧ j < 2 ^ 62 ∧ (j - i).toNat ≤ SL)) (.ok (.kl (intsFrom i (j - i).toNat)) h)
def lr1 (x : D) (h : Hm) : R D := match x with
  | .int j => lrOf 0 j h
  | _ => .bad
def lr2 (x y : D) (h : Hm) : R D := match x, y with
  | .int i, .int j => lrOf i j h
  | _, _ => .bad
def eLr1 (a : ME) : ME := fun σ h => (a σ h).bind lr1
def eLr2 (a b : ME) : ME := fun σ h => (a σ h).bind fun x h1 => (b σ h1).bind fun y h2 => lr2 x y h2
/-- sorted(set(a list of whole numbers)), of any size -/
def sortSetL (x : D) (h : Hm) : R D := match h.seq x with
  | some xs => match intsOf xs with
    | some ks => ifR (decide (ks.length < MSET)) (.ok (.kl ((sortU ks).map .int)) h)
    | none => .bad
  | none => .bad
def eSortSetL (a : ME) : ME := fun σ h => (a σ h).bind sortSetL
/-! ### rules -/
section
variable {E : XE} {h : Hm} {Q : D → Hm → Prop} {σ : Env} {a b c : ME}
theorem ev_eDSetd (q : Ev E (a σ h) fun x h1 => TY h1 x "dict" (Ev E (b σ h1) fun y h2 => Ev E (c σ h2) fun z h3 => Ev E (dSetd x y z h3) Q)) : Ev E (eDSetd a b c σ h) Q := ev_bind (q.mono fun x h1 ⟨e, w⟩ => ev_ifR (decide_eq_true e) (ev_bind (w.mono fun y h2 w => ev_bind w)))
theorem ev_eDGet2 (q : Ev E (a σ h) fun x h1 => TY h1 x "dict" (Ev E (b σ h1) fun y h2 => Ev E (c σ h2) fun z h3 => Ev E (dGet2 x y z h3) Q)) : Ev E (eDGet2 a b c σ h) Q := ev_bind (q.mono fun x h1 ⟨e, w⟩ => ev_ifR (decide_eq_true e) (ev_bind (w.mono fun y h2 w => ev_bind w)))
theorem ev_dSetdH {l : Nat} {y z v : D} {kvs : List (Key × D)} {k : Key} (e : h.g l = some (.dic kvs)) (e2 : kOf y = some k) (e3 : lookA k kvs = some v) (n : kvs.length < SL) (q : Q v h) : Ev E (dSetd (.loc l) y z h) Q := by
  unfold dSetd
  simp only [e, e2, e3]
  exact ev_ifR (decide_eq_true n) q
theorem ev_dSetdN {l : Nat} {y z : D} {kvs : List (Key × D)} {k : Key} (e : h.g l = some (.dic kvs)) (e2 : kOf y = some k) (e3 : lookA k kvs = none) (n : kvs.length < SL) (q : Q z (h.put l (.dic (putK kvs k z)))) : Ev E (dSetd (.loc l) y z h) Q := by
  unfold dSetd
  simp only [e, e2, e3]
  exact ev_ifR (decide_eq_true n) q
theorem ev_dGet2 {l : Nat} {y z : D} {kvs : List (Key × D)} {k : Key} (e : h.g l = some (.dic kvs)) (e2 : kOf y = some k) (q : Q ((lookA k kvs).getD z) h) : Ev E (dGet2 (.loc l) y z h) Q := by
  unfold dGet2
  simp only [e, e2]
  exact q
theorem ev_index {x y : D} {ps : List PyData} {q0 : PyData} {j : Nat} (e : dat DEP h x = some (.list ps)) (e2 : dat DEP h y = some q0) (e3 : idxP q0 ps = some j) (q : Q (.int (j : Nat)) h) : Ev E (mIndex x [y] h) Q := by
  unfold mIndex
  simp only [e, e2, e3]
  exact q
theorem ev_extendX {l : Nat} {xs ys : List D} {y : D} (e : h.g l = some (.lst xs)) (e2 : h.seq y = some ys) (k : xs.length + ys.length ≤ SL) (q : Q .non (h.put l (.lst (xs ++ ys)))) : Ev E (mExtendX (.loc l) [y] h) Q := by
  unfold mExtendX
  simp only [e, e2]
  exact ev_ifR (decide_eq_true k) q
theorem ev_lr1 {j : Int} (k : -(2 ^ 62) ≤ j ∧ j < 2 ^ 62 ∧ j.toNat ≤ SL) (q : Q (.kl (intsFrom 0 j.toNat)) h) : Ev E (lr1 (.int j) h) Q := by
  unfold lr1 lrOf
  obtain ⟨k1, k2, k3⟩ := k
  simp only [Int.sub_zero]
  exact ev_ifR (decide_eq_true ⟨by omega, by omega, k1, k2, k3⟩) q
theorem ev_lr2 {i j : Int} (k : -(2 ^ 62) ≤ i ∧ i < 2 ^ 62 ∧ -(2 ^ 62) ≤ j ∧ j < 2 ^ 62 ∧ (j - i).toNat ≤ SL) (q : Q (.kl (intsFrom i (j - i).toNat)) h) : Ev E (lr2 (.int i) (.int j) h) Q := by
  unfold lr2 lrOf
  exact ev_ifR (decide_eq_true k) q
theorem ev_eLr1 (q : Ev E (a σ h) fun x h1 => Ev E (lr1 x h1) Q) : Ev E (eLr1 a σ h) Q := ev_bind q
theorem ev_eLr2 (q : Ev E (a σ h) fun x h1 => Ev E (b σ h1) fun y h2 => Ev E (lr2 x y h2) Q) : Ev E (eLr2 a b σ h) Q := ev_bind (q.mono fun x h1 w => ev_bind w)
theorem ev_sortSetL {x : D} {ks : List Int} (e : h.seq x = some (ks.map .int)) (k : ks.length < MSET) (q : Q (.kl ((sortU ks).map .int)) h) : Ev E (sortSetL x h) Q := by
  unfold sortSetL
  simp only [e, intsOf_map]
  exact ev_ifR (decide_eq_true k) q
theorem ev_eSortSetL (q : Ev E (a σ h) fun x h1 => Ev E (sortSetL x h1) Q) : Ev E (eSortSetL a σ h) Q := ev_bind q
theorem ev_iZip {as : MA} {QI : It → Hm → Prop} (q : Ev E (as σ h) fun ds h1 => Ev E (zipOf ds h1) QI) : Ev E (iZip as σ h) QI := ev_bind q
theorem ev_zipT {xs ys : List D} {QI : It → Hm → Prop} (q : QI ⟨zipD xs ys, fun _ => true⟩ h) : Ev E (zipOf [.tup xs, .tup ys] h) QI := q
theorem ev_zipL {x y : D} {xs ys : List D} {QI : It → Hm → Prop} (e1 : h.seq x = some xs) (e2 : h.seq y = some ys) (q : QI ⟨zipD xs ys, fun h' => decide (h'.seq x = some xs) && decide (h'.seq y = some ys)⟩ h) : Ev E (zipOf [x, y] h) QI := by
  have hx : ∀ ds, x ≠ .tup ds := fun ds z => by rw [z] at e1; cases e1
  have e : zipOf [x, y] h = match h.seq x, h.seq y with
    | some xs, some ys => R.ok ⟨zipD xs ys, fun h' => decide (h'.seq x = some xs) && decide (h'.seq y = some ys)⟩ h
    | _, _ => .bad := by
    cases x with
    | tup ds => exact absurd rfl (hx ds)
    | _ => rfl
  rw [e]
  simp only [e1, e2]
  exact q
theorem dcomp_inv {it : MI} {own is : List Nat} {one : Bool} {t : MT} {ek ev : ME} (q : Ev E (it σ h) fun J h1 => ∃ I : Nat → List (Key × D) → Hm → Prop, I 0 [] h1 ∧ (∀ i acc h', i ≤ J.xs.length → I i acc h' → J.ok h' = true) ∧
    (∀ i d acc h', J.xs[i]? = some d → I i acc h' → ∃ σ1, bindC one is d (wipe σ own) = some σ1 ∧ Ev (fun _ _ _ => False) (t σ1 h') fun c h2 => sel c (Ev (fun _ _ _ => False) (ek σ1 h2) fun y h3 => Ev (fun _ _ _ => False) (ev σ1 h3) fun z h4 => ∃ k, kOf y = some k ∧ acc.length < SL ∧ I (i + 1) (putK acc k z) h4) (I (i + 1) acc h2)) ∧
    ∀ acc h', I J.xs.length acc h' → Q (.loc h'.n) (h'.new (.dic acc))) : Ev E (eDComp it own one is t ek ev σ h) Q := by
  unfold eDComp
  refine ev_bind (q.mono fun J h1 ⟨I, i0, iok, st, fin⟩ => ?_)
  have main : ∀ n i acc h', i + n = J.xs.length → I i acc h' → Ev E ((dcGo (bindC one is) t ek ev J.ok (wipe σ own) (J.xs.drop i) acc h').bind fun acc h2 => .ok (.loc h2.n) (h2.new (.dic acc))) Q := by
    intro n
    induction n with
    | zero =>
      intro i acc h' hi Ii
      have e : i = J.xs.length := by omega
      subst e
      rw [List.drop_length]
      unfold dcGo
      rw [iok _ _ _ (Nat.le_refl _) Ii]
      exact fin acc h' Ii
    | succ n ih =>
      intro i acc h' hi Ii
      have hl : i < J.xs.length := by omega
      rw [List.drop_eq_getElem_cons hl]
      obtain ⟨σ1, eb, w⟩ := st i _ acc h' (List.getElem?_eq_getElem hl) Ii
      unfold dcGo
      simp only [iok _ _ _ (Nat.le_of_lt hl) Ii, eb]
      cases c1 : t σ1 h' with
      | bad => rw [c1] at w; exact w.elim
      | exc c l h2 => rw [c1] at w; exact w.elim
      | ok c h2 =>
        rw [c1] at w
        have w : sel c _ _ := w
        cases c with
        | false => exact ih (i + 1) acc h2 (by omega) w
        | true =>
          have w : Ev (fun _ _ _ => False) (ek σ1 h2) _ := w
          show Ev E (((ek σ1 h2).quiet.bind _).bind _) Q
          cases c2 : ek σ1 h2 with
          | bad => rw [c2] at w; exact w.elim
          | exc c l h2 => rw [c2] at w; exact w.elim
          | ok y h3 =>
            rw [c2] at w
            have w : Ev (fun _ _ _ => False) (ev σ1 h3) _ := w
            show Ev E (((ev σ1 h3).quiet.bind _).bind _) Q
            cases c3 : ev σ1 h3 with
            | bad => rw [c3] at w; exact w.elim
            | exc c l h2 => rw [c3] at w; exact w.elim
            | ok z h4 =>
              rw [c3] at w
              obtain ⟨k, e, n1, Ik⟩ := w
              show Ev E ((match kOf y with | some k => _ | none => _ : R (List (Key × D))).bind _) Q
              rw [e]
              show Ev E ((ifR (decide (acc.length < SL)) _).bind _) Q
              rw [decide_eq_true n1]
              exact ih (i + 1) (putK acc k z) h4 (by omega) Ik
  exact main J.xs.length 0 [] h1 (by omega) i0
end
theorem zipD_get : ∀ {xs ys : List D} {i : Nat} {x y : D}, xs[i]? = some x → ys[i]? = some y → (zipD xs ys)[i]? = some (.tup [x, y])
  | [], _, _, _, _, e, _ => by simp at e
  | _ :: _, [], _, _, _, _, e => by simp at e
  | a :: xs, b :: ys, 0, x, y, e1, e2 => by
    simp at e1 e2
    subst e1 e2
    rfl
  | a :: xs, b :: ys, i + 1, x, y, e1, e2 => zipD_get (xs := xs) (ys := ys) (i := i) (by simpa using e1) (by simpa using e2)
theorem zipD_of : ∀ {xs ys : List D} {i : Nat} {d : D}, (zipD xs ys)[i]? = some d → ∃ x y, xs[i]? = some x ∧ ys[i]? = some y ∧ d = .tup [x, y]
  | [], _, _, _, e => by simp [zipD] at e
  | _ :: _, [], _, _, e => by simp [zipD] at e
  | a :: xs, b :: ys, 0, d, e => ⟨a, b, rfl, rfl, by simp [zipD] at e; exact e.symm⟩
  | a :: xs, b :: ys, i + 1, d, e => by
    obtain ⟨x, y, e1, e2, e3⟩ := zipD_of (xs := xs) (ys := ys) (i := i) (by simpa [zipD] using e)
    exact ⟨x, y, by simpa using e1, by simpa using e2, e3⟩
theorem zipD_len : ∀ {xs ys : List D}, (zipD xs ys).length = min xs.length ys.length
  | [], _ => by simp [zipD]
  | _ :: _, [] => by simp [zipD]
  | a :: xs, b :: ys => by
    have := zipD_len (xs := xs) (ys := ys)
    simp only [zipD, List.length_cons, this]
    omega
theorem idxP_get {q : PyData} : ∀ {ps : List PyData} {j : Nat}, idxP q ps = some j → ∃ z, ps[j]? = some z ∧ PyData.eqv z q = true ∧ ∀ (m : Nat) (z' : PyData), m < j → ps[m]? = some z' → PyData.eqv z' q = false
  | [], j, e => nomatch e
  | p :: ps, j, e => by
    unfold idxP at e
    split at e
    · rename_i c
      cases e
      exact ⟨p, rfl, c, fun m z' h => absurd h (Nat.not_lt_zero _)⟩
    · rename_i c
      obtain ⟨i, e1, rfl⟩ := Option.map_eq_some_iff.mp e
      obtain ⟨z, a1, a2, a3⟩ := idxP_get e1
      refine ⟨z, by simpa using a1, a2, fun m z' h hz => ?_⟩
      cases m with
      | zero => simp at hz; subst hz; exact c
      | succ m => exact a3 m z' (by omega) (by simpa using hz)
end Mo
end
section
/-! setdefault, get, index, extend, list(range), zip. -/
namespace Mo
open PySem L2 PyProof.Rows He
theorem hu65 {k : Nat} {A : Around} (r : Room k A) : A.units + 65 < cLine := by have := r.un; omega
section
variable {G : Gm} {E : WM} {X : Cx} {o e f : Expr} {apos cpos : Pos} {ma mb mc : ME}
theorem dic_of {h : Hm} {l : Nat} (c : tyD h (.loc l) = some "dict") : ∃ kds, h.g l = some (.dic kds) := by
  unfold tyD at c
  simp only at c
  split at c
  · exact absurd c (by decide)
  · rename_i kds e1
    exact ⟨kds, e1⟩
  · cases c
/-- d.setdefault(k, z) -/
theorem me_dsetd (ho : PE X o (rd G E ma)) (he : PE X e (rd G E mb)) (hf : PE X f (rd G E mc)) (m : M2 X o "setdefault" apos e f cpos) : PE X (.Call (.Attribute o "setdefault" apos) [e, f] [] cpos) (rd G E (eDSetd ma mb mc)) :=
  pe_w (pe_dsetd ho he hf m) fun σ H Q ⟨ρ, env, h, hs, hr, w⟩ => ⟨ρ, env, h, hs, hr, w.seq fun x h1 ρ1 H1 v g1 r1 q1 w1 => by
    obtain ⟨c, w1⟩ := w1.ifR
    have c := of_decide_eq_true c
    cases q1 with
    | @loc a l hl =>
      obtain ⟨kds, e1⟩ := dic_of c
      obtain ⟨kvs, e4, n⟩ := r1.at e1 hl
      refine ⟨a, rfl, .inl ⟨kvs, .inl e4⟩, ρ1, env, h1, hs.grow g1, r1, w1.seq fun y h2 ρ2 H2 u g2 r2 q2 w2 => ?_⟩
      refine ⟨ρ2, env, h2, (hs.grow g1).grow g2, r2, w2.seq fun z h3 ρ3 H3 u3 g3 r3 q3 w3 => ?_⟩
      have hl3 := (VRel.loc (G := G) (H := H1) hl).grow (g2.trans g3)
      cases hl3 with
      | loc hl3 =>
        unfold dSetd at w3
        simp only at w3
        split at w3 <;> first | exact False.elim w3 | skip
        rename_i kds3 k e6 e7
        obtain ⟨kvs3, e9, n3⟩ := r3.at e6 hl3
        obtain ⟨i1, i2⟩ := look_rel n3 (k := k)
        have ek := kOf_rel (q2.grow g3) e7
        obtain ⟨c3, w3⟩ := w3.ifR
        have c3 := of_decide_eq_true c3
        refine ⟨kvs3, k, e9, ek, by rw [n3.length]; exact sl_lt c3, fun v hv => ?_, fun hn => ?_⟩
        · split at w3
          · rename_i d e8
            obtain ⟨zz, e10, q10⟩ := i1 d e8
            rw [e10] at hv
            cases hv
            exact w3.val r3 q10
          · rename_i e8
            rw [i2 e8] at hv
            cases hv
        · split at w3
          · rename_i d e8
            obtain ⟨zz, e10, q10⟩ := i1 d e8
            rw [e10] at hn
            cases hn
          · have g := Grow.put r3 hl3 e9 trivial (.dK (L2.putK kvs3 k u3))
            exact w3 _ _ _ g (r3.put hl3 e9 trivial ⟨_, upd_same, put_rel (n3.grow g) (q3.grow g)⟩) (q3.grow g)
    | _ => exact absurd c (fun z => by first | (simp only [tyD] at z; injection z with z; exact absurd z (by decide)) | (simp [tyD] at z))⟩
/-- d.get(k, z) -/
theorem me_dget2 (hu : X.A.units + 1 < cLine) (ho : PE X o (rd G E ma)) (he : PE X e (rd G E mb)) (hf : PE X f (rd G E mc)) (m : M2 X o "get" apos e f cpos) : PE X (.Call (.Attribute o "get" apos) [e, f] [] cpos) (rd G E (eDGet2 ma mb mc)) :=
  pe_w (pe_dget2 hu ho he hf m) fun σ H Q ⟨ρ, env, h, hs, hr, w⟩ => ⟨ρ, env, h, hs, hr, w.seq fun x h1 ρ1 H1 v g1 r1 q1 w1 => by
    obtain ⟨c, w1⟩ := w1.ifR
    have c := of_decide_eq_true c
    cases q1 with
    | @loc a l hl =>
      obtain ⟨kds, e1⟩ := dic_of c
      obtain ⟨kvs, e4, n⟩ := r1.at e1 hl
      refine ⟨a, rfl, .inl ⟨kvs, .inl e4⟩, ρ1, env, h1, hs.grow g1, r1, w1.seq fun y h2 ρ2 H2 u g2 r2 q2 w2 => ?_⟩
      refine ⟨ρ2, env, h2, (hs.grow g1).grow g2, r2, w2.seq fun z h3 ρ3 H3 u3 g3 r3 q3 w3 => ?_⟩
      have hl3 := (VRel.loc (G := G) (H := H1) hl).grow (g2.trans g3)
      cases hl3 with
      | loc hl3 =>
        unfold dGet2 at w3
        simp only at w3
        split at w3 <;> first | exact False.elim w3 | skip
        rename_i kds3 k e6 e7
        obtain ⟨kvs3, e9, n3⟩ := r3.at e6 hl3
        obtain ⟨i1, i2⟩ := look_rel n3 (k := k)
        refine ⟨valV kvs3 k, by rw [kOf_rel (q2.grow g3) e7]; exact DGet.k e9, ?_⟩
        cases c : lookA k kds3 with
        | none =>
          rw [c] at w3
          rw [i2 c]
          exact w3.val r3 q3
        | some d =>
          rw [c] at w3
          obtain ⟨zz, e10, q10⟩ := i1 d c
          rw [e10]
          exact w3.val r3 q10
    | _ => exact absurd c (fun z => by first | (simp only [tyD] at z; injection z with z; exact absurd z (by decide)) | (simp [tyD] at z))⟩
theorem bs_index : MbS G E (rIndexD G.K) mIndex := by
  intro τ ρ H h x v ds vs Q r q qs w
  unfold mIndex at w
  split at w
  · obtain ⟨u, rfl, k⟩ := vs1 qs
    split at w <;> first | exact False.elim w | skip
    rename_i ps q0 e1 e2
    split at w <;> first | exact False.elim w | skip
    rename_i j e3
    obtain ⟨z, a1, a2, a3⟩ := idxP_get e3
    have hd := dat_dp r _ _ _ _ e1 q
    have ha : ∃ a, v = .ref a := by cases hd with | lst _ _ => exact ⟨_, rfl⟩
    obtain ⟨a, rfl⟩ := ha
    exact ⟨a, u, q0, ps, j, z, rfl, rfl, hd, dat_dp r _ _ _ _ e2 k, dat_shaped e1, dat_shaped e2, a1, a2, a3, w.val r (.int _)⟩
  · exact False.elim w
def rExtendX (K : PySem.W.Frag) : V → List V → Hp → VK → Prop := fun x vs H Q => ∃ l b xs zs, x = .ref l ∧ vs = [.ref b] ∧ H l = some (.lst xs) ∧ LX K H b zs ∧ xs.length + zs.length ≤ sizeLine ∧ Q .non (upd H l (.lst (xs ++ zs)))
end
section
variable {G : Gm} {E : WM}
theorem bs_extendX : MbS G E (rExtendX G.K) mExtendX := by
  intro τ ρ H h x v ds vs Q r q qs w
  unfold mExtendX at w
  split at w
  · obtain ⟨u, rfl, k⟩ := vs1 qs
    cases q with
    | @loc a l hl =>
      split at w <;> first | exact False.elim w | skip
      rename_i xs ys e1 e2
      obtain ⟨c, w⟩ := Wp.ifR w
      have c := of_decide_eq_true c
      obtain ⟨ws, e4, k4⟩ := r.at e1 hl
      obtain ⟨p, us, rfl, hp, k5⟩ := seq_lx r e2 k
      exact ⟨a, p, ws, us, rfl, rfl, e4, hp, by rw [k4.length, k5.length]; exact sl_le c, w.putL r hl e4 (k4.append k5) .non⟩
  · exact False.elim w
/-! ### list(range) -/
theorem lr_w {E' : XK} {ρ : List Addr} {H : Hp} {h : Hm} {i j : Int} {Q : VK} (r : HRel G ρ H h) (w : Wp G E' (VRel G) (lrOf i j h) ρ H Q) : RgOk i j ∧ ∀ q, H q = none → Leave Q (.ref q) (upd H q (.lst (rgV i j))) := by
  obtain ⟨c, w⟩ := w.ifR
  obtain ⟨c1, c2, c3, c4, c5⟩ := of_decide_eq_true c
  refine ⟨⟨c1, c2, c3, c4, Nat.le_trans c5 (by unfold SL; decide)⟩, fun q hq => Leave.new w r ?_ hq⟩
  unfold rgV intsFrom
  have go : ∀ l : List Nat, VRels G ρ H (l.map fun k => V.int (i + (k : Nat))) (l.map fun k => D.int (i + (k : Nat))) := fun l => by
    induction l with
    | nil => exact .nil
    | cons a l ih => exact .cons (.int _) ih
  exact go _
variable {X : Cx} {a b : Expr} {ma mb : ME} {p pos p2 pos2 : Pos}
theorem me_lr1 (hc : X.calm = true) (hg : Gl X "list") (hm : X.mg "list" = none) (hg2 : Gl X "range") (hm2 : X.mg "range" = none) (ha : PE X a (rd G E ma)) (na : starEach [a] X.env = (false, eval a X.env) :: starEach [] X.env := by rfl)
    (ne : starEach [.Call (.Name "range" p2) [a] [] pos2] X.env = (false, eval (.Call (.Name "range" p2) [a] [] pos2) X.env) :: starEach [] X.env := by rfl) : PE X (.Call (.Name "list" p) [.Call (.Name "range" p2) [a] [] pos2] [] pos) (rd G E (eLr1 ma)) :=
  pe_w (pe_frz (pe_listRg hc hg hm (prg_1 hg2 hm2 ha na) ne)) fun σ H Q ⟨ρ, env, h, hs, hr, w⟩ => ⟨ρ, env, h, hs, hr, w.seq fun x h1 ρ1 H1 v g1 r1 q1 w1 => by
    unfold lr1 at w1
    split at w1 <;> first | exact False.elim w1 | skip
    cases q1
    exact ⟨_, rfl, lr_w r1 w1⟩⟩
theorem me_lr2 (hc : X.calm = true) (hg : Gl X "list") (hm : X.mg "list" = none) (hg2 : Gl X "range") (hm2 : X.mg "range" = none) (ha : PE X a (rd G E ma)) (hb : PE X b (rd G E mb)) (na : starEach [a, b] X.env = (false, eval a X.env) :: starEach [b] X.env := by rfl) (nb : starEach [b] X.env = (false, eval b X.env) :: starEach [] X.env := by rfl) (hp : (backTo pos2 (starEach [b] X.env)).any (·.1) = false := by rfl)
    (ne : starEach [.Call (.Name "range" p2) [a, b] [] pos2] X.env = (false, eval (.Call (.Name "range" p2) [a, b] [] pos2) X.env) :: starEach [] X.env := by rfl) : PE X (.Call (.Name "list" p) [.Call (.Name "range" p2) [a, b] [] pos2] [] pos) (rd G E (eLr2 ma mb)) :=
  pe_w (pe_frz (pe_listRg hc hg hm (prg_2 hg2 hm2 ha hb na nb hp) ne)) fun σ H Q ⟨ρ, env, h, hs, hr, w⟩ => ⟨ρ, env, h, hs, hr, w.seq fun x h1 ρ1 H1 v g1 r1 q1 w1 => ⟨ρ1, env, h1, hs.grow g1, r1, w1.seq fun y h2 ρ2 H2 u g2 r2 q2 w2 => by
    have q1' := q1.grow g2
    unfold lr2 at w2
    split at w2 <;> first | exact False.elim w2 | skip
    cases q1'
    cases q2
    exact ⟨_, _, rfl, rfl, lr_w r2 w2⟩⟩⟩
end
section
variable {X : Cx}
theorem mt_extendX : MtM X "list.extend" (rExtendX X.K) := by
  intro pins s σ H x vs v us Q I rx rv h
  obtain ⟨l, b, xs, zs, rfl, rfl, hH, hB, hz, q⟩ := h
  cases rx
  obtain ⟨u, rfl, ru⟩ := rv.one
  cases ru
  obtain ⟨z, its, n, r, hl, e⟩ := I.lstM hH
  obtain ⟨z2, its2, n2, r2, hl2, e2⟩ := lx_at I hB
  have hsz : its.toArray.size + its2.toArray.size ≤ sizeLine := by rw [List.size_toArray, List.size_toArray]; omega
  have hlong : ¬ (!its.toArray.isEmpty && Builtin.List.listTooLong (its.toArray.size + its2.toArray.size)) = true := by
    rw [notLongL hsz, Bool.and_false]
    exact Bool.false_ne_true
  refine call_meets F.slot_list_extend ⟨_, e, rfl⟩ F.entry_list_extend (F.args_list_extend_2 _ _)
    (AutoSeq1.list_extend_list_list_0 l its.toArray n b its2.toArray n2 hlong (by rw [List.size_toArray]; omega) (by omega)) ⟨e, e2, ?_⟩
  refine ⟨.non, _, I.lset (its' := its ++ its2) hH e (by simp) (r.append r2) ?_, rfl, q⟩
  rw [List.length_append]
  omega
end
end Mo
end
section
set_option maxHeartbeats 4000000
/-! zip, dict comprehensions, sorted(set) of any size. -/
namespace Mo
open PySem PySem.Spec L2 PyProof.Rows He RZ
section
variable {G : Gm} {E : WM} {X : Cx} {as : MA} {a b : Expr} {p pos : Pos}
theorem yld_pair {ρ : List Addr} {H : Hp} {h : Hm} {x y : V} {dx dy : D} {T : Addr} (hT : H T = none) (r : HRel G ρ H h) (qx : VRel G ρ H x dx) (qy : VRel G ρ H y dy) : ∃ ρ', Grow ρ H ρ' (upd H T (.tup [x, y])) ∧ HRel G ρ' (upd H T (.tup [x, y])) h ∧ VRel G ρ' (upd H T (.tup [x, y])) (.ref T) (.tup [dx, dy]) := by
  have g := Grow.tmp (ρ := ρ) hT (.tup [x, y])
  exact ⟨ρ, g, r.tmp hT _, .tup (SqT.of upd_same) (.cons (qx.grow g) (.cons (qy.grow g) .nil))⟩
theorem yld_zipT {ρ : List Addr} {H : Hp} {pa pb : Addr} {vs us : List V} {xs ys : List D} (h1 : SqT G.K H pa vs) (h2 : VRels G ρ H vs xs) (h3 : SqT G.K H pb us) (h4 : VRels G ρ H us ys) : Yld G (ItzT G.K pa pb) ⟨zipD xs ys, fun _ => true⟩ ρ H := by
  refine ⟨fun ρ' H' h i g r e hi => ?_, fun ρ' H' h i g r e hi => ?_, fun ρ' H' h i y H2 g r e yl d ed => ?_⟩
  · have hi : i < (zipD xs ys).length := hi
    rw [zipD_len] at hi
    have a1 : i < vs.length := by rw [h2.length]; omega
    have a2 : i < us.length := by rw [h4.length]; omega
    exact ⟨vs, us, vs[i], us[i], g.ext.sqT h1, g.ext.sqT h3, by simp [a1], by simp [a2]⟩
  · have hi : (zipD xs ys).length ≤ i := hi
    rw [zipD_len] at hi
    exact ⟨vs, us, g.ext.sqT h1, g.ext.sqT h3, by rw [h2.length, h4.length]; omega⟩
  · obtain ⟨T, x, z, e2, hT, e3, y1, y2⟩ := yl
    subst e2 e3
    obtain ⟨dx, dy, ex, ey, rfl⟩ := zipD_of ed
    obtain ⟨vx, e6, kx⟩ := (h2.grow g).get ex
    obtain ⟨vy, e7, ky⟩ := (h4.grow g).get ey
    have e8 := y1 vs (g.ext.sqT h1)
    have e9 := y2 us (g.ext.sqT h3)
    rw [e6] at e8
    rw [e7] at e9
    cases e8
    cases e9
    exact yld_pair hT r kx ky
theorem yld_zipL {ρ : List Addr} {H : Hp} {x y : D} {pa pb : Addr} {xs ys : List D} (q1 : VRel G ρ H (.ref pa) x) (q2 : VRel G ρ H (.ref pb) y) : Yld G (Itz G.K pa pb) ⟨zipD xs ys, fun h' => decide (h'.seq x = some xs) && decide (h'.seq y = some ys)⟩ ρ H := by
  have at' : ∀ {ρ' : List Addr} {H' : Hp} {h : Hm}, Grow ρ H ρ' H' → HRel G ρ' H' h → (decide (h.seq x = some xs) && decide (h.seq y = some ys)) = true → ∃ vs us, SqL G.K H' pa vs ∧ VRels G ρ' H' vs xs ∧ SqL G.K H' pb us ∧ VRels G ρ' H' us ys := fun g r e => by
    obtain ⟨c1, c2⟩ := Bool.and_eq_true_iff.mp e
    obtain ⟨a, vs, e1, k1, k2⟩ := r.seqL (of_decide_eq_true c1) (q1.grow g)
    cases e1
    obtain ⟨a, us, e1, k3, k4⟩ := r.seqL (of_decide_eq_true c2) (q2.grow g)
    cases e1
    exact ⟨vs, us, k1, k2, k3, k4⟩
  refine ⟨fun ρ' H' h i g r e hi => ?_, fun ρ' H' h i g r e hi => ?_, fun ρ' H' h i y H2 g r e yl d ed => ?_⟩
  · obtain ⟨vs, us, k1, k2, k3, k4⟩ := at' g r e
    have hi : i < (zipD xs ys).length := hi
    rw [zipD_len] at hi
    have a1 : i < vs.length := by rw [k2.length]; omega
    have a2 : i < us.length := by rw [k4.length]; omega
    exact ⟨vs, us, vs[i], us[i], k1, k3, by simp [a1], by simp [a2]⟩
  · obtain ⟨vs, us, k1, k2, k3, k4⟩ := at' g r e
    have hi : (zipD xs ys).length ≤ i := hi
    rw [zipD_len] at hi
    exact ⟨vs, us, k1, k3, by rw [k2.length, k4.length]; omega⟩
  · obtain ⟨vs, us, k1, k2, k3, k4⟩ := at' g r e
    obtain ⟨T, x, z, e2, hT, e3, y1, y2⟩ := yl
    subst e2 e3
    obtain ⟨dx, dy, ex, ey, rfl⟩ := zipD_of ed
    obtain ⟨vx, e6, kx⟩ := k2.get ex
    obtain ⟨vy, e7, ky⟩ := k4.get ey
    have e8 := y1 vs k1
    have e9 := y2 us k3
    rw [e6] at e8
    rw [e7] at e9
    cases e8
    cases e9
    exact yld_pair hT r kx ky
theorem mi_zip {elts : List Expr} {kk : Nat} {tpos : Pos} (hK : X.K = G.K) (hg : Gl X "zip") (hm : X.mg "zip" = none) (ha : PA X [a, b] (rdA G E as)) (hs : starEach [a, b] X.env = (false, eval a X.env) :: starEach [b] X.env := by rfl) (hpl : (backTo pos (starEach [b] X.env)).any (·.1) = false := by rfl) :
    PI X (.Tuple elts kk tpos) (.Call (.Name "zip" p) [a, b] [] pos) (rdI G E (iZip as)) :=
  pi_w (pi_zipA hg hm ha hs hpl) fun σ H R ⟨ρ, env, h, hs, hr, w⟩ => by
    rw [hK]
    refine ⟨ρ, env, h, hs, hr, w.seq fun ds h1 ρ1 H1 vs g1 r1 q1 w1 => ?_⟩
    unfold zipOf at w1
    split at w1
    · obtain ⟨v, u, rfl, k1, k2⟩ := vs2 q1
      cases k1 with
      | tup a1 b1 =>
        cases k2 with
        | tup a2 b2 => exact ⟨_, _, _, _, rfl, .inr ⟨a1, a2, w1 ρ1 H1 _ (Grow.refl _ _) r1 (yld_zipT a1 b1 a2 b2)⟩⟩
    · obtain ⟨v, u, rfl, k1, k2⟩ := vs2 q1
      split at w1 <;> first | exact False.elim w1 | skip
      rename_i xs ys e1 e2
      obtain ⟨pa, us, rfl, a1, a2⟩ := r1.seqL e1 k1
      obtain ⟨pb, ws, rfl, b1, b2⟩ := r1.seqL e2 k2
      exact ⟨_, _, _, _, rfl, .inl ⟨a1, b1, w1 ρ1 H1 _ (Grow.refl _ _) r1 (yld_zipL k1 k2)⟩⟩
    · exact False.elim w1
/-! ### dict comprehensions -/
variable {mk mv : ME}
theorem rd_dcomp {mi : MI} {own : List Nat} {one : Bool} {is : List Nat} {t : MT} {g : TG} (hb : BdOk G (bindC one is) g own) (σ : L2.St) (H : Hp) (Q : VK)
    (w : rd G E (eDComp mi own one is t mk mv) σ H Q) : tDc (rdI G E mi) g (rdT G EW t) (rd G EW mk) (rd G EW mv) own σ H Q := by
  obtain ⟨ρ, env, h, hs, hr, w⟩ := w
  refine ⟨ρ, env, h, hs, hr, Wp.seq w fun J h1 ρ1 H1 JJ g1 r1 y w1 => ?_⟩
  intro L hL
  have s1 := hs.grow g1
  have nL := r1.fresh hL
  have gL := Grow.tmp (ρ := ρ1) hL (.dK [])
  let fin : List (Key × D) → Hm → R D := fun acc h2 => .ok (.loc h2.n) (h2.new (.dic acc))
  let Wn : Nat → Hp → Prop := fun i H2 => i ≤ J.xs.length ∧ ∃ ρ2 h2 acc dacc, Grow ρ1 H1 ρ2 H2 ∧ HRel G ρ2 H2 h2 ∧ L ∉ ρ2 ∧ H2 L = some (.dK acc) ∧ NRel G ρ2 H2 acc dacc ∧
    Wp G (atW E σ) (VRel G) ((dcGo (bindC one is) t mk mv J.ok (wipe env own) (J.xs.drop i) dacc h2).bind fin) ρ1 H1 Q
  refine ⟨fun i m H2 => m = J.xs.length - i ∧ Wn i H2, ⟨_, rfl, Nat.zero_le _, ρ1, h1, [], [], gL, r1.tmp hL _, nL, upd_same, .nil, w1⟩, ?_⟩
  rintro i m H2 ⟨rfl, hle, ρ2, h2, acc, dacc, g2, r2, n2, e2, q2, w2⟩
  by_cases hlt : i < J.xs.length
  · rw [List.drop_eq_getElem_cons hlt] at w2
    unfold dcGo at w2
    split at w2 <;> first | exact False.elim w2 | skip
    rename_i env3 ok eb
    refine .inr ⟨y.go ρ2 H2 h2 i g2 r2 ok hlt, Wn (i + 1), fun H' q => ⟨J.xs.length - (i + 1), by omega, rfl, q⟩, fun x H3 yl => ?_⟩
    obtain ⟨ρ3, g3, r3, q3⟩ := y.yld ρ2 H2 h2 i x H3 g2 r2 ok yl J.xs[i] (by simp [hlt])
    refine hb ρ3 H3 J.xs[i] x _ env3 _ q3 (((s1.grow g2).grow g3).wipe own) eb _ fun σ4 s4 ew => ⟨by rw [ew, wipe_wipe], ρ3, env3, h2, s4, r3, ?_⟩
    obtain ⟨e3, n3⟩ := g3.out L _ e2 n2
    let P : R (List (Key × D)) → Prop := fun r => Wp G (atW E σ) (VRel G) (r.bind fin) ρ1 H1 Q
    refine Wp.seqQ P (fun z => z) w2 fun k h4 ρ4 H4 b g4 r4 q4 w4 => ?_
    obtain rfl : b = k := q4
    obtain ⟨e4, n4⟩ := g4.out L _ e3 n3
    cases b with
    | false => exact ⟨hlt, ρ4, h4, acc, dacc, (g2.trans g3).trans g4, r4, n4, e4, (q2.grow g3).grow g4, w4⟩
    | true =>
      show rd G EW mk σ4 H4 _
      refine ⟨ρ4, env3, h4, s4.grow g4, r4, Wp.seqQ P (fun z => z) w4 fun d h5 ρ5 H5 v g5 r5 q5 w5 => ?_⟩
      obtain ⟨e5, n5⟩ := g5.out L _ e4 n4
      refine ⟨ρ5, env3, h5, (s4.grow g4).grow g5, r5, Wp.seqQ P (fun z => z) w5 fun dz h6 ρ6 H6 vz g6 r6 q6 w6 => ?_⟩
      obtain ⟨e6, n6⟩ := g6.out L _ e5 n5
      have q7 := (((q2.grow g3).grow g4).grow g5).grow g6
      split at w6 <;> first | exact False.elim w6 | skip
      rename_i kk ek
      have w6 : P (ifR (decide (dacc.length < SL)) (dcGo (bindC one is) t mk mv J.ok (wipe env own) (J.xs.drop (i + 1)) (putK dacc kk dz) h6)) := w6
      cases c : decide (dacc.length < SL) with
      | false => rw [c] at w6; exact False.elim w6
      | true =>
        rw [c] at w6
        obtain ⟨r8, x8⟩ := r6.aside (u' := .dK (L2.putK acc kk vz)) n6 e6 trivial
        refine ⟨acc, kk, kOf_rel (q5.grow g6) ek, e6, by rw [q2.length]; exact sl_lt (of_decide_eq_true c), hlt, ρ6, h6, L2.putK acc kk vz, putK dacc kk dz, ?_, r8, n6, upd_same, put_rel (q7.ext x8) (q6.ext x8), w6⟩
        have g8 := (((g2.trans g3).trans g4).trans g5).trans g6
        refine ⟨g8.pre, fun b xs e => ?_, fun b o u e => ?_, fun b o e n kt => ?_⟩
        · rw [upd_ne (ne_of_none e hL)]; exact g8.tup b xs e
        · rw [upd_ne (ne_of_none e hL)]; exact g8.frz b o u e
        · rw [upd_ne (ne_of_none e hL)]; exact g8.out b o e n kt
  · have e : i = J.xs.length := by omega
    subst e
    rw [List.drop_length] at w2
    unfold dcGo at w2
    cases ok : J.ok h2 with
    | false => rw [ok] at w2; exact False.elim w2
    | true =>
      rw [ok] at w2
      refine .inl ⟨y.stop ρ2 H2 h2 _ g2 r2 ok (Nat.le_refl _), ?_⟩
      have e3 : upd H2 L (.dK acc) = H2 := by
        funext b
        by_cases c : b = L
        · rw [c, upd_same, e2]
        · rw [upd_ne c]
      have r3 := r2.adopt (u' := .dK acc) (o := .dic dacc) n2 e2 trivial ⟨acc, upd_same, q2.ext (Ext.late e2 trivial _)⟩
      rw [e3] at r3
      refine (show Wp G (atW E σ) (VRel G) (.ok (.loc h2.n) (h2.new (.dic dacc))) ρ1 H1 Q from w2) (ρ2 ++ [L]) H2 _ ⟨?_, g2.tup, g2.frz, fun b o e n kt => ?_⟩ r3 (.loc ?_)
      · obtain ⟨u, e⟩ := g2.pre
        exact ⟨u ++ [L], by rw [e, List.append_assoc]⟩
      · obtain ⟨e4, n4⟩ := g2.out b o e n kt
        refine ⟨e4, fun m => ?_⟩
        rcases List.mem_append.mp m with m | m
        · exact n4 m
        · exact ne_of_none e hL (List.mem_singleton.mp m)
      · rw [← r2.len]
        simp
variable {tg it kx vx : Expr} {ifs : List Expr} {scope : Scope} {own : List (Str × Nat)} {mi : MI} {t : MT} {one : Bool} {is : List Nat} {g : TG}
theorem me_dcomp (hc : X.calm = true) (hN : X.N.Nodup) (hi : PI X tg it (rdI G E mi)) (ok : BlkOk X.N X.env.scope scope own) (hbd : BdOk G (bindC one is) g (own.map (·.2)))
    (hg : ∀ (s : Shared) (H : Hp) (C : Addr) (cl : List (Str × Addr)) (fp : List Addr), PG (X.blk s H scope (compEnvC scope cl C X.env) fp) tg g) (ht : ∀ (s : Shared) (H : Hp) (C : Addr) (cl : List (Str × Addr)) (fp : List Addr), PTs (X.blk s H scope (compEnvC scope cl C X.env) fp) ifs (rdT G EW t))
    (hk : ∀ (s : Shared) (H : Hp) (C : Addr) (cl : List (Str × Addr)) (fp : List Addr), PE (X.blk s H scope (compEnvC scope cl C X.env) fp) kx (rd G EW mk)) (he : ∀ (s : Shared) (H : Hp) (C : Addr) (cl : List (Str × Addr)) (fp : List Addr), PE (X.blk s H scope (compEnvC scope cl C X.env) fp) vx (rd G EW mv)) (hs : ∀ x, foldedSetIterable it X.env x = pure x := by intro _; rfl) :
    PE X (.DictComp kx vx [⟨tg, it, ifs, 0⟩] scope pos) (rd G E (eDComp mi (own.map (·.2)) one is t mk mv)) := pe_w (pe_dc hc hN hi ok hg ht hk he hs) (rd_dcomp hbd)
end
/-! ### sorted(set(x)) of any size -/
section
variable {P : Program} {w : World} {A : Around} {E : Value → Shared → Prop} {s : Shared} {a : Addr}
theorem sorted_setL {S : Int → Bool} {n : Nat} {Q : Value → Shared → Prop} (R : SetR w s.heap a S n) (hh : A.handled = none) (h64 : n ≤ 4000)
    (hQ : ∀ s' p (out : Array Value) (c : Nat) (ns : List Int), (∀ b o, s.heap.get? b = some o → s'.heap.get? b = some o) → s'.gens = s.gens → s'.os = s.os → s.heap.objs.size ≤ p →
      s'.heap.get? p = some (seqObj "list" out c) → IntsAre out.toList ns → ns.Pairwise (· < ·) → (∀ k, k ∈ ns ↔ S k = true) → ns.length = n → Q (.ref p) s') :
    wpAny (model P w) A (call (.builtin "sorted") [.ref a]) Q E s := by
  obtain ⟨o, es, ep, t, ho, hex, hd, g, nd, hm, hb, hf, hn, hr, hl⟩ := R
  refine Calls.call_function_entry kind_sorted plain_sorted entry_sorted (args_sorted1 _) ?_
  unfold Builtin.«sorted»
  refine wpAny_bind (m := checkCount "sorted" 1 1 _) (wpAny_pure ?_)
  refine wpAny_bind (collect_set (A := A.in1) hh ⟨o, ho, hex.1, hd⟩ hf hb hr hl fun s1 vs k1 hz g1 o1 pm => ?_)
  have hvl : vs.length = n := by rw [pm.length_eq, List.length_map, Array.length_toList]; exact hn
  have hI : IntsAre vs (vs.map Builtin.Re.reRawOf) := ints_of vs fun v hv => by
    obtain ⟨e, he, q⟩ := List.mem_map.mp (pm.mem_iff.mp hv)
    obtain ⟨k, tk, h1, _⟩ := g e he
    exact ⟨k, tk, by rw [← q]; exact h1⟩
  have pk : (vs.map Builtin.Re.reRawOf).Perm (es.toList.map keyOf) := by
    have q := pm.map Builtin.Re.reRawOf
    rw [List.map_map] at q
    exact q
  have hz2 : vs.length ≤ sizeLine := by rw [hvl, sizeLine_eq]; omega
  refine wpAny_bind (wpAny_newList ?_ hz2)
  have hoL : (s1.heap.push (seqObj "list" vs.toArray 0)).get? s1.heap.objs.size = some (seqObj "list" vs.toArray 0) := Heap.get?_push_size _ rfl
  refine wpAny_bind (wpAny_holding (wpAny_call_entry slot_list_sort ⟨_, hoL, rfl⟩ entry_list_sort (SrtO.list_sort_ord SrtO.swo_int hoL hz2 (fun h2 => SrtO.ints_sortable hI h2) fun out h1 h2 => ⟨_, rfl, ?_⟩) (args_list_sort _)))
  obtain ⟨a1, a2, a3⟩ := SrtO.ints_out hI h1 h2
  obtain ⟨c, hc⟩ := sortedHeap_at (vs := vs) (out := out.toArray) hoL
  have pn : (out.map SrtO.iv).Perm (es.toList.map keyOf) := a2.trans pk
  refine wpAny_pure ⟨_, rfl, hQ _ s1.heap.objs.size out.toArray c (out.map SrtO.iv) (fun b u e => ?_) g1 o1 hz hc a1 (lt_of_le_nodup _ a3 (pn.nodup_iff.mpr nd)) (fun k => by rw [pn.mem_iff, ← hm k]) ?_⟩
  · have q := k1 b u e
    have hlt := Heap.lt_size q
    show (sortedHeap (s1.heap.push (seqObj "list" vs.toArray 0)) s1.heap.objs.size vs out.toArray).get? b = some u
    rw [sortedHeap_old (Nat.ne_of_lt hlt) (by rw [size_push']; exact Nat.lt_succ_of_lt hlt)]
    exact Heap.get?_push_of_some _ q
  · rw [pn.length_eq, List.length_map, Array.length_toList]; exact hn
end
section
variable {G : Gm} {E : WM} {X : Cx} {a : Expr} {ma : ME} {x y : Str} {p p2 pos pos2 : Pos}
theorem sortU_le : ∀ ks : List Int, (sortU ks).length ≤ ks.length
  | [] => Nat.le_refl _
  | k :: ks => by
    have := insU_len k (sortU ks)
    have h2 := sortU_le ks
    show (insU k (sortU ks)).length ≤ ks.length + 1
    omega
theorem cr_sortedSetL (hc : X.calm = true) : CallR X (.builtin "sorted") (fun vs H Q => ∃ (a : Addr) (S : Int → Bool) (n : Nat) (ks : List Int), vs = [V.ref a] ∧ H a = some (SetO X.w a S n) ∧ (∀ k, S k = true ↔ k ∈ ks) ∧ (sortU ks).length ≤ 4000 ∧ ∀ p, H p = none → Q (.ref p) (upd H p (.lst ((sortU ks).map V.int)))) := by
  intro pins s σ H xs us Q I r h
  obtain ⟨a, S, n, ks, rfl, ha, m, l, q⟩ := h
  have R := setO_get I ha
  rw [Vals.ref1 r]
  refine sorted_setL R (I.ok.hd hc) (by rw [setO_len R m]; exact l) fun s' p out c ns k g o hp hg hi hs hm hl => ?_
  have el : ns = sortU ks := sortU_eq (fun j => (hm j).trans (m j)) hs
  have hlen : (ns.map V.int).length ≤ sizeLine := by rw [List.length_map, el, sizeLine_eq]; omega
  have hn : H p = none := I.hok.fresh hp
  have J : Inv X pins σ (upd H p (.lst (ns.map V.int))) { s with heap := s'.heap, gens := s'.gens, drawn := s'.drawn, toks := s'.toks } :=
    I.call (ch := []) (Un.laid k hp hn) (I.hok.laid k hp ⟨hlen, out.toList, c, vals_of_ints hi, hg⟩) (by rw [g]; exact I.bare) (fun _ z => nomatch z)
  have e : s' = { s with heap := s'.heap, gens := s'.gens, drawn := s'.drawn, toks := s'.toks } := by
    cases s'
    cases s
    cases o
    rfl
  rw [e]
  refine ⟨.ref p, _, J, rfl, ?_⟩
  rw [el]
  exact q p hn
/-- sorted(set(x)) -/
theorem me_sortSetL (hc : X.calm = true) (hK : X.K = G.K) (hg : Gl X x) (hm : X.mg x = none) (hv : bootBuiltins x = some (.builtin "sorted")) (hg2 : Gl X y) (hm2 : X.mg y = none) (hv2 : bootBuiltins y = some (.type "set")) (ha : PE X a (rd G E ma)) (hn : x ≠ "__name__" := by decide) (hdb : (x == ("__debug__" : Str)) = false := by decide) (hn2 : y ≠ "__name__" := by decide) (hdb2 : (y == ("__debug__" : Str)) = false := by decide)
    (hs : starEach [a] X.env = (false, eval a X.env) :: starEach [] X.env := by rfl) (hpl : (backTo pos2 (starEach [] X.env)).any (·.1) = false := by rfl)
    (hs2 : starEach [.Call (.Name y p2) [a] [] pos2] X.env = (false, eval (.Call (.Name y p2) [a] [] pos2) X.env) :: starEach [] X.env := by rfl) (hpl2 : (backTo pos (starEach [] X.env)).any (·.1) = false := by rfl) :
    PE X (.Call (.Name x p) [.Call (.Name y p2) [a] [] pos2] [] pos) (rd G E (eSortSetL ma)) :=
  pe_w (pe_frz (pe_callB (cr_sortedSetL hc) hg hm hv (pa_cons (pe_callTy (call_setI hc) hg2 hm2 hv2 (pa_cons ha pa_nil hs) hn2 hdb2 hs hpl) pa_nil hs2) hn hdb hs2 hpl2)) fun σ H Q ⟨ρ, env, h, hs, hr, w⟩ => ⟨ρ, env, h, hs, hr, w.seq fun d h1 ρ1 H1 v g1 r1 q1 w1 => by
    unfold sortSetL at w1
    split at w1 <;> first | exact False.elim w1 | skip
    rename_i xs e
    split at w1 <;> first | exact False.elim w1 | skip
    rename_i ks e2
    obtain ⟨c1, w1⟩ := Wp.ifR w1
    obtain ⟨l, us, rfl, hl, qs⟩ := seq_lx r1 e q1
    rw [intsOf_eq e2] at qs
    rw [ints_rel qs] at hl
    rw [hK]
    have c1 := of_decide_eq_true c1
    refine ⟨l, ks, rfl, hl, c1, fun a n ha => ?_⟩
    refine ⟨a, _, n, ks, rfl, upd_same, fun k => by simp, ?_, fun p hp => ?_⟩
    · have := sortU_le ks
      unfold MSET at c1
      omega
    have g := Grow.tmp (ρ := ρ1) ha (SetO X.w a (fun j => decide (j ∈ ks)) n)
    exact Leave.new (Wp.grow g w1) (r1.tmp ha _) (rel_ints _) hp⟩
end
end Mo
end
section
/-! == and != of own instances. -/
namespace Mo
open PySem
def chkB (neg : Bool) (v : D) (h : Hm) : R D := match v with
  | .bl b => .ok (.bl (if neg then !b else b)) h
  | _ => .bad
/-- what stands on the right: built-in things, or an instance of the same class -/
def okTy (c : Nat) (y : D) (h : Hm) : Bool := match tyD h y with
  | some _ => true
  | none => match y with
    | .loc m => match h.g m with
      | some (.ins c2 _) => decide (c2 = c)
      | _ => false
    | _ => false
def opEqN (neg : Bool) (x y : D) (h : Hm) : R D := if neg then opNe x y h else opEq x y h
def clsM (h : Hm) : D → Option Nat
  | .loc l => match h.g l with
    | some (.ins c _) => some c
    | _ => none
  | _ => none
def opEqO (neg : Bool) (ms : List (Nat × Fn)) (x y : D) (h : Hm) : R D := match clsM h x with
  | some c => match pickF c ms with
    | some F => ifR (okTy c y h) ((F [x, y] h).quiet.bind (chkB neg))
    | none => .bad
  | none => opEqN neg x y h
/-- sorted(a list of whole numbers), sorted(d): the new list may be changed -/
def bSortedM : Bi
  | [x], h => match h.seq x with
    | some xs => match intsOf xs with
      | some ks => .ok (.loc h.n) (h.new (.lst ((sortI ks).map .int)))
      | none => .bad
    | none => .bad
  | _, _ => .bad
def bSortedDM : Bi
  | [.loc l], h => match h.g l with
    | some (.dic kvs) => match intK kvs with
      | some ks => ifR (decide (ks.length < 64)) (.ok (.loc h.n) (h.new (.lst ((sortI ks).map .int))))
      | none => .bad
    | _ => .bad
  | _, _ => .bad
section
variable {E : XE} {h : Hm} {Q : D → Hm → Prop} {neg : Bool} {ms : List (Nat × Fn)} {x y : D}
theorem clsM_ins {l c : Nat} {fs : List (Str × D)} (e : h.g l = some (.ins c fs)) : clsM h (.loc l) = some c := by
  unfold clsM
  simp only [e]
theorem clsM_lst {l : Nat} {fs : List D} (e : h.g l = some (.lst fs)) : clsM h (.loc l) = none := by
  unfold clsM
  simp only [e]
theorem ev_eqO {l c : Nat} {fs : List (Str × D)} {F : Fn} (e : h.g l = some (.ins c fs)) (k : pickF c ms = some F) (t : okTy c y h = true) (q : Ev (fun _ _ _ => False) (F [.loc l, y] h) fun v h1 => NB v fun b => Q (.bl (if neg then !b else b)) h1) : Ev E (opEqO neg ms (.loc l) y h) Q := by
  unfold opEqO
  simp only [clsM_ins e, k]
  exact ev_ifR t (ev_bind (ev_quiet0 (q.mono fun v h1 ⟨b, eb, w⟩ => by subst eb; exact w)))
theorem ev_eqO0 (e : clsM h x = none) (q : Ev E (opEq x y h) Q) : Ev E (opEqO false ms x y h) Q := by
  unfold opEqO
  simp only [e]
  exact q
theorem ev_neO0 (e : clsM h x = none) (q : Ev E (opNe x y h) Q) : Ev E (opEqO true ms x y h) Q := by
  unfold opEqO
  simp only [e]
  exact q
theorem okTy_ins {l c : Nat} {fs : List (Str × D)} (e : h.g l = some (.ins c fs)) : okTy c (.loc l) h = true := by
  unfold okTy tyD
  simp [e]
theorem okTy_lst {l c : Nat} {xs : List D} (e : h.g l = some (.lst xs)) : okTy c (.loc l) h = true := by
  unfold okTy tyD
  simp only [e]
theorem ev_sortedM {ks : List Int} (e : h.seq x = some (ks.map .int)) (q : Q (.loc h.n) (h.new (.lst ((sortI ks).map .int)))) : Ev E (bSortedM [x] h) Q := by
  unfold bSortedM
  simp only [e, intsOf_map]
  exact q
theorem ev_sortedDM {l : Nat} {kvs : List (Key × D)} {ks : List Int} (e : h.g l = some (.dic kvs)) (e2 : intK kvs = some ks) (k : ks.length < 64) (q : Q (.loc h.n) (h.new (.lst ((sortI ks).map .int)))) : Ev E (bSortedDM [.loc l] h) Q := by
  unfold bSortedDM
  simp only [e, e2]
  exact ev_ifR (decide_eq_true k) q
end
end Mo
end
section
set_option maxHeartbeats 4000000
/-! == and != of own instances: their readings. -/
namespace Mo
open PySem PySem.Spec L2 PyProof.Rows He
/-- the class keeps to object's own __ne__, is an object, and none of the built-in kinds is below it -/
def neB (K : PySem.W.Frag) (C : Addr) : Bool := (match PySem.W.findIn K (.ref C) "__ne__" with
    | some (some (.builtin n)) => decide (n = "object.__ne__")
    | _ => false) && (decide (PySem.W.mroIn K C (.type "object") = some true) && ["NoneType", "bool", "int", "str", "tuple", "list", "dict"].all fun t => decide (PySem.W.subIn K (.type t) (.ref C) = some false))
theorem neB_ne {K : PySem.W.Frag} {C : Addr} (h : neB K C = true) : PySem.W.findIn K (.ref C) "__ne__" = some (some (.builtin "object.__ne__")) := by
  have h := (Bool.and_eq_true_iff.mp h).1
  split at h
  · rename_i n e
    rw [e, of_decide_eq_true h]
  · cases h
theorem neB_mro {K : PySem.W.Frag} {C : Addr} (h : neB K C = true) : PySem.W.mroIn K C (.type "object") = some true := of_decide_eq_true (Bool.and_eq_true_iff.mp (Bool.and_eq_true_iff.mp h).2).1
theorem neB_sub {K : PySem.W.Frag} {C : Addr} (h : neB K C = true) {t : String} (m : t ∈ ["NoneType", "bool", "int", "str", "tuple", "list", "dict"]) : PySem.W.subIn K (.type t) (.ref C) = some false :=
  of_decide_eq_true (List.all_eq_true.mp (Bool.and_eq_true_iff.mp (Bool.and_eq_true_iff.mp h).2).2 t m)
section
variable {prog : Program} {w : World} {A : Around} {E : Value → Shared → Prop} {s : Shared} {K : PySem.W.Frag} {x C L f : Addr} {h₀ : Heap} {m : Str → Option Value} {ox : Obj} {od : Option Obj} {b tb : Value}
theorem call_objNe {Q : Value → Shared → Prop} (X : K.In s.heap) (I : PySem.W.InstAt s.heap x ox C od) (hm : PySem.W.mroIn K C (.type "object") = some true) (hu : A.in1.units < cLine)
    (hs : PySem.W.findIn K (.ref C) "__eq__" = some (some (.ref f))) (hf : PySem.W.isFn K (.ref f) = true)
    (h : wpAny (model prog w) A.in1 (call (.ref f) [.ref x, b]) (fun v s' => ∃ r, v = .bool r ∧ Q (.bool (!r)) s') E s) : wpAny (model prog w) A (call (.builtin "object.__ne__") [.ref x, b]) Q E s := by
  refine wpAny_call (codeAny_call_builtin F.cmp_object.ne.plain F.cmpEntry_ne (PySem.W.check_slot F.cmpKind_ne F.cmpSplit_ne (I.type.andThen (PySem.W.looks_mroIn X hm)) (F.cmpArgs_ne _ _) ?_))
  unfold Builtin.«object.__ne__»
  repeat (first
    | with_reducible refine wpAny_cRoomFor hu ?_
    | (refine wpAny_bind (m := callSpecialIfBound? (.ref x) (Str.ofString "__eq__") [b])
        (PySem.W.ifBound_K X I hs hf (wpAny_mono h (fun r s' hr => by
          obtain ⟨b, rfl, hq⟩ := hr
          repeat (first | exact hq | exact wpAny_pure hq | exact wpAny_truthy_bool hq | (refine wpAny_bind (m := truthy (.bool _)) (wpAny_truthy_bool ?_)) | wp_step)) fun _ _ e => e)))
    | wp_step)
theorem ifBound_objNe {M : Model} {args : List Value} {Q : Option Value → Shared → Prop} (X : K.In s.heap) (I : PySem.W.InstAt s.heap x ox C od) (hs : PySem.W.findIn K (.ref C) "__ne__" = some (some (.builtin "object.__ne__")))
    (h : wpAny M A (call (.builtin "object.__ne__") (.ref x :: args)) (fun v => Q (some v)) E s) : wpAny M A (callSpecialIfBound? (.ref x) "__ne__" args) Q E s := by
  simp only [callSpecialIfBound?, bindSpecialIfBound?]
  refine wpAny_holding (wpAny_bind (wpAny_bind (wpAny_bind (I.type.here ((PySem.W.looks_findIn X hs).here ?_)))))
  refine wpAny_bind (wpAny_askSetting (wpAny_ite ?_))
  have fin : wpAny M A (call (.builtin "object.__ne__") ([.ref x] ++ args) >>= fun v => pure (some v)) Q E s := wpAny_bind (wpAny_mono h (fun v s' h' => wpAny_pure h') fun _ _ h' => h')
  split
  · exact wpAny_bind (wpAny_of_eq (F.cmp_object.ne.bind _) (wpAny_pure (by exact fin)))
  · exact wpAny_tryCatch (wpAny_bind (wpAny_of_eq (F.cmp_object.ne.bind _) (wpAny_pure (by exact fin))))
theorem ne_K {Q : Value → Shared → Prop} (hu : A.units < cLine) (hu1 : A.in1.units < cLine) (X : K.In s.heap) (I : PySem.W.InstAt s.heap x ox C od) (hb : PySem.W.Looks (model prog w) s.heap (typeOf b) tb) (hn : PySem.W.notFirst K C tb = true)
    (hne : PySem.W.findIn K (.ref C) "__ne__" = some (some (.builtin "object.__ne__"))) (hm : PySem.W.mroIn K C (.type "object") = some true) (hs : PySem.W.findIn K (.ref C) "__eq__" = some (some (.ref f))) (hf : PySem.W.isFn K (.ref f) = true)
    (h : wpAny (model prog w) A.in1 (call (.ref f) [.ref x, b]) (fun v s' => ∃ r, v = .bool r ∧ Q (.bool (!r)) s') E s) : wpAny (model prog w) A (richCompare .NotEq (.ref x) b) Q E s := by
  have one : wpAny (model prog w) A (tryCompare (.ref x) "__ne__" b) (fun r s' => ∃ v, r = some v ∧ Q v s') E s := by
    unfold tryCompare
    refine wpAny_bind (ifBound_objNe X I hne (wpAny_mono (call_objNe (Q := fun v s' => ∃ r, v = .bool r ∧ Q v s') X I hm hu1 hs hf (wpAny_mono h (fun v s' hv => ?_) fun _ _ e => e)) (fun v s' hv => ?_) fun _ _ e => e))
    · obtain ⟨r, rfl, q⟩ := hv
      exact ⟨r, rfl, _, rfl, q⟩
    · obtain ⟨r, rfl, q⟩ := hv
      exact wpAny_pure ⟨_, rfl, q⟩
  simp only [richCompare, cmpInfo_NotEq, oneThing_ref]
  refine wpAny_holding (wpAny_bind (wpAny_cRoomFor hu ?_))
  refine wpAny_bind (I.type.here (wpAny_bind (hb.here ?_)))
  split
  · rename_i q
    have e : PySem.W.subIn K tb (.ref C) = some false := by
      rcases Bool.or_eq_true_iff.mp hn with e | e
      · rw [beq_iff_eq.mp e] at q; simp at q
      · exact beq_iff_eq.mp e
    refine wpAny_bind ((PySem.W.looks_subIn X e).here ?_)
    simp only [Bool.false_eq_true, if_false]
    refine wpAny_bind (wpAny_mono one (fun r s' z => ?_) fun _ _ e => e)
    obtain ⟨v, rfl, hq⟩ := z
    exact wpAny_pure hq
  · refine wpAny_bind (wpAny_pure ?_)
    simp only [Bool.false_eq_true, if_false]
    refine wpAny_bind (wpAny_mono one (fun r s' z => ?_) fun _ _ e => e)
    obtain ⟨v, rfl, hq⟩ := z
    exact wpAny_pure hq
end
section
variable {G : Gm} {E : WM} {X : Cx}
/-- which def stands for a class's own ==, and what else is wanted of the class -/
def SlotE (X : Cx) (G : Gm) (A : Around) (ms : List (Nat × Fn)) : Prop := ∀ c F, pickF c ms = some F → ∃ f, Meth X.K (G.cA c) "__eq__" f ∧ neB X.K (G.cA c) = true ∧ CallsIn X G A f 2 F
theorem slotE_nil {A : Around} : SlotE X G A [] := fun c F e => nomatch e
theorem slotE_cons {A : Around} {c : Nat} {f : Addr} {F : Fn} {ms : List (Nat × Fn)} (h2 : Meth X.K (G.cA c) "__eq__" f) (h4 : neB X.K (G.cA c) = true) (h3 : CallsIn X G A f 2 F) (hr : SlotE X G A ms) : SlotE X G A ((c, F) :: ms) := fun d F' e => by
  have e : (if c = d then some F else pickF d ms) = some F' := e
  by_cases k : c = d
  · rw [if_pos k] at e
    cases e
    subst k
    exact ⟨f, h2, h4, h3⟩
  · rw [if_neg k] at e
    exact hr d F' e
def rOwnE (G : Gm) (neg : Bool) (ms : List (Nat × Fn)) : R2 := fun x y H Q => ∃ ρ h l a c dy F, x = .ref a ∧ HRel G ρ H h ∧ ρ[l]? = some a ∧ clsM h (.loc l) = some c ∧ pickF c ms = some F ∧ VRel G ρ H y dy ∧ okTy c dy h = true ∧ Wp G E0x (VRel G) ((F [.loc l, dy] h).quiet.bind (chkB neg)) ρ H Q
theorem looks_of {pins : List (Addr × Obj)} {σ : L2.St} {H : Hp} {s : Shared} {ρ : List Addr} {h : Hm} {c : Nat} {dy : D} {y : V} {u : Value} (hK : X.K = G.K) (I : Inv X pins σ H s) (hr : HRel G ρ H h) (q : VRel G ρ H y dy) (ry : RelV y u) (t : okTy c dy h = true) (hn : neB X.K (G.cA c) = true) :
    ∃ tb, PySem.W.Looks (model X.prog X.w) s.heap (typeOf u) tb ∧ PySem.W.notFirst X.K (G.cA c) tb = true := by
  unfold okTy at t
  split at t
  · rename_i ty e
    obtain ⟨k1, k2⟩ := tyD_x hr q e
    rw [← hK] at k1
    obtain ⟨P, Z, p, _⟩ := kit_of I ry k1
    refine ⟨.type ty, Z.ty _ _ I.kIn p, ?_⟩
    unfold PySem.W.notFirst
    rw [neB_sub hn k2]
    simp
  · split at t
    · rename_i m e
      split at t
      · rename_i c2 fs e2
        have t := of_decide_eq_true t
        subst t
        cases q with
        | @loc p l hl =>
          obtain ⟨dx, fvs, e3, _⟩ := hr.at e2 hl
          cases (show u = Value.ref p from ry)
          obtain ⟨mA, O, _⟩ := ins_get I.hok e3
          obtain ⟨od, J, _⟩ := O.look
          exact ⟨.ref (G.cA c2), J.type, by unfold PySem.W.notFirst; simp⟩
      · cases t
    · cases t
theorem op_eqOwn {ms : List (Nat × Fn)} (hK : X.K = G.K) (hu : X.A.units < cLine) (hM : SlotE X G X.A ms) : OpR X (compareOp .Eq) (rOwnE G false ms) := by
  intro pins s σ H x y v u Q I rx ry hh
  obtain ⟨ρ, h, l, a, c, dy, F, rfl, hr, hl, ec, ep, qy, ty, w⟩ := hh
  cases (show v = Value.ref a from rx)
  obtain ⟨f, M, nb, cf⟩ := hM c F ep
  unfold clsM at ec
  simp only at ec
  split at ec <;> first | (cases ec; done) | skip
  rename_i c' fs e1
  cases ec
  obtain ⟨dx, fvs, ea, _⟩ := hr.at e1 hl
  obtain ⟨mA, O, _⟩ := ins_get I.hok ea
  obtain ⟨od, J, _⟩ := O.look
  obtain ⟨m, hF⟩ := I.fr
  obtain ⟨tb, hb, hn⟩ := looks_of hK I hr qy ry ty nb
  show wpAny (model X.prog X.w) X.A (richCompare .Eq (.ref a) u) (EP X pins σ Q) X.xe s
  refine PySem.W.cmp_K (op := .Eq) (tb := tb) hu hF I.ok.mod.kin J hb hn M.at_ M.fn (wpAny_mono (cf pins s σ H [.ref a, u] [.ref a, y] ρ h [.loc l, dy] (fun v H' => ∃ b : Bool, v = .bl b ∧ Q (.bl b) H') I (.cons rfl (.cons ry .nil)) hr (.cons (.loc hl) (.cons qy .nil)) rfl (quiet_wp w fun d h' ρ' H' v g r' q w' => ?_)) (fun u s' hu => ?_) fun _ _ x => x)
  · unfold chkB at w'
    split at w' <;> first | exact False.elim w' | skip
    cases q
    exact ⟨_, rfl, w'.val r' (.bl _)⟩
  · obtain ⟨v, H', I', rv, b, rfl, q⟩ := hu
    cases (show u = Value.bool b from rv)
    exact ⟨.bl b, H', I', rfl, q⟩
theorem op_neOwn {ms : List (Nat × Fn)} (hK : X.K = G.K) (hu : X.A.units < cLine) (hu1 : X.A.in1.units < cLine) (hM : SlotE X G X.A.in1 ms) : OpR X (compareOp .NotEq) (rOwnE G true ms) := by
  intro pins s σ H x y v u Q I rx ry hh
  obtain ⟨ρ, h, l, a, c, dy, F, rfl, hr, hl, ec, ep, qy, ty, w⟩ := hh
  cases (show v = Value.ref a from rx)
  obtain ⟨f, M, nb, cf⟩ := hM c F ep
  unfold clsM at ec
  simp only at ec
  split at ec <;> first | (cases ec; done) | skip
  rename_i c' fs e1
  cases ec
  obtain ⟨dx, fvs, ea, _⟩ := hr.at e1 hl
  obtain ⟨mA, O, _⟩ := ins_get I.hok ea
  obtain ⟨od, J, _⟩ := O.look
  obtain ⟨m, hF⟩ := I.fr
  obtain ⟨tb, hb, hn⟩ := looks_of hK I hr qy ry ty nb
  show wpAny (model X.prog X.w) X.A (richCompare .NotEq (.ref a) u) (EP X pins σ Q) X.xe s
  refine ne_K (tb := tb) hu hu1 I.kIn J hb hn (neB_ne nb) (neB_mro nb) M.at_ M.fn (wpAny_mono (cf pins s σ H [.ref a, u] [.ref a, y] ρ h [.loc l, dy] (fun v H' => ∃ b : Bool, v = .bl b ∧ Q (.bl (!b)) H') I (.cons rfl (.cons ry .nil)) hr (.cons (.loc hl) (.cons qy .nil)) rfl (quiet_wp w fun d h' ρ' H' v g r' q w' => ?_)) (fun u s' hu => ?_) fun _ _ x => x)
  · unfold chkB at w'
    split at w' <;> first | exact False.elim w' | skip
    cases q
    exact ⟨_, rfl, w'.val r' (.bl _)⟩
  · obtain ⟨v, H', I', rv, b, rfl, q⟩ := hu
    cases (show u = Value.bool b from rv)
    exact ⟨b, rfl, .bl (!b), H', I', rfl, q⟩
theorem os_eqO {neg : Bool} {ms : List (Nat × Fn)} {r : R2} (hr0 : OpS G E r (opEqN neg)) : OpS G E (fun x y H Q => r x y H Q ∨ rOwnE G neg ms x y H Q) (opEqO neg ms) := by
  intro τ ρ H h x y v u Q hr q1 q2 w
  unfold opEqO at w
  split at w
  · rename_i c ec
    split at w <;> first | exact False.elim w | skip
    rename_i F ep
    obtain ⟨t, w⟩ := Wp.ifR w
    have ex : ∃ l, x = .loc l := by
      unfold clsM at ec
      split at ec
      · exact ⟨_, rfl⟩
      · cases ec
    obtain ⟨l, rfl⟩ := ex
    cases q1 with
    | @loc a l hl =>
      refine .inr ⟨ρ, h, l, a, c, y, F, rfl, hr, hl, ec, ep, q2, t, ?_⟩
      cases e2 : F [.loc l, y] h with
      | ok d h' =>
        rw [e2] at w
        have w : Wp G (atW E τ) (VRel G) (chkB neg d h') ρ H Q := w
        show Wp G E0x (VRel G) (chkB neg d h') ρ H Q
        unfold chkB at w ⊢
        split at w
        · exact w
        · exact False.elim w
      | exc c l h' => rw [e2] at w; exact False.elim w
      | bad => rw [e2] at w; exact False.elim w
  · exact .inl (hr0 τ ρ H h x y v u Q hr q1 q2 w)
theorem os_eqOf {ms : List (Nat × Fn)} : OpS G E (fun x y H Q => (rEq x y H Q ∨ rEqD G.K x y H Q) ∨ rOwnE G false ms x y H Q) (opEqO false ms) := os_eqO os_eq
theorem os_neOf {ms : List (Nat × Fn)} : OpS G E (fun x y H Q => (rNe x y H Q ∨ rNeD G.K x y H Q) ∨ rOwnE G true ms x y H Q) (opEqO true ms) := os_eqO os_ne
theorem op_eqA {ms : List (Nat × Fn)} {k : Nat} (hK : X.K = G.K) (rg : RG (k + 1) X.A) (hM : SlotE X G X.A ms) : OpR X (compareOp .Eq) (fun x y H Q => (rEq x y H Q ∨ rEqD G.K x y H Q) ∨ rOwnE G false ms x y H Q) := by
  rw [← hK]
  exact (op_eqU rg.r.units).or (op_eqOwn hK rg.r.units0 hM)
theorem op_neA {ms : List (Nat × Fn)} {k : Nat} (hK : X.K = G.K) (rg : RG (k + 1) X.A) (hM : SlotE X G X.A.in1 ms) : OpR X (compareOp .NotEq) (fun x y H Q => (rNe x y H Q ∨ rNeD G.K x y H Q) ∨ rOwnE G true ms x y H Q) := by
  rw [← hK]
  exact (op_neU rg.r.units).or (op_neOwn hK rg.r.units0 (rg_in1 rg).r.units0 hM)
end
section
variable {G : Gm} {E : WM} {X : Cx} {a : Expr} {es : List Expr} {as : MA} {x : Str} {p pos : Pos}
/-- sorted(x): a new list that may be changed -/
theorem me_sortedM (hK : X.K = G.K) (hg : Gl X x) (hm : X.mg x = none) (hv : bootBuiltins x = some (.builtin "sorted")) (ha : PA X (a :: es) (rdA G E as)) (hn : x ≠ "__name__" := by decide) (hdb : (x == ("__debug__" : Str)) = false := by decide)
    (he : starEach (a :: es) X.env = (false, eval a X.env) :: starEach es X.env := by rfl) (hpl : (backTo pos (starEach es X.env)).any (·.1) = false := by rfl) : PE X (.Call (.Name x p) (a :: es) [] pos) (rd G E (eBi bSortedM as)) :=
  pe_w (pe_callB cr_sortedI hg hm hv ha hn hdb he hpl) fun σ H Q ⟨ρ, env, h, hs, hr, w⟩ => ⟨ρ, env, h, hs, hr, w.seq fun ds h1 ρ1 H1 v g1 r1 q1 w1 => by
    rw [hK]
    unfold bSortedM at w1
    split at w1 <;> first | exact False.elim w1 | skip
    obtain ⟨v, rfl, k⟩ := vs1 q1
    split at w1 <;> first | exact False.elim w1 | skip
    rename_i xs e
    split at w1 <;> first | exact False.elim w1 | skip
    rename_i ks e2
    obtain ⟨p, us, rfl, hl, qs⟩ := r1.seqL e k
    rw [intsOf_eq e2] at qs
    rw [ints_rel qs] at hl
    refine ⟨p, ks, rfl, hl, fun ns' p' pm pw hp => ?_⟩
    rw [sortI_eq pm pw]
    exact w1.newL r1 (rel_ints _) hp⟩
theorem me_sortedDM (hc : X.calm = true) (hg : Gl X x) (hm : X.mg x = none) (hv : bootBuiltins x = some (.builtin "sorted")) (ha : PA X (a :: es) (rdA G E as)) (hn : x ≠ "__name__" := by decide) (hdb : (x == ("__debug__" : Str)) = false := by decide)
    (he : starEach (a :: es) X.env = (false, eval a X.env) :: starEach es X.env := by rfl) (hpl : (backTo pos (starEach es X.env)).any (·.1) = false := by rfl) : PE X (.Call (.Name x p) (a :: es) [] pos) (rd G E (eBi bSortedDM as)) :=
  pe_w (pe_callB (call_sortedDI hc) hg hm hv ha hn hdb he hpl) fun σ H Q ⟨ρ, env, h, hs, hr, w⟩ => ⟨ρ, env, h, hs, hr, w.seq fun ds h1 ρ1 H1 v g1 r1 q1 w1 => by
    unfold bSortedDM at w1
    split at w1 <;> first | exact False.elim w1 | skip
    obtain ⟨v, rfl, k⟩ := vs1 q1
    cases k with
    | @loc a l hl =>
      split at w1 <;> first | exact False.elim w1 | skip
      rename_i kds e
      split at w1 <;> first | exact False.elim w1 | skip
      rename_i ks e2
      obtain ⟨c, w1⟩ := Wp.ifR w1
      obtain ⟨kvs, e4, n⟩ := r1.at e hl
      refine ⟨a, kvs, ks, rfl, .inl e4, (keys_rel n).trans (intK_keys e2), of_decide_eq_true c, fun ys p pm pw hp => ?_⟩
      rw [sortI_eq pm pw]
      exact w1.newL r1 (rel_ints _) hp⟩
end
end Mo
end
section
/-! d[k] among the targets of one assignment. -/
namespace Mo
open PySem
def gDk (o i : ME) : MG := fun d σ h => (o σ h).bind fun x h1 => (i σ h1).bind fun y h2 => match x with
  | .loc l => match h2.g l, kOf y with
    | some (.dic kvs), some q => match decide (kvs.length < SL) with
      | true => .ok σ (h2.put l (.dic (putK kvs q d)))
      | false => .bad
    | _, _ => .bad
  | _ => .bad
/-- d.pop(k, z) -/
def dPop2 (x y z : D) (h : Hm) : R D := match x with
  | .loc l => match h.g l, kOf y with
    | some (.dic kvs), some k => match lookA k kvs with
      | some v => .ok v (h.put l (.dic (dropA k kvs)))
      | none => .ok z h
    | _, _ => .bad
  | _ => .bad
def eDPop2 (a b c : ME) : ME := fun σ h => (a σ h).bind fun x h1 => ifR (decide (tyD h1 x = some "dict")) ((b σ h1).bind fun y h2 => (c σ h2).bind fun z h3 => dPop2 x y z h3)
section
variable {E : XE} {σ : Env} {h : Hm} {a b : ME} {QE : Env → Hm → Prop}
theorem ev_gDk {d : D} (q : Ev E (a σ h) fun x h1 => Ev E (b σ h1) fun y h2 => DP h2 x y fun l kvs kk => QE σ (h2.put l (.dic (putK kvs kk d)))) : Ev E (gDk a b d σ h) QE := ev_bind (q.mono fun x h1 w => ev_bind (w.mono fun y h2 ⟨l, kvs, kk, e, e1, e2, e3, w2⟩ => by
  subst e
  simp only [e1, e2, decide_eq_true e3]
  exact w2))
theorem ev_eDPop2 {c : ME} {Q : D → Hm → Prop} (q : Ev E (a σ h) fun x h1 => TY h1 x "dict" (Ev E (b σ h1) fun y h2 => Ev E (c σ h2) fun z h3 => Ev E (dPop2 x y z h3) Q)) : Ev E (eDPop2 a b c σ h) Q := ev_bind (q.mono fun x h1 ⟨e, w⟩ => ev_ifR (decide_eq_true e) (ev_bind (w.mono fun y h2 w => ev_bind w)))
theorem ev_dPop2s {Q : D → Hm → Prop} {l : Nat} {y z v : D} {kvs : List (Key × D)} {k : Key} (e1 : h.g l = some (.dic kvs)) (e2 : kOf y = some k) (e3 : lookA k kvs = some v) (q : Q v (h.put l (.dic (dropA k kvs)))) : Ev E (dPop2 (.loc l) y z h) Q := by
  unfold dPop2
  simp only [e1, e2, e3]
  exact q
theorem ev_dPop2n {Q : D → Hm → Prop} {l : Nat} {y z : D} {kvs : List (Key × D)} {k : Key} (e1 : h.g l = some (.dic kvs)) (e2 : kOf y = some k) (e3 : lookA k kvs = none) (q : Q z h) : Ev E (dPop2 (.loc l) y z h) Q := by
  unfold dPop2
  simp only [e1, e2, e3]
  exact q
end
end Mo
end
section
set_option maxHeartbeats 4000000
/-! d[k] among the targets of one assignment: its reading. -/
namespace Mo
open PySem PySem.Spec L2 PyProof.Rows He
section
variable {G : Gm} {E : WM} {X : Cx} {a b : Expr} {ma mb : ME} {pos : Pos}
def rSetD : V → V → V → Hp → (Hp → Prop) → Prop := fun o i v H Q => ∃ p H', o = .ref p ∧ DPut H p i v H' ∧ Q H'
theorem set_dictK (hu : X.A.units + 1 < cLine) : PSet X rSetD := by
  intro pins s σ H o i v ov iv u Q I ro ri rv h
  obtain ⟨p, H', rfl, g, q⟩ := h
  cases (show ov = Value.ref p from ro)
  exact d_setItem hu I g ri rv fun s' I' => ⟨H', I', q⟩
theorem mg_dk (hu : X.A.units + 1 < cLine) (ha : PE X a (rd G E ma)) (hb : PE X b (rd G E mb)) (hq : ∀ v, assign (.Subscript a b pos) X.env v = (do
      let ov ← holding [v] (eval a X.env)
      let iv ← holding [v, ov] (eval b X.env)
      standAt pos
      holding [v, ov, iv] (setItem ov iv v)
      release [v, ov, iv] []) := by intro _; rfl) : PG X (.Subscript a b pos) (rdG G E (gDk ma mb)) :=
  pg_w (pg_sub ha hb (set_dictK hu) hq) fun v σ H Q ⟨ρ, env, h, d, hs, hr, q, w⟩ =>
    ⟨ρ, env, h, hs, hr, Wp.seq (Wp.any (E' := atW E σ) w) fun x h1 ρ1 H1 vx g1 r1 q1 w1 => ⟨ρ1, env, h1, hs.grow g1, r1, Wp.seq w1 fun y h2 ρ2 H2 vy g2 r2 q2 w2 => by
      have q1 := q1.grow g2
      have q := (q.grow g1).grow g2
      have hs := (hs.grow g1).grow g2
      cases q1 with
      | @loc p l hl =>
        simp only at w2
        split at w2 <;> first | exact False.elim w2 | skip
        rename_i kds k e1 e2
        split at w2 <;> first | exact False.elim w2 | skip
        rename_i c
        obtain ⟨kvs, e4, n⟩ := r2.at e1 hl
        have g := Grow.put r2 hl e4 trivial (.dK (L2.putK kvs k v))
        have e5 := kOf_rel q2 e2
        subst e5
        refine ⟨p, _, rfl, DPut.k e4 (by rw [n.length]; exact sl_lt (of_decide_eq_true c)), ?_⟩
        exact w2 _ _ _ g (r2.put hl e4 trivial ⟨_, upd_same, (put_rel n q).grow g⟩) (hs.grow g)
      | _ => exact False.elim w2⟩⟩
variable {o e f : Expr} {apos cpos : Pos} {mc : ME}
theorem me_dpop2 (ho : PE X o (rd G E ma)) (he : PE X e (rd G E mb)) (hf : PE X f (rd G E mc)) (m : M2 X o "pop" apos e f cpos) : PE X (.Call (.Attribute o "pop" apos) [e, f] [] cpos) (rd G E (eDPop2 ma mb mc)) :=
  pe_w (pe_dpop2 ho he hf m) fun σ H Q ⟨ρ, env, h, hs, hr, w⟩ => ⟨ρ, env, h, hs, hr, w.seq fun x h1 ρ1 H1 v g1 r1 q1 w1 => by
    obtain ⟨c, w1⟩ := w1.ifR
    have c := of_decide_eq_true c
    cases q1 with
    | @loc a l hl =>
      obtain ⟨kds, e1⟩ := dic_of c
      obtain ⟨kvs, e4, n⟩ := r1.at e1 hl
      refine ⟨a, rfl, .inl ⟨kvs, .inl e4⟩, ρ1, env, h1, hs.grow g1, r1, w1.seq fun y h2 ρ2 H2 u g2 r2 q2 w2 => ?_⟩
      refine ⟨ρ2, env, h2, (hs.grow g1).grow g2, r2, w2.seq fun z h3 ρ3 H3 u3 g3 r3 q3 w3 => ?_⟩
      have hl3 := (VRel.loc (G := G) (H := H1) hl).grow (g2.trans g3)
      cases hl3 with
      | loc hl3 =>
        unfold dPop2 at w3
        simp only at w3
        split at w3 <;> first | exact False.elim w3 | skip
        rename_i kds3 k e6 e7
        obtain ⟨kvs3, e9, n3⟩ := r3.at e6 hl3
        obtain ⟨i1, i2⟩ := look_rel n3 (k := k)
        refine ⟨kvs3, k, e9, kOf_rel (q2.grow g3) e7, fun v hv => ?_, fun hn => ?_⟩
        · split at w3
          · rename_i d e8
            obtain ⟨zz, e10, q10⟩ := i1 d e8
            rw [e10] at hv
            cases hv
            have g := Grow.put r3 hl3 e9 trivial (.dK (dropK kvs3 k))
            exact w3 _ _ _ g (r3.put hl3 e9 trivial ⟨_, upd_same, (drop_rel k n3).grow g⟩) (q10.grow g)
          · rename_i e8
            rw [i2 e8] at hv
            cases hv
        · split at w3
          · rename_i d e8
            obtain ⟨zz, e10, _⟩ := i1 d e8
            rw [e10] at hn
            cases hn
          · exact w3.val r3 q3
    | _ => exact absurd c (fun z => by first | (simp only [tyD] at z; injection z with z; exact absurd z (by decide)) | (simp [tyD] at z))⟩
end
end Mo
end
section
/-! xs[::n], n 1 or -1. -/
namespace Mo
open PySem
def stepOf (x y : D) (h : Hm) : R D := match h.seq x, y with
  | some xs, .int i => if i = 1 then .ok (.kl xs) h else if i = -1 then .ok (.kl xs.reverse) h else .bad
  | _, _ => .bad
def eStep (a b : ME) : ME := fun σ h => (a σ h).bind fun x h1 => (b σ h1).bind fun y h2 => stepOf x y h2
/-- xs[i] op= e -/
def sAugIx (o i : ME) (op : D → D → Hm → R D) (e : ME) : MS := fun σ h => (o σ h).stm σ fun x h1 => (i σ h1).stm σ fun y h2 => (opIx x y h2).stm σ fun old h3 => (e σ h3).stm σ fun z h4 => (op old z h4).stm σ fun v h5 => match x, y with
  | .loc l, .int k => match h5.g l with
    | some (.lst xs) => match ixI xs.length k with
      | some j => .nx σ (h5.put l (.lst (xs.set j v)))
      | none => .bad
    | _ => .bad
  | _, _ => .bad
theorem es_augIx {E : XS} {P : Po} {σ : Env} {h : Hm} {o i e : ME} {op : D → D → Hm → R D} (q : Ev (E.at σ) (o σ h) fun x h1 => Ev (E.at σ) (i σ h1) fun y h2 => Ev (E.at σ) (opIx x y h2) fun old h3 => Ev (E.at σ) (e σ h3) fun z h4 => Ev (E.at σ) (op old z h4) fun v h5 => GI h5 x y fun l xs j => P.nx σ (h5.put l (.lst (xs.set j v)))) : EvS E (sAugIx o i op e σ h) P :=
  es_stm (q.mono fun x h1 w => es_stm (w.mono fun y h2 w => es_stm (w.mono fun old h3 w => es_stm (w.mono fun z h4 w => es_stm (w.mono fun v h5 ⟨l, k, xs, j, e1, e2, e3, e4, w2⟩ => by
    subst e1 e2
    simp only [e3, e4]
    exact w2)))))
/-- a is b, a is not b: truth values -/
def opIsB (neg : Bool) (x y : D) (h : Hm) : R D := match x, y with
  | .bl a, .bl b => .ok (.bl (if neg then !(a == b) else a == b)) h
  | _, _ => .bad
theorem ev_isB {E : XE} {h : Hm} {Q : D → Hm → Prop} {neg a b : Bool} (q : Q (.bl (if neg then !(a == b) else a == b)) h) : Ev E (opIsB neg (.bl a) (.bl b) h) Q := q
/-! all(xs), any(xs), xs a list of truth values -/
def boolsOf : List D → Option (List Bool)
  | [] => some []
  | .bl b :: r => (boolsOf r).map (b :: ·)
  | _ :: _ => none
def bAll : Bi
  | [x], h => match h.seq x with
    | some xs => match boolsOf xs with
      | some bs => .ok (.bl (bs.all id)) h
      | none => .bad
    | none => .bad
  | _, _ => .bad
def bAny : Bi
  | [x], h => match h.seq x with
    | some xs => match boolsOf xs with
      | some bs => .ok (.bl (bs.any id)) h
      | none => .bad
    | none => .bad
  | _, _ => .bad
theorem boolsOf_map : ∀ bs : List Bool, boolsOf (bs.map .bl) = some bs
  | [] => rfl
  | b :: bs => by
    show (boolsOf (bs.map .bl)).map (b :: ·) = _
    rw [boolsOf_map bs]
    rfl
theorem boolsOf_eq : ∀ {xs : List D} {bs : List Bool}, boolsOf xs = some bs → xs = bs.map .bl
  | [], _, e => by cases e; rfl
  | x :: xs, bs, e => by
    cases x with
    | bl b =>
      obtain ⟨cs, e1, rfl⟩ := Option.map_eq_some_iff.mp (show (boolsOf xs).map (b :: ·) = some bs from e)
      rw [boolsOf_eq e1]
      rfl
    | _ => cases e
section
variable {E : XE} {σ : Env} {h : Hm} {a b : ME} {Q : D → Hm → Prop}
theorem ev_eStep (q : Ev E (a σ h) fun x h1 => Ev E (b σ h1) fun y h2 => Ev E (stepOf x y h2) Q) : Ev E (eStep a b σ h) Q := ev_bind (q.mono fun x h1 w => ev_bind w)
theorem ev_step1 {x : D} {xs : List D} (e : h.seq x = some xs) (q : Q (.kl xs) h) : Ev E (stepOf x (.int 1) h) Q := by
  unfold stepOf
  simp only [e]
  exact q
theorem ev_stepR {x : D} {xs : List D} (e : h.seq x = some xs) (q : Q (.kl xs.reverse) h) : Ev E (stepOf x (.int (-1)) h) Q := by
  unfold stepOf
  simp only [e]
  exact q
theorem ev_all {x : D} {bs : List Bool} (e : h.seq x = some (bs.map .bl)) (q : Q (.bl (bs.all id)) h) : Ev E (bAll [x] h) Q := by
  unfold bAll
  simp only [e, boolsOf_map]
  exact q
theorem ev_any {x : D} {bs : List Bool} (e : h.seq x = some (bs.map .bl)) (q : Q (.bl (bs.any id)) h) : Ev E (bAny [x] h) Q := by
  unfold bAny
  simp only [e, boolsOf_map]
  exact q
end
end Mo
end
section
set_option maxHeartbeats 4000000
/-! xs[::n], n 1 or -1: its reading. -/
namespace Mo
open PySem PySem.Spec L2 PyProof.Rows He
theorem pick_one (items : Array Value) : slicePick items none none (some 1) = items := by
  have e : slicePick items none none (some 1) = slicePick items none none none := rfl
  rw [e, PySem.W.kmk_pick_nat items (a := 0) (b := items.size) rfl, List.drop_zero, Nat.sub_zero, ← Array.length_toList, List.take_length]
section
variable {X : Cx}
def stepQ (K : PySem.W.Frag) (x : V) (Q : VK) (i : Int) (H2 : Hp) : Prop := ∃ a xs, x = .ref a ∧ SqL K H2 a xs ∧ ((i = 1 ∧ ∀ p, H2 p = none → Q (.ref p) (upd H2 p (.lst xs))) ∨ (i = -1 ∧ ∀ p, H2 p = none → Q (.ref p) (upd H2 p (.lst xs.reverse))))
def tStepL (K : PySem.W.Frag) (te ts : TE) : TE := fun σ H Q => te σ H fun x H1 => ts σ H1 fun y H2 => ∃ i, y = .int i ∧ stepQ K x Q i H2
theorem pe_stepL {e b : Expr} {te ts : TE} {p3 pos : Pos} (he : PE X e te) (hb : PE X b ts) : PE X (.Subscript e (.Slice none none (some b) p3) pos) (tStepL X.K te ts) := by
  refine ⟨fun pins s σ H Q I h => ?_⟩
  refine Subscript_ (thn (he.run pins s σ H _ I h) fun v s1 ⟨x, H1, I1, r1, q1⟩ => ?_)
  refine wpAny_Slice (thn (po_none.run pins s1 σ H1 (fun o H2 => o = none ∧ H2 = H1) I1 ⟨rfl, rfl⟩) fun vl s2 ⟨l, H2, I2, pl, el, e2⟩ => ?_)
  subst el e2
  refine thn (po_none.run pins s2 σ H2 (fun o H3 => o = none ∧ H3 = H2) I2 ⟨rfl, rfl⟩) fun vu s3 ⟨u, H3, I3, pu, eu, e3⟩ => ?_
  subst eu e3
  refine thn ((po_some hb).run pins s3 σ H3 (fun o H4 => match o with | some i => stepQ X.K x Q i H4 | none => False) I3 q1) fun vs s4 ⟨o, H4, I4, ps, q4⟩ => ?_
  cases o with
  | none => exact q4.elim
  | some i =>
    obtain ⟨a, xs, ex, hx, q⟩ := (q4 : stepQ X.K x Q i H4)
    subst ex
    cases (show v = Value.ref a from r1)
    have I5 : Inv X pins σ H4 { s4 with heap := s4.heap.push { cls := .type "slice", data := .fields #[vl, vu, vs] } } := I4.kept (t' := s4.toks) fun b ob q => Heap.get?_push_of_some _ q
    obtain ⟨its, r, ht, hz⟩ := I5.list hx
    have hlen := r.length
    show wpAny (model X.prog X.w) X.A (subscriptTail e (.Slice none none (some b) p3) (.ref a) (.ref s4.heap.objs.size)) (EP X pins σ Q) X.xe { s4 with heap := s4.heap.push { cls := .type "slice", data := .fields #[vl, vu, vs] } }
    refine tail_any (ops := [.ref a, .ref s4.heap.objs.size]) ht.isList.typeIs (PySem.slot_list_getitem.lookup) ?_ (by with_unfolding_all rfl)
    rcases q with ⟨ei, q⟩ | ⟨ei, q⟩
    · subst ei
      refine wpAny_getItem_list_slice ht.isList (Heap.IsSliceOf.new _ vl vu vs) pl pu ps (by decide) ?_ (by rw [List.size_toArray]; omega)
      rw [pick_one]
      refine ⟨.ref _, _, I5.laid (t' := s4.toks) (o := .lst xs) (fun b ob q => Heap.get?_push_of_some _ q) (Nat.le_refl _) ?_, rfl, q _ (I5.hok.fresh (Nat.le_refl _))⟩
      exact ⟨hz, _, 0, r, Heap.get?_push_size _ rfl⟩
    · subst ei
      refine wpAny_getItem_list_slice ht.isList (Heap.IsSliceOf.new _ vl vu vs) pl pu ps (by decide) ?_ (by rw [List.size_toArray]; omega)
      rw [PySem.W.krv_pick]
      refine ⟨.ref _, _, I5.laid (t' := s4.toks) (o := .lst xs.reverse) (fun b ob q => Heap.get?_push_of_some _ q) (Nat.le_refl _) ?_, rfl, q _ (I5.hok.fresh (Nat.le_refl _))⟩
      exact ⟨by rw [List.length_reverse]; exact hz, _, 0, r.reverse, Heap.get?_push_size _ rfl⟩
variable {G : Gm} {E : WM} {a b : Expr} {ma mb : ME}

theorem me_step {p3 pos : Pos} (hK : X.K = G.K) (ha : PE X a (rd G E ma)) (hb : PE X b (rd G E mb)) : PE X (.Subscript a (.Slice none none (some b) p3) pos) (rd G E (eStep ma mb)) :=
  pe_w (pe_frz (pe_stepL ha hb)) fun σ H Q ⟨ρ, env, h, hs, hr, w⟩ => ⟨ρ, env, h, hs, hr, w.seq fun x h1 ρ1 H1 v g1 r1 q1 w1 => ⟨ρ1, env, h1, hs.grow g1, r1, w1.seq fun y h2 ρ2 H2 u g2 r2 q2 w2 => by
    unfold stepOf at w2
    split at w2 <;> first | exact False.elim w2 | skip
    rename_i xs i e
    obtain ⟨a, vs, ea, s1, k1⟩ := r2.seqL e (q1.grow g2)
    subst ea
    cases q2 with
    | int =>
      refine ⟨i, rfl, a, vs, rfl, by rw [hK]; exact s1, ?_⟩
      by_cases c1 : i = 1
      · rw [if_pos c1] at w2
        exact .inl ⟨c1, fun p hp => Leave.new w2 r2 k1 hp⟩
      · rw [if_neg c1] at w2
        by_cases c2 : i = -1
        · rw [if_pos c2] at w2
          exact .inr ⟨c2, fun p hp => Leave.new w2 r2 (vrels_rev k1) hp⟩
        · rw [if_neg c2] at w2
          exact False.elim w2⟩⟩
theorem bools_rel {ρ : List Addr} {H : Hp} : ∀ {bs : List Bool} {vs : List V}, VRels G ρ H vs (bs.map .bl) → vs = bs.map V.bl
  | [], _, q => by cases q; rfl
  | b :: bs, _, q => by
    cases q with
    | cons k r =>
      cases k
      rw [bools_rel r]
      rfl
theorem bs_all : BiS G E (rAll G.K) bAll := by
  intro τ ρ H h ds vs Q r q w
  unfold bAll at w
  split at w <;> first | exact False.elim w | skip
  obtain ⟨v, rfl, k⟩ := vs1 q
  split at w <;> first | exact False.elim w | skip
  rename_i xs e
  split at w <;> first | exact False.elim w | skip
  rename_i bs e2
  rw [boolsOf_eq e2] at e
  obtain ⟨a, us, rfl, s1, k1⟩ := r.seqL e k
  rw [bools_rel k1] at s1
  exact ⟨a, bs, rfl, s1, w.val r (.bl _)⟩
theorem bs_any : BiS G E (rAny G.K) bAny := by
  intro τ ρ H h ds vs Q r q w
  unfold bAny at w
  split at w <;> first | exact False.elim w | skip
  obtain ⟨v, rfl, k⟩ := vs1 q
  split at w <;> first | exact False.elim w | skip
  rename_i xs e
  split at w <;> first | exact False.elim w | skip
  rename_i bs e2
  rw [boolsOf_eq e2] at e
  obtain ⟨a, us, rfl, s1, k1⟩ := r.seqL e k
  rw [bools_rel k1] at s1
  exact ⟨a, bs, rfl, s1, w.val r (.bl _)⟩
theorem cl_all (hc : X.calm = true) (hK : X.K = G.K) : CallR X (.builtin "all") (rAll G.K) := by
  rw [← hK]
  exact cr_all hc
theorem cl_any (hc : X.calm = true) (hK : X.K = G.K) : CallR X (.builtin "any") (rAny G.K) := by
  rw [← hK]
  exact cr_any hc
theorem get_listR : PGet X (rIxL X.K) := by
  intro pins s σ H x y v u Q I rx ry h
  obtain ⟨p, xs, i, z, rfl, rfl, hq, he, q⟩ := h
  cases rx
  obtain ⟨t, rfl⟩ := ry
  obtain ⟨its, r, pl, hz⟩ := I.list hq
  obtain ⟨j, h1, h2, h3, h4, h5⟩ := atI_get he
  obtain ⟨w, ew, rw'⟩ := r.get h2
  have hl := r.length
  have hn := line63
  have fin : EP X pins σ Q w s := ⟨z, H, I, rw', q⟩
  by_cases h0 : 0 ≤ i
  · have hj : i.toNat = j := by
      rw [seqIndex_of h0 h5] at h1
      exact Option.some.inj h1
    exact wpAny_getItem_list pl.isList h0 (by omega) (by rw [hj]; simpa using ew) fin
  · have hj : (i + (its.toArray.size : Int)).toNat = j := by
      rw [seqIndex_neg (by omega) h4] at h1
      rw [List.size_toArray, ← hl]
      exact Option.some.inj h1
    exact wpAny_getItem_list_neg pl.isList (by omega) (by rw [List.size_toArray] <;> omega) (by omega) (by rw [hj]; simpa using ew) fin
theorem get_tupR : PGet X (rIxT X.K) := by
  intro pins s σ H x y v u Q I rx ry h
  obtain ⟨p, xs, i, z, rfl, rfl, hq, he, q⟩ := h
  cases rx
  obtain ⟨t, rfl⟩ := ry
  obtain ⟨its, r, pl, hz⟩ := I.tuple hq
  obtain ⟨j, h1, h2, h3, h4, h5⟩ := atI_get he
  obtain ⟨w, ew, rw'⟩ := r.get h2
  have hl := r.length
  have hn := line63
  have fin : EP X pins σ Q w s := ⟨z, H, I, rw', q⟩
  exact getItem_tuple (j := j) pl (by omega) (by omega) (by rw [List.size_toArray, ← hl]; exact h1) (by simpa using ew) fin
variable {o i : Expr} {mo mi mc : ME} {c : Expr}
theorem ms_augIx {op : Operator} {r : V → V → Hp → VK → Prop} {f : D → D → Hm → R D} {tpos pos : Pos} (hK : X.K = G.K) (ho : PE X o (rd G E mo)) (hi : PE X i (rd G E mi)) (hp : PIp X op r) (hf : OpS G E r f) (ha : PE X c (rd G E mc))
    (hq : ∀ ov iv new, augStore i ov iv new = (do holding [new, ov, iv] (setItem ov iv new); release [new, ov, iv] []; pure .next) := by intros; rfl) : PS X (.AugAssign (.Subscript o i tpos) op c pos) (rdS G E (sAugIx mo mi f mc)) := by
  have hg : PGet X (fun x y H Q => rIxL G.K x y H Q ∨ rIxT G.K x y H Q) := by
    rw [← hK]
    exact fun pins s σ H o i ov iv Q I ro ri q => q.elim (get_listR pins s σ H o i ov iv Q I ro ri) (get_tupR pins s σ H o i ov iv Q I ro ri)
  refine ps_w (ps_augS ho hi hg ha hp set_list hq) fun D σ H ⟨ρ, env, h, hs, hr, w⟩ => ⟨ρ, env, h, hs, hr, Wp.stm hs w fun x h1 ρ1 H1 v g1 r1 q1 w1 => ⟨ρ1, env, h1, hs.grow g1, r1, Wp.stm (hs.grow g1) w1 fun y h2 ρ2 H2 u g2 r2 q2 w2 => ?_⟩⟩
  have s2 := (hs.grow g1).grow g2
  refine os_ix σ ρ2 H2 h2 x y v u _ r2 (q1.grow g2) q2 (Wp.stm s2 w2 fun old h3 ρ3 H3 vo g3 r3 q3 w3 => ⟨ρ3, env, h3, s2.grow g3, r3, Wp.stm (s2.grow g3) w3 fun z h4 ρ4 H4 vz g4 r4 q4 w4 => ?_⟩)
  have s4 := (s2.grow g3).grow g4
  refine hf σ ρ4 H4 h4 old z vo vz _ r4 (q3.grow g4) q4 (Wp.stm s4 w4 fun nv h5 ρ5 H5 vv g5 r5 q5 w5 => ?_)
  have q1 := (((q1.grow g2).grow g3).grow g4).grow g5
  have q2 := ((q2.grow g3).grow g4).grow g5
  have s5 := s4.grow g5
  cases q1 with
  | @loc p l hl =>
    cases q2 with
    | int k =>
      simp only at w5
      split at w5 <;> first | exact False.elim w5 | skip
      rename_i xs e
      split at w5 <;> first | exact False.elim w5 | skip
      rename_i j e2
      obtain ⟨vs, e3, k3⟩ := r5.at e hl
      have g := Grow.put r5 hl e3 trivial (.lst (vs.set j vv))
      refine ⟨p, vs, k, j, rfl, rfl, e3, by rw [k3.length]; exact e2, ?_⟩
      exact w5 _ _ _ g (r5.put hl e3 trivial ⟨_, upd_same, (VRels.set q5 j k3).grow g⟩) (s5.grow g)
    | _ => exact False.elim w5
  | _ => cases q2 <;> exact False.elim w5
/-! is True, is not True -/
def rIsB (neg : Bool) : R2 := fun x y H Q => ∃ a b : Bool, x = .bl a ∧ y = .bl b ∧ Q (.bl (if neg then !(a == b) else a == b)) H
theorem op_isB : OpR X (compareOp .Is) (rIsB false) := by
  intro pins s σ H x y v u Q I rx ry h
  obtain ⟨a, b, rfl, rfl, q⟩ := h
  cases (show v = Value.bool a from rx)
  cases (show u = Value.bool b from ry)
  cases a <;> cases b <;> exact wpAny_pure ⟨.bl _, H, I, rfl, q⟩
theorem op_notB : OpR X (compareOp .IsNot) (rIsB true) := by
  intro pins s σ H x y v u Q I rx ry h
  obtain ⟨a, b, rfl, rfl, q⟩ := h
  cases (show v = Value.bool a from rx)
  cases (show u = Value.bool b from ry)
  cases a <;> cases b <;> exact wpAny_pure ⟨.bl _, H, I, rfl, q⟩
theorem os_isB {neg : Bool} : OpS G E (rIsB neg) (opIsB neg) := by
  intro τ ρ H h x y v u Q hr q1 q2 w
  unfold opIsB at w
  split at w <;> first | exact False.elim w | skip
  cases q1
  cases q2
  exact ⟨_, _, rfl, rfl, w.val hr (.bl _)⟩
end
end Mo
end
section
/-! A lambda without parameters handed to a def: l0 where it stands, th what it does. -/
namespace Mo
open PySem
/-- an address that nothing is known of -/
def Hm.skip (h : Hm) : Hm := (h.new (.lst [])).del h.n
/-- x(), x the i-th name -/
def eAct (i l0 : Nat) (th : Hm → R D) : ME := fun σ h => match σ[i]? with
  | some (some (.loc l)) => ifR (decide (l = l0)) (th h)
  | _ => .bad
/-- g(lambda: body) -/
def eLam (F : Nat → (Hm → R D) → Fn) (mb : ME) : ME := fun σ h => F h.n (fun h1 => mb σ h1) [.loc h.n] h.skip
section
variable {E : XE} {σ : Env} {h : Hm} {Q : D → Hm → Prop}
theorem ev_act {i l0 : Nat} {th : Hm → R D} (e : σ[i]? = some (some (.loc l0))) (q : Ev E (th h) Q) : Ev E (eAct i l0 th σ h) Q := by
  unfold eAct
  rw [e]
  exact ev_ifR (decide_eq_true rfl) q
theorem ev_lam {F : Nat → (Hm → R D) → Fn} {mb : ME} (q : Ev E (F h.n (fun h1 => mb σ h1) [.loc h.n] h.skip) Q) : Ev E (eLam F mb σ h) Q := q
theorem skip_n : h.skip.n = h.n + 1 := rfl
theorem skip_ne {k : Nat} (e : k ≠ h.n) : h.skip.g k = h.g k := (del_ne e).trans (new_ne e)
theorem skip_eq : h.skip.g h.n = none := by
  unfold Hm.skip Hm.del
  simp
end
end Mo
end
section
set_option maxHeartbeats 1000000
/-! Lambdas: they are made, tracked, called by the def that got them. -/
namespace Mo
open PySem L2 PyProof.Rows He
section
variable {X : Cx} {pins : List (Addr × Obj)} {σ : L2.St} {H : Hp} {s : Shared} {T : List (Addr × Str)}
theorem fix_ok {P : Program} {w : World} {h : Heap} {a : Addr} {o : Obj} (e : h.get? a = some o) : ObjOk P w H h a (fix1 o) := ⟨e, o, e⟩
theorem fix_ne {o : Obj} : ∀ ps, fix1 o ≠ .tbl ps := fun ps z => by
  unfold fix1 at z
  cases z
/-- all but the tables stays -/
def Stays (H H' : Hp) : Prop := ∀ b o, H b = some o → (∀ ps, o ≠ .tbl ps) → H' b = some o
/-- a new object beside, its code object new or known -/
theorem inv_lam {q : Str} {P c' : Addr} {ps more : Array Value} {oc : Obj} {h' : Heap} {tk : Nat} {of : Obj} (I : Inv X pins σ H s) (hP : H P = some (.tbl ps)) (kp : ∀ b o, b ≠ P → s.heap.get? b = some o → h'.get? b = some o)
    (tb : h'.get? P = some { cls := .none, data := .fields (ps ++ more) }) (lo : s.heap.objs.size ≤ c') (hi : c' < h'.objs.size) (eo : h'.get? c' = some oc) (hof : of.isFreed = false) :
    Inv X pins σ (upd (upd (upd H P (.tbl (ps ++ more))) c' (fix1 oc)) h'.objs.size (fix1 of)) { s with heap := h'.push of, toks := tk } := by
  have nc : H c' = none := I.hok.fresh lo
  have sz : s.heap.objs.size ≤ h'.objs.size := Nat.le_trans lo (Nat.le_of_lt hi)
  have nf : H h'.objs.size = none := I.hok.fresh sz
  have pc : P ≠ c' := ne_of_none hP nc
  have pf : P ≠ h'.objs.size := ne_of_none hP nf
  have cf : c' ≠ h'.objs.size := Nat.ne_of_lt hi
  have other : ∀ b, b ≠ P → b ≠ c' → b ≠ h'.objs.size → upd (upd (upd H P (.tbl (ps ++ more))) c' (fix1 oc)) h'.objs.size (fix1 of) b = H b := fun b z1 z2 z3 => by rw [upd_ne z3, upd_ne z2, upd_ne z1]
  have atT : upd (upd (upd H P (.tbl (ps ++ more))) c' (fix1 oc)) h'.objs.size (fix1 of) P = some (.tbl (ps ++ more)) := by rw [upd_ne pf, upd_ne pc, upd_same]
  have notP : ∀ b, H b = none → b ≠ P := fun b e z => by rw [z, hP] at e; cases e
  have notT : ∀ b u, H b = some u → (∀ z, u ≠ .tbl z) → b ≠ P := fun b u e k z => by
    rw [z, hP] at e
    exact k ps (Option.some.inj e).symm
  have same : ∀ b u, H b = some u → (∀ z, u ≠ .tbl z) → upd (upd (upd H P (.tbl (ps ++ more))) c' (fix1 oc)) h'.objs.size (fix1 of) b = some u := fun b u e k =>
    (other b (notT b u e k) (ne_of_none e nc) (ne_of_none e nf)).trans e
  have old : ∀ {b : Addr} {o : Obj}, s.heap.get? b = some o → b ≠ c' ∧ b ≠ h'.objs.size := fun {b o} e => ⟨fun z => by
    rw [z] at e
    exact absurd (Nat.lt_of_lt_of_le (Heap.lt_size e) lo) (Nat.lt_irrefl _), fun z => by
    rw [z] at e
    exact absurd (Nat.lt_of_lt_of_le (Heap.lt_size e) sz) (Nat.lt_irrefl _)⟩
  have kp2 : ∀ b o, b ≠ P → s.heap.get? b = some o → (h'.push of).get? b = some o := fun b o z e => Heap.get?_push_of_some _ (kp b o z e)
  refine I.step (g' := s.gens) (d' := s.drawn) (ch := []) (fun b z => nomatch z) (fun b o _ _ _ e n => kp2 b o (notP b n) e) (fun b o _ _ _ e n => ⟨o.slots, kp2 b o (notP b n) e⟩)
    (fun b o _ e n => by rw [other b (notP b n) (old e).1 (old e).2]; exact n) (fun b o _ e => ?_) (fun b xs e => same b _ e (fun z y => nomatch y)) (fun b o u e => same b _ e (fun z y => nomatch y)) (fun b qs e => ?_) (fun m hm => ?_) (fun b u e => ?_) I.bare
  · by_cases z : b = P
    · exact ⟨_, by rw [z]; exact Heap.get?_push_of_some _ tb⟩
    · exact ⟨o, kp2 b o z e⟩
  · by_cases z : b = P
    · subst z
      rw [hP] at e
      cases e
      exact ⟨more, atT⟩
    · rw [other b z (ne_of_none e nc) (ne_of_none e nf), e]
      exact ⟨#[], by simp⟩
  · obtain ⟨o, es, ep, e1, e2⟩ := hm
    exact ⟨o, es, ep, kp2 _ o (notP _ I.free) e1, e2⟩
  · by_cases z3 : b = h'.objs.size
    · rw [z3, upd_same] at e
      cases e
      rw [z3]
      exact fix_ok (Heap.get?_push_size _ hof)
    · by_cases z2 : b = c'
      · rw [z2, upd_ne cf, upd_same] at e
        cases e
        rw [z2]
        exact fix_ok (Heap.get?_push_of_some _ eo)
      · by_cases z1 : b = P
        · rw [z1, atT] at e
          cases e
          rw [z1]
          exact Heap.get?_push_of_some _ tb
        · rw [other b z1 z2 z3] at e
          refine (I.hok b u e).stay (fun d v hd y => kp2 d v ?_ y) (fun d y => same d _ y (fun z y => nomatch y)) fun d xs y => same d _ y (fun z y => nomatch y)
          rcases hd with y | y
          · rw [y]
            exact z1
          · exact notT d _ y (fun z y => nomatch y)
/-- the lambda's object -/
abbrev lamO (X : Cx) (params : Arguments) (body : Expr) (scope : Scope) (pm : Value) (c' : Addr) (ctv : Value) : Obj := PySem.W.kla_obj "<lambda>" (X.env.qual ++ "<lambda>") params body scope (cloFrom X.env.cells scope.names []) pm c' ctv
theorem lam_made {c P : Addr} {q : Str} {params : Arguments} {body : Expr} {scope : Scope} {pos : Pos} {E : Value → Shared → Prop} {Q : Value → Shared → Prop} (I : Inv X pins σ H s) (TB : LamX.TabB X.base X.mg c P) (hcode : X.env.code = .ref c) (hT : Tbs T H)
    (hq : q = X.env.qual ++ "<lambda>") (hm : (P, q) ∈ T) (hu : ∀ p ∈ T, p.1 = P → p.2 = q) (hdef : defaultsOf params X.env = ([], [])) (hfree : ∀ y ∈ scope.names, y.2 = .free → ∃ c, X.env.cells.lookup y.1 = some c)
    (h : ∀ (f c' : Addr) (pm ctv : Value) (H2 : Hp) (s' : Shared), Inv X pins σ H2 s' → Stays H H2 → (∀ b o, H b = some o → ∃ o', H2 b = some o') → Tbs T H2 → H f = none → H2 f = some (fix1 (lamO X params body scope pm c' ctv)) → (∃ o, H2 c' = some (fix1 o) ∧ Cod q o) → Q (.ref f) s') :
    wpAny (model X.prog X.w) X.A (eval (.Lambda params body scope pos) X.env) Q E s := by
  obtain ⟨ps, hP, ht, am⟩ := hT.1 _ hm
  have bmP : s.heap.BuiltinsAt X.mg P := TB.bm.keeps I.bk
  have tabP : s.heap.get? P = some { cls := .none, data := .fields ps } := I.hok P _ hP
  refine PySem.W.kla_eval hdef ?_
  cases hc : codeAmong pos ps.toList with
  | some cv =>
    obtain ⟨c', o, rfl, e1, e2⟩ := am pos cv hc
    refine PySem.W.kla_makeFunctionHit (c := c) (P := P) (ps := ps) (mg := X.mg) (closure_ok hfree) I.ok.glob (I.mod.glob.keeps I.bk) hcode (TB.code.keeps I.bk) tabP ht hc bmP fun ctv h' tk kp sz => ?_
    have nf : H h'.objs.size = none := I.hok.fresh sz
    exact h h'.objs.size c' _ ctv (upd H h'.objs.size (fix1 _)) _ (I.laid (t' := tk) (fun b u e => Heap.get?_push_of_some _ (kp b u e)) sz (fix_ok (Heap.get?_push_size _ rfl))) (fun b u e _ => by rw [upd_ne (ne_of_none e nf)]; exact e) (fun b u e => ⟨u, by rw [upd_ne (ne_of_none e nf)]; exact e⟩) (hT.new nf) nf upd_same
      ⟨o, by rw [upd_ne (ne_of_none e1 nf)]; exact e1, e2⟩
  | none =>
    refine PySem.W.kla_makeFunction (c := c) (P := P) (ps := ps) (mg := X.mg) (closure_ok hfree) I.ok.glob (I.mod.glob.keeps I.bk) hcode (TB.code.keeps I.bk) tabP ht hc TB.gP bmP fun c' ctv h' tk ext lo hi rec tb => ?_
    obtain ⟨c2, oc, vs, t, e2, hoc, hd, hv⟩ := rec
    cases e2
    have nc : H c' = none := I.hok.fresh lo
    have sz : s.heap.objs.size ≤ h'.objs.size := Nat.le_trans lo (Nat.le_of_lt hi)
    have nf : H h'.objs.size = none := I.hok.fresh sz
    have cf : c' ≠ h'.objs.size := Nat.ne_of_lt hi
    have pc : P ≠ c' := ne_of_none hP nc
    have pf : P ≠ h'.objs.size := ne_of_none hP nf
    have I2 := inv_lam (q := q) (tk := tk) (more := #[rawInt pos.line, rawInt pos.col, .ref c']) (of := lamO X params body scope ((X.mg "__name__").getD .none) c' ctv) I hP (fun b o z e => ext b o z e) tb lo hi hoc rfl
    have st : Stays H (upd (upd (upd H P (.tbl (ps ++ #[rawInt pos.line, rawInt pos.col, .ref c']))) c' (fix1 oc)) h'.objs.size (fix1 (lamO X params body scope ((X.mg "__name__").getD .none) c' ctv))) := fun b u e k => by
      rw [upd_ne (ne_of_none e nf), upd_ne (ne_of_none e nc), upd_ne (fun z => k ps (by rw [z, hP] at e; exact (Option.some.inj e).symm))]
      exact e
    have atC : upd (upd (upd H P (.tbl (ps ++ #[rawInt pos.line, rawInt pos.col, .ref c']))) c' (fix1 oc)) h'.objs.size (fix1 (lamO X params body scope ((X.mg "__name__").getD .none) c' ctv)) c' = some (fix1 oc) := by rw [upd_ne cf, upd_same]
    have cod : Cod q oc := by
      rw [hq]
      exact ⟨vs, t, hd, hv⟩
    refine h h'.objs.size c' _ ctv _ _ I2 st (fun b u e => ?_) ⟨fun p hp => ?_, let ⟨o, e⟩ := hT.2; ⟨o, st _ _ e fix_ne⟩⟩ nf upd_same ⟨oc, atC, cod⟩
    · by_cases z : b = P
      · exact ⟨_, by rw [z, upd_ne pf, upd_ne pc, upd_same]⟩
      · exact ⟨u, by rw [upd_ne (ne_of_none e nf), upd_ne (ne_of_none e nc), upd_ne z]; exact e⟩
    obtain ⟨ps2, b1, b2, b3⟩ := hT.1 p hp
    by_cases z : p.1 = P
    · have eL : (ps ++ #[rawInt pos.line, rawInt pos.col, .ref c']).toList = ps.toList ++ [rawInt pos.line, rawInt pos.col, .ref c'] := by simp
      refine ⟨ps ++ #[rawInt pos.line, rawInt pos.col, .ref c'], by rw [z, upd_ne pf, upd_ne pc, upd_same], by rw [eL]; exact PySem.TriplesOk_snoc _ _ _ _ ht, fun p' cv e => ?_⟩
      rw [hu p hp z]
      rw [eL] at e
      rcases LamX.among_app _ ht e with y | y
      · obtain ⟨c0, o0, y1, y2, y3⟩ := am p' cv y
        exact ⟨c0, o0, y1, st _ _ y2 fix_ne, y3⟩
      · exact ⟨c', oc, y, atC, cod⟩
    · refine ⟨ps2, by rw [upd_ne (ne_of_none b1 nf), upd_ne (ne_of_none b1 nc), upd_ne z]; exact b1, b2, fun p' cv e => ?_⟩
      obtain ⟨c0, o0, y1, y2, y3⟩ := b3 p' cv e
      exact ⟨c0, o0, y1, st _ _ y2 fix_ne, y3⟩
end
/-! ### what M knows goes over -/
section
variable {G G' : Gm} {ρ : List Addr} {H : Hp}
mutual
theorem VRel.re (hK : G.K = G'.K) (ho : G.oA = G'.oA) : ∀ {v : V} {d : D}, VRel G ρ H v d → VRel G' ρ H v d
  | _, _, .non => .non
  | _, _, .bl b => .bl b
  | _, _, .int i => .int i
  | _, _, .str x => .str x
  | _, _, .tup h hs => .tup (by rw [← hK]; exact h) (VRels.re hK ho hs)
  | _, _, .kl h hs => .kl (by rw [← hK]; exact h) (VRels.re hK ho hs)
  | _, _, .loc h => .loc h
  | _, _, .ty n => .ty n
  | _, _, .ob k => by rw [ho]; exact .ob k
theorem VRels.re (hK : G.K = G'.K) (ho : G.oA = G'.oA) : ∀ {vs : List V} {ds : List D}, VRels G ρ H vs ds → VRels G' ρ H vs ds
  | _, _, .nil => .nil
  | _, _, .cons h hs => .cons (VRel.re hK ho h) (VRels.re hK ho hs)
end
theorem NRel.re {κ : Type} (hK : G.K = G'.K) (ho : G.oA = G'.oA) {kvs : List (κ × V)} {kds : List (κ × D)} (h : NRel G ρ H kvs kds) : NRel G' ρ H kvs kds := Paired.mapP h fun _ _ q => ⟨q.1, q.2.re hK ho⟩
theorem ORel.re (hK : G.K = G'.K) (ho : G.oA = G'.oA) (hc : G.cA = G'.cA) {a : Addr} {o : O} (h : ORel G ρ H a o) : ORel G' ρ H a o := by
  cases o with
  | lst ds => obtain ⟨vs, e1, r⟩ := h; exact ⟨vs, e1, r.re hK ho⟩
  | dic ds => obtain ⟨vs, e1, r⟩ := h; exact ⟨vs, e1, r.re hK ho⟩
  | ins c fs => obtain ⟨dx, fvs, e1, r⟩ := h; exact ⟨dx, fvs, by rw [← hc]; exact e1, r.re hK ho⟩
  | xd fs => obtain ⟨fvs, e1, r⟩ := h; exact ⟨fvs, e1, r.re hK ho⟩
  | xc c m => obtain ⟨d, e1, e2⟩ := h; exact ⟨d, e1, by rw [← hc]; exact e2⟩
  | odd => exact h
  | xn c => exact (by rw [← hc]; exact h : H a = some (exn a (G'.cA c)))
  | dt ds => obtain ⟨vs, e1, r⟩ := h; exact ⟨vs, e1, r.re hK ho⟩
theorem SRel.re (hK : G.K = G'.K) (ho : G.oA = G'.oA) {σ : L2.St} {env : Env} (h : SRel G ρ H σ env) : SRel G' ρ H σ env := ⟨h.1, fun i d e => let ⟨v, e1, q⟩ := h.2 i d e; ⟨v, e1, q.re hK ho⟩⟩
theorem HRel.re (hK : G.K = G'.K) (ho : G.oA = G'.oA) (hc : G.cA = G'.cA) (hT : G.T = G'.T) {h : Hm} (r : HRel G ρ H h) (hr : ∀ p ∈ G'.rt, Ext p.1 p.2 ρ H) : HRel G' ρ H h :=
  ⟨r.len, r.inj, r.has, fun l o e => let ⟨a, e1, q⟩ := r.obj l o e; ⟨a, e1, q.re hK ho hc⟩, by rw [← hT]; exact r.tabs, hr⟩
end
end Mo
end
section
set_option maxHeartbeats 1000000
/-! A def that gets a lambda; its call. -/
namespace Mo
open PySem L2 PyProof.Rows He
theorem RG.deeper {k : Nat} {A : Around} (r : RG (k + 1) A) (env : PySem.Env) : RG k (A.deeper env) := ⟨r.r.deeper _, r.g⟩
/-- what M says is right of every row of lambdas that are about -/
structure GfOk (Gf : List (List Addr × Hp) → Gm) : Prop where
  K : ∀ r r', (Gf r).K = (Gf r').K
  o : ∀ r r', (Gf r).oA = (Gf r').oA
  c : ∀ r r', (Gf r).cA = (Gf r').cA
  T : ∀ r r', (Gf r).T = (Gf r').T
  rt : ∀ r, (Gf r).rt = r
section
variable {G G' : Gm} {ρ : List Addr} {H : Hp} {E : XK}
theorem Wp.re (hK : G.K = G'.K) (ho : G.oA = G'.oA) (hc : G.cA = G'.cA) (hT : G.T = G'.T) (hr : ∀ p ∈ G.rt, p ∈ G'.rt) {r : R D} {Q : VK} (w : Wp G E (VRel G) r ρ H Q) : Wp G' E (VRel G') r ρ H Q := by
  cases r with
  | ok a h' => exact fun ρ' H' b g r q => w ρ' H' b g (r.re hK.symm ho.symm hc.symm hT.symm fun p hp => r.root p (hr p hp)) (q.re hK.symm ho.symm)
  | exc c l h' =>
    intro ρ' H' d g r e
    rw [← hc]
    exact w ρ' H' d g (r.re hK.symm ho.symm hc.symm hT.symm fun p hp => r.root p (hr p hp)) e
  | bad => exact w
theorem ORel.some {a : Addr} {o : O} (h : ORel G ρ H a o) : ∃ u, H a = some u ∧ ∀ ps, u ≠ .tbl ps := by
  cases o with
  | lst ds => obtain ⟨vs, e, r⟩ := h; exact ⟨_, e, fun _ z => nomatch z⟩
  | dic ds => obtain ⟨vs, e, r⟩ := h; exact ⟨_, e, fun _ z => nomatch z⟩
  | ins c fs => obtain ⟨dx, fvs, e, r⟩ := h; exact ⟨_, e, fun _ z => nomatch z⟩
  | xd fs => obtain ⟨fvs, e, r⟩ := h; exact ⟨_, e, fun _ z => nomatch z⟩
  | xc c m => obtain ⟨d, e1, e⟩ := h; exact ⟨_, e, fun _ z => by unfold exv at z; cases z⟩
  | odd => obtain ⟨kvs, e⟩ := h; exact ⟨_, e, fun _ z => nomatch z⟩
  | xn c => exact ⟨_, h, fun _ z => by unfold exn at z; cases z⟩
  | dt ds => obtain ⟨vs, e, r⟩ := h; exact ⟨_, e, fun _ z => nomatch z⟩
theorem Stays.grow {H2 : Hp} {f : Addr} {o : Obj} (st : Stays H H2) (nf : H f = none) : Grow ρ H (ρ ++ [f]) H2 :=
  ⟨⟨[f], rfl⟩, fun b xs e => st _ _ e (fun _ z => nomatch z), fun b o u e => st _ _ e (fun _ z => nomatch z), fun b o e n k => ⟨st _ _ e k, fun m => by
    rcases List.mem_append.mp m with m | m
    · exact n m
    · exact ne_of_none e nf (List.mem_singleton.mp m)⟩⟩
theorem HRel.lam {h : Hm} (r : HRel G ρ H h) {H2 : Hp} {f : Addr} {u : HO} (st : Stays H H2) (lv : ∀ b o, H b = Option.some o → ∃ o', H2 b = Option.some o') (tb : Tbs G.T H2) (nf : H f = none) (ef : H2 f = Option.some u) : HRel G (ρ ++ [f]) H2 h.skip := by
  have hn := r.fresh nf
  have g : Grow ρ H (ρ ++ [f]) H2 := Stays.grow (o := default) st nf
  refine ⟨by rw [List.length_append, r.len]; rfl, fun i j a e1 e2 => ?_, fun a m => ?_, fun l o e => ?_, tb, fun p hp => (r.root p hp).trans g.ext⟩
  · have pos : ∀ k, (ρ ++ [f])[k]? = Option.some f → k = ρ.length := fun k e => by
      by_cases c : k < ρ.length
      · rw [List.getElem?_append_left c] at e
        exact absurd (List.mem_of_getElem? e) hn
      · have c2 := (List.getElem?_eq_some_iff.mp e).1
        rw [List.length_append, List.length_singleton] at c2
        omega
    by_cases ea : a = f
    · subst ea
      rw [pos i e1, pos j e2]
    · have low : ∀ k, (ρ ++ [f])[k]? = Option.some a → ρ[k]? = Option.some a := fun k e => by
        by_cases c : k < ρ.length
        · rw [List.getElem?_append_left c] at e
          exact e
        · rw [List.getElem?_append_right (by omega)] at e
          exact absurd (List.mem_singleton.mp (List.mem_of_getElem? e)) ea
      exact r.inj i j a (low i e1) (low j e2)
  · rcases List.mem_append.mp m with m | m
    · obtain ⟨o, e⟩ := r.has a m
      exact lv a o e
    · rw [List.mem_singleton.mp m]
      exact ⟨u, ef⟩
  · have nl : l ≠ h.n := fun z => by
      rw [z, skip_eq] at e
      cases e
    rw [skip_ne nl] at e
    obtain ⟨a, e1, q⟩ := r.obj l o e
    obtain ⟨v, e2, k⟩ := q.some
    exact ⟨a, g.at e1, q.grow g (by rw [e2]; exact st a v e2 k)⟩
end
/-- the thing that the i-th name holds, called, does th -/
def ActOk (Y : Cx) (G : Gm) (a : Str) (l0 : Nat) (th : Hm → R D) : Prop := ∀ (W : WM) (pn : List (Addr × Obj)) (xe : Value → Shared → Prop) (p1 p2 : Pos), PassW (Y.tr pn xe) W → PE (Y.tr pn xe) (.Call (.Name a p1) [] [] p2) (rd G W (eAct 0 l0 th))
/-- the promise of a def that gets a lambda -/
def OkL (P : Program) (w : World) (K : PySem.W.Frag) (mg : Str → Option Value) (base : Heap) (k : Nat) (d : DefD) (N : List Str) (a : Str) (F : Nat → (Hm → R D) → Fn) (Gf : List (List Addr × Hp) → Gm) : Prop :=
  ∃ fd, FunD K d.name d.qual d.params d.body d.scope (d.dvs K) (d.kws K) (fAd K d.at_) fd ∧ FnScope N [a] d.scope ∧ N[0]? = some a ∧ Vis d.scope a ∧
    ∀ (rts : List (List Addr × Hp)) (A : Around) (rg : RG k A) (outer : List PySem.Env) (s : Shared) (H : Hp) (Q : VK) (E : XK) (ρ : List Addr) (h : Hm) (l0 : Nat) (th : Hm → R D) (f : Addr), Env0 P w K mg base A outer s H → HRel (Gf rts) ρ H h → ρ[l0]? = some f →
      (∀ cdv, ActOk (cxOf (L2.CX P w) P w K mg base N d.qual d.scope (fAd K d.at_) cdv A outer s H E) (Gf rts) a l0 th) → Wp (Gf rts) E (VRel (Gf rts)) (F l0 th [.loc l0] h) ρ H Q → codeAny (model P w) A (.call (.ref (fAd K d.at_)) ⟨[.ref f], []⟩) (CR (L2.CX P w) outer P w H s Q E) s
section
variable {P : Program} {w : World} {K : PySem.W.Frag} {mg : Str → Option Value} {base : Heap} {fa : List Fa} {fn : List DefD} {ex : PySem.W.Frag → Bool} {k : Nat} {N : List Str} {a : Str} {Gf : List (List Addr × Hp) → Gm} {m : Nat → (Hm → R D) → MS} {d : DefD}
theorem okL_of (T : Tp fa fn ex K mg) (i : Nat) (S : FnScope N [a] d.scope) (hN : N[0]? = some a) (hv : Vis d.scope a) (hdd : d.dfl = [])
    (hbi : ∀ (kV doc pm : Value) (an : Option Addr) (cdv ct : Value) (us : List Value), us.length = [a].length → bindArgs (PySem.W.fnOf d.name d.qual d.params d.body d.scope .none kV doc pm an cdv ct) ⟨us, []⟩ = pure ([a].zip us))
    (hb : ∀ (rts : List (List Addr × Hp)) (l0 : Nat) (th : Hm → R D) (cdv : Value) (A : Around) (outer : List PySem.Env) (s : Shared) (H : Hp) (E : XK), RG k (A.deeper (envOfC d.qual d.scope s.heap.objs.size (fAd K d.at_) cdv)) →
      ActOk (cxOf (L2.CX P w) P w K mg base N d.qual d.scope (fAd K d.at_) cdv A outer s H E) (Gf rts) a l0 th → PSs (cxOf (L2.CX P w) P w K mg base N d.qual d.scope (fAd K d.at_) cdv A outer s H E) d.body (rdS (Gf rts) (fun cls d _ H => E cls d H) (m l0 th)))
    (h : fn[i]? = some d := by rfl) : OkL P w K mg base (k + 1) d N a (fun l0 th => fnOf N.length (m l0 th)) Gf := by
  obtain ⟨fd, F⟩ := T.fd i h
  have F2 : FunD K d.name d.qual d.params d.body d.scope [] (d.kws K) (fAd K d.at_) fd := by
    have e : d.dvs K = [] := by unfold DefD.dvs; rw [hdd]; rfl
    rw [e] at F
    exact F
  refine ⟨fd, F, S, hN, hv, fun rts A rg outer s H Q E ρ h l0 th f e0 hr hl act wq => ?_⟩
  have bnd : BindsTo s fd ⟨[.ref f], []⟩ ([a].zip [.ref f]) := F2.bindsA hbi s [.ref f] rfl
  obtain ⟨oc, od, dV, kV, doc, pm, an, cdv, ct, osl, rfl, lk, hcd, _, _⟩ := F.ex
  have inK : K.In s.heap := e0.mod.kin.keeps fun c u z => (e0.bs c u z).1
  have lim : s.heap.NoLimit := e0.mod.nolimit.keeps fun c u z => (e0.bs c u z).1
  have kinds : ∀ y ∈ [a].zip [Value.ref f], d.scope.names.lookup y.1 = some .local ∨ (d.scope.names.lookup y.1 = some .cell ∧ ((cellsFrom (s.heap.objs.size + 1) d.scope.names []).lookup y.1).isSome = true) := fun ⟨n, v⟩ hy =>
    (S.par n (List.of_mem_zip hy).1).imp id fun z => ⟨z, PySem.W.cellsFrom_some _ _ _ (Or.inl z)⟩
  refine codeAny_call_function rg.r.depth (inK _ _ lk) rfl S.co S.gen rfl (PySem.W.codeRec_of inK hcd) (bnd _ _ _ _ (wpAny_newFunctionEnv_cells S.kind kinds fun env he s1 x => ?_))
  subst he
  refine ⟨lim.keeps x.toInCall.keep, codeAny_func ?_⟩
  have rv : Vals [V.ref f] [Value.ref f] := .cons rfl .nil
  have hv2 : VRels (Gf rts) ρ H [.ref f] [.loc l0] := .cons (.loc hl) .nil
  have J0 := inv_start (CX := L2.CX P w) (P := P) (w := w) (E := E) S rg.r.hd e0 rfl rv x
  have rg1 : ∀ j, RG (j + 1) A → RG j (A.deeper (envOfC d.qual d.scope s.heap.objs.size (fAd K d.at_) cdv)) := fun j z => z.deeper _
  have body := (hb rts l0 th cdv A outer s H E (rg1 k rg) (act cdv)).run [] s1 (L2.start N [.ref f]) H { nx := fun _ H' => Q .non H', rt := Q } J0 ⟨ρ, _, h, start_rel hv2, hr, by
    have wq : Wp (Gf rts) E (VRel (Gf rts)) (match m l0 th ([D.loc l0].map some ++ List.replicate (N.length - [D.loc l0].length) none) h with | .nx _ h1 => .ok .non h1 | .rt d h1 => .ok d h1 | .exc c fs _ h1 => .exc c fs h1 | _ => .bad) ρ H Q := wq
    cases e : m l0 th ([D.loc l0].map some ++ List.replicate (N.length - [D.loc l0].length) none) h with
    | nx env h1 => rw [e] at wq; exact fun ρ1 H1 σ1 g1 r1 q1 => wq ρ1 H1 .non g1 r1 .non
    | rt d h1 => rw [e] at wq; exact wq
    | exc c fs env h1 => rw [e] at wq; exact fun ρ1 H1 d σ1 g1 r1 s1 e1 => wq ρ1 H1 d g1 r1 e1
    | bk env h1 => rw [e] at wq; exact False.elim wq
    | ct env h1 => rw [e] at wq; exact False.elim wq
    | bad => rw [e] at wq; exact False.elim wq⟩
  refine wpAny_mono body (fun fl s' hs => ?_) fun _ _ z => z
  cases fl with
  | ret u =>
    obtain ⟨v, σ', H', J, r, q⟩ := hs
    exact ⟨v, H', J.os, J.bare, J.base, J.hok, r, q⟩
  | next =>
    obtain ⟨σ', H', J, q⟩ := hs
    exact ⟨.non, H', J.os, J.bare, J.base, J.hok, rfl, q⟩
  | brk => exact (let ⟨_, _, _, q⟩ := hs; q : False).elim
  | cont => exact (let ⟨_, _, _, q⟩ := hs; q : False).elim
end
/-- within a lambda's body -/
theorem hx_lam {X : Cx} {A : Around} {outer : List PySem.Env} {s : Shared} {H : Hp} {E : XK} {scope : Scope} {f c' : Addr} : PassW (LamX.lamCx X A outer s H E scope f c') (fun cls d _ H => E cls d H) :=
  fun pins σ H s e s' I c => passes_call (E := E) (takes_of rfl rfl rfl rfl) (fun _ _ _ _ z => z) pins σ H s e s' I c
section
variable {X : Cx} {E : WM} {Gf : List (List Addr × Hp) → Gm} {params : Arguments} {body : Expr} {scope : Scope} {mb : ME} {a : Str} {N : List Str} {d : DefD} {k : Nat}
/-- x() in the def that got the lambda -/
theorem act_of (ok : GfOk Gf) {rts : List (List Addr × Hp)} {pins : List (Addr × Obj)} {σ : L2.St} {H2 : Hp} {s' : Shared} {ρ2 : List Addr} {env : Env} {f c' : Addr} {pm ctv cdv : Value} {l0 : Nat} {E' : XK} (I : Inv X pins σ H2 s') (L : LamX.LamS X.env.scope scope) (hs : SRel (Gf ((ρ2, H2) :: rts)) ρ2 H2 σ env) (hl : ρ2[l0]? = some f)
    (ef : H2 f = some (fix1 (lamO X params body scope pm c' ctv))) (ec : ∃ o, H2 c' = some (fix1 o) ∧ Cod (X.env.qual ++ "<lambda>") o)
    (hbind : ∀ (q : Str) (cl : List (Str × Addr)) (pm cv ctv : Value), bindArgs (PySem.W.kla_fn "<lambda>" q params body scope cl pm cv ctv) ⟨[], []⟩ = pure [])
    (hN : N[0]? = some a) (hv : Vis d.scope a) (hd : (a == ("__debug__" : Str)) = false) (hcd : (a == ("__classdict__" : Str)) = false)
    (rg : RG (k + 1) (X.A.deeper (envOfC d.qual d.scope s'.heap.objs.size (fAd X.K d.at_) cdv)))
    (hbody : ∀ (A : Around) (outer : List PySem.Env) (s : Shared) (H : Hp) (E' : XK) (f c' : Addr) (rts : List (List Addr × Hp)), RG k (A.deeper (LamX.lamEnv X scope s.heap.objs.size f c')) → PE (LamX.lamCx X A outer s H E' scope f c') body (rd (Gf rts) (fun cls d _ H => E' cls d H) mb)) :
    ActOk (cxOf (L2.CX X.prog X.w) X.prog X.w X.K X.mg X.base N d.qual d.scope (fAd X.K d.at_) cdv X.A X.stack s' H2 E') (Gf ((ρ2, H2) :: rts)) a l0 (fun h => mb env h) := by
  intro W pn xe p1 p2 hx
  refine ⟨fun pinsZ sZ σZ HZ Q IZ ⟨ρZ, envZ, hZ, hsZ, hrZ, w⟩ => ?_⟩
  unfold eAct at w
  split at w <;> first | exact False.elim w | skip
  rename_i l ee
  obtain ⟨el, w1⟩ := Wp.ifR w
  have el := of_decide_eq_true el
  subst el
  obtain ⟨v, e1, qv⟩ := hsZ.2 0 _ ee
  have root : Ext ρ2 H2 ρZ HZ := hrZ.root (ρ2, H2) (by rw [ok.rt]; exact List.mem_cons_self)
  cases qv with
  | @loc a0 _ ha0 =>
    have z := root.at hl
    rw [ha0] at z
    obtain rfl := Option.some.inj z
    obtain ⟨oc, ec1, vs, t, ec2, ec3⟩ := ec
    refine wpAny_Call_Name_kw (thn ((pe_var (pos := p1) (i := 0) hN hv hd hcd).run pinsZ sZ σZ HZ (fun v H1 => v = .ref a0 ∧ H1 = HZ) IZ ⟨.ref a0, e1, rfl, rfl⟩) fun u s1 ⟨v, H1, I1, r1, q1, q2⟩ => ?_)
    subst q1 q2
    obtain rfl : u = Value.ref a0 := r1
    have of1 := (I1.hok a0 _ (root.frz _ _ _ ef)).1
    have oc1 := (I1.hok c' _ (root.frz _ _ _ ec1)).1
    refine PySem.W.callWith_F0 ⟨_, _, _, _, of1⟩ ?_
    have un : Un (frs X.stack) [] H2 H1 s'.heap s1.heap := I1.base
    have hs2 : SRel (Gf ((ρ2, H2) :: rts)) ρZ H1 σ env := hs.ext root
    refine wpAny_call (codeAny_mono (R := CR (L2.CX X.prog X.w) (envOfC d.qual d.scope s'.heap.objs.size (fAd X.K d.at_) cdv :: X.stack) X.prog X.w H1 s1 Q (atW W σZ)) ?_ fun r s2 hq => ?_)
    · show codeAny _ _ (.call (.ref a0) ⟨[], []⟩) _ _
      refine PySem.W.kla_callFunE rg.r.depth of1 rfl L.co L.gen rfl ⟨c', oc, vs, t, rfl, oc1, ec2, ec3⟩ ?_
      rw [hbind]
      refine wpAny_pure (wpAny_newFunctionEnv (fun y hy => (L.own y hy).2) (fun y hy => absurd hy (by simp)) (fun h₁ hns hsb => ⟨I1.nolimit.fresh _ hsb, ?_⟩) L.kind)
      have J := LamX.lam_start2 (A := X.A.deeper (envOfC d.qual d.scope s'.heap.objs.size (fAd X.K d.at_) cdv)) (outer := envOfC d.qual d.scope s'.heap.objs.size (fAd X.K d.at_) cdv :: X.stack) (E := atW W σZ) (f := a0) (c' := c') (tk := s1.toks + ([] : List (Str × Value)).length) I L I1.env0 rg.r.hd un hns
        (fun b o e => hsb.extBut b o (Nat.ne_of_lt (Heap.lt_size e)) (Heap.get?_push_of_some _ e))
      refine PySem.W.kla_codeExpr (wpAny_mono ((hbody _ _ s1 H1 (atW W σZ) a0 c' ((ρ2, H2) :: rts) (rg.deeper _)).run [] _ _ H1 Q J ⟨ρZ, env, hZ, hs2, hrZ, w1⟩) (fun v s3 hq => ?_) fun e s3 hq => hq)
      obtain ⟨w', H', J', rv, q⟩ := hq
      exact ⟨w', H', J'.os, J'.bare, J'.base, J'.hok, rv, q⟩
    · have z := back_to hx I1 hq
      cases r with
      | error e => exact z
      | ok fl =>
        cases fl with
        | ret u => exact z
        | _ => exact (z : False).elim
/-- g(lambda: body) -/
theorem me_lam (ok : GfOk Gf) {rts : List (List Addr × Hp)} {tq : TqL} {dn : Defn} {q x : Str} {F : Nat → (Hm → R D) → Fn} {p lpos pos : Pos} {j : Nat} (O : OkL X.prog X.w X.K X.mg X.base j d N a F Gf) (B : TbL tq X.K X.mg X.base) (hT : (Gf rts).T = tabT tq X.K) (hmem : (dn, q) ∈ tq) (hcode : X.env.code = .ref (cT X.K dn).1)
    (hx : PassW X E) (rg : RG (k + 2) X.A) (hj : j ≤ k + 2) (hg : Gl X x) (hm : X.mg x = some (.ref (fAd X.K d.at_))) (hk : PySem.W.keepIn X.K (.ref (fAd X.K d.at_)) = true) (hq : q = X.env.qual ++ "<lambda>") (L : LamX.LamS X.env.scope scope) (hdef : defaultsOf params X.env = ([], []))
    (hbind : ∀ (q : Str) (cl : List (Str × Addr)) (pm cv ctv : Value), bindArgs (PySem.W.kla_fn "<lambda>" q params body scope cl pm cv ctv) ⟨[], []⟩ = pure [])
    (hbody : ∀ (A : Around) (outer : List PySem.Env) (s : Shared) (H : Hp) (E' : XK) (f c' : Addr) (rts : List (List Addr × Hp)), RG k (A.deeper (LamX.lamEnv X scope s.heap.objs.size f c')) → PE (LamX.lamCx X A outer s H E' scope f c') body (rd (Gf rts) (fun cls d _ H => E' cls d H) mb))
    (hdb : (x == ("__debug__" : Str)) = false := by decide) (hd : (a == ("__debug__" : Str)) = false := by decide) (hcd : (a == ("__classdict__" : Str)) = false := by decide) :
    PE X (.Call (.Name x p) [.Lambda params body scope lpos] [] pos) (rd (Gf rts) E (eLam F mb)) := by
  refine ⟨fun pins s σ H Q I ⟨ρ, env, h, hs, hr, w⟩ => ?_⟩
  obtain ⟨fd, FD, S, hN, hv, go⟩ := O
  obtain ⟨b1, b2⟩ := B.one hmem
  have hT0 : Tbs (tabT tq X.K) H := by rw [← hT]; exact hr.tabs
  refine wpAny_Call_Name_kw (ld_glob I hg hm (PySem.W.callWith_K (h₀ := X.base) I.ok.mod.kin hk ?_ (by rfl) (by rfl)) hdb)
  show wpAny _ _ (spliced ((false, eval (.Lambda params body scope lpos) X.env) :: backTo pos (starEach [] X.env))) _ _ s
  refine Calls.spliced_cons (lam_made I (B.tb _ hmem) hcode hT0 hq b1 b2 hdef (L.has I.ok) fun f c' pm ctv H2 s' I2 st lv t2 nf ef ec => ?_)
  refine Calls.spliced_nil ⟨I2.kIn, ?_⟩
  have g : Grow ρ H (ρ ++ [f]) H2 := Stays.grow (o := default) st nf
  have r2 : HRel (Gf rts) (ρ ++ [f]) H2 h.skip := hr.lam st lv (by rw [hT]; exact t2) nf ef
  have at' : (ρ ++ [f])[h.n]? = some f := by
    rw [← hr.len]
    simp
  have r3 : HRel (Gf ((ρ ++ [f], H2) :: rts)) (ρ ++ [f]) H2 h.skip := r2.re (ok.K _ _) (ok.o _ _) (ok.c _ _) (ok.T _ _) fun p hp => by
    rw [ok.rt] at hp
    rcases List.mem_cons.mp hp with e | hp
    · rw [e]
      exact (Grow.refl _ _).ext
    · exact r2.root p (by rw [ok.rt]; exact hp)
  have hs2 : SRel (Gf ((ρ ++ [f], H2) :: rts)) (ρ ++ [f]) H2 σ env := (hs.grow g).re (ok.K _ _) (ok.o _ _)
  have w2 : Wp (Gf ((ρ ++ [f], H2) :: rts)) (atW E σ) (VRel (Gf ((ρ ++ [f], H2) :: rts))) (F h.n (fun h1 => mb env h1) [.loc h.n] h.skip) (ρ ++ [f]) H2 Q :=
    (Wp.grow g w).re (ok.K _ _) (ok.o _ _) (ok.c _ _) (ok.T _ _) fun p hp => by
      rw [ok.rt] at hp ⊢
      exact List.mem_cons_of_mem _ hp
  rw [hq] at ec
  refine wpAny_call (codeAny_mono (go ((ρ ++ [f], H2) :: rts) X.A (rg.mono hj) X.stack s' H2 Q (atW E σ) (ρ ++ [f]) h.skip h.n (fun h1 => mb env h1) f I2.env0 r3 at' (fun cdv => act_of ok I2 L hs2 at' ef ec hbind hN hv hd hcd (rg.deeper _) hbody) w2) fun r s2 hq2 => ?_)
  have z := back_to hx I2 hq2
  cases r with
  | error e => exact z
  | ok fl =>
    cases fl with
    | ret u => exact z
    | _ => exact (z : False).elim
end
end Mo
end
section
set_option maxHeartbeats 1000000
/-! repr of things among which a dict of nothing may stand; tuple(range(n)). -/
namespace Mo
open PySem
def kyP : Key → Option PyData
  | .inl i => some (.int i)
  | .inr x => match PyData.strOk x with
    | true => some (.str x)
    | false => none
def datK (f : D → Option PyData) : List (Key × D) → Option (List (PyData × PyData))
  | [] => some []
  | (k, d) :: r => match kyP k, f d, datK f r with
    | some a, some b, some ps => some ((a, b) :: ps)
    | _, _, _ => none
/-- as dat, and dicts -/
def datR : Nat → Hm → D → Option PyData
  | 0, _, _ => none
  | n + 1, h, d => match d with
    | .non => some .none
    | .bl b => some (.bool b)
    | .int i => some (.int i)
    | .str x => match PyData.strOk x with
      | true => some (.str x)
      | false => none
    | .tup ds => (datL (datR n h) ds).map .tuple
    | .kl xs => (datL (datR n h) xs).map .list
    | .loc l => match h.g l with
      | some (.lst xs) => (datL (datR n h) xs).map .list
      | some (.dic kvs) => (datK (datR n h) kvs).map .dict
      | _ => none
    | _ => none
mutual
def tameR : PyData → Bool
  | .none | .bool _ => true
  | .int i => decide (i.natAbs < 2 ^ 140)
  | .str x => PyData.strOk x
  | .list xs | .tuple xs => tameRL xs
  | .dict kvs => tameRK kvs
def tameRL : List PyData → Bool
  | [] => true
  | x :: xs => tameR x && tameRL xs
def tameRK : List (PyData × PyData) → Bool
  | [] => true
  | (a, b) :: r => tameR a && (tameR b && tameRK r)
end
def fitsR (p : PyData) : Bool := tameR p && decide (p.bulk ≤ 90000)
def bReprR : Bi
  | [x], h => match datR DEP h x with
    | some p => ifR (fitsR p) (.ok (.str p.shown) h)
    | none => .bad
  | _, _ => .bad
/-- tuple(range(n)) -/
def trOf (i j : Int) (h : Hm) : R D := ifR (decide (-(2 ^ 62) ≤ i ∧ i < 2 ^ 62 ∧ -(2 ^ 62) ≤ j ∧ j < 2 ^ 62 ∧ (j - i).toNat ≤ SL)) (.ok (.tup (intsFrom i (j - i).toNat)) h)
def tr1 (x : D) (h : Hm) : R D := match x with
  | .int j => trOf 0 j h
  | _ => .bad
def eTr1 (a : ME) : ME := fun σ h => (a σ h).bind tr1
section
variable {E : XE} {Q : D → Hm → Prop} {h : Hm} {σ : List (Option D)}
theorem ev_reprR {x : D} {p : PyData} (e : datR DEP h x = some p) (k : fitsR p = true) (q : Q (.str p.shown) h) : Ev E (bReprR [x] h) Q := by
  unfold bReprR
  show Ev E (match datR DEP h x with | some p => ifR (fitsR p) (.ok (.str p.shown) h) | none => .bad) Q
  rw [e]
  exact ev_ifR k q
theorem ev_eTr1 {a : ME} (q : Ev E (a σ h) fun x h1 => Ev E (tr1 x h1) Q) : Ev E (eTr1 a σ h) Q := ev_bind q
theorem ev_tr1 {j : Int} (c : 0 ≤ j ∧ j ≤ 65536) (q : Q (.tup (intsFrom 0 j.toNat)) h) : Ev E (tr1 (.int j) h) Q := by
  unfold tr1 trOf
  refine ev_ifR (decide_eq_true ⟨by omega, by omega, by omega, by omega, ?_⟩) ?_
  · unfold SL
    omega
  · rw [Int.sub_zero]
    exact q
end
theorem datL_mono {f g : D → Option PyData} (k : ∀ x p, f x = some p → g x = some p) : ∀ {ds : List D} {ps : List PyData}, datL f ds = some ps → datL g ds = some ps
  | [], _, e => e
  | d :: ds, ps, e => by
    unfold datL at e ⊢
    split at e
    · rename_i p q e1 e2
      rw [k _ _ e1, datL_mono k e2]
      exact e
    · cases e
theorem datR_of {h : Hm} : ∀ (n : Nat) (x : D) (p : PyData), dat n h x = some p → datR n h x = some p
  | 0, _, _, e => nomatch e
  | n + 1, x, p, e => by
    cases x with
    | tup ds =>
      obtain ⟨ps, e1, rfl⟩ := Option.map_eq_some_iff.mp (show (datL (dat n h) ds).map .tuple = some p from e)
      exact Option.map_eq_some_iff.mpr ⟨ps, datL_mono (datR_of n) e1, rfl⟩
    | kl ds =>
      obtain ⟨ps, e1, rfl⟩ := Option.map_eq_some_iff.mp (show (datL (dat n h) ds).map .list = some p from e)
      exact Option.map_eq_some_iff.mpr ⟨ps, datL_mono (datR_of n) e1, rfl⟩
    | loc l =>
      have e' : (match h.g l with | some (.lst xs) => (datL (dat n h) xs).map .list | _ => none) = some p := e
      show (match h.g l with | some (.lst xs) => (datL (datR n h) xs).map .list | some (.dic kvs) => (datK (datR n h) kvs).map .dict | _ => none) = some p
      split at e'
      · rename_i xs e2
        obtain ⟨ps, e1, rfl⟩ := Option.map_eq_some_iff.mp e'
        rw [e2]
        exact Option.map_eq_some_iff.mpr ⟨ps, datL_mono (datR_of n) e1, rfl⟩
      · cases e'
    | _ => exact e
mutual
theorem tameR_of : ∀ p : PyData, tame p = true → tameR p = true
  | .none, _ => rfl
  | .bool _, _ => rfl
  | .int i, h => by simp only [tame] at h; simp only [tameR]; exact h
  | .str x, h => by simp only [tame] at h; simp only [tameR]; exact h
  | .list xs, h => by simp only [tame] at h; simp only [tameR]; exact tameRL_of xs h
  | .tuple xs, h => by simp only [tame] at h; simp only [tameR]; exact tameRL_of xs h
  | .dict _, h => by simp only [tame] at h; cases h
theorem tameRL_of : ∀ ps : List PyData, tameL ps = true → tameRL ps = true
  | [], _ => rfl
  | p :: ps, h => by
    simp only [tameL, Bool.and_eq_true] at h
    simp only [tameRL, Bool.and_eq_true]
    exact ⟨tameR_of p h.1, tameRL_of ps h.2⟩
end
theorem fitsR_of {p : PyData} (h : fits p = true) : fitsR p = true := by
  unfold fits at h
  unfold fitsR
  simp only [Bool.and_eq_true] at h ⊢
  exact ⟨tameR_of p h.1, h.2⟩
end Mo
end
section
set_option maxHeartbeats 1000000
/-! Readings: repr of things among which a dict of nothing may stand; tuple(range(n)). -/
namespace Mo
open PySem L2 PyProof.Rows PyProof.V He
mutual
inductive DpR (K : PySem.W.Frag) (H : Hp) : V → PyData → Prop
  | non : DpR K H .non .none
  | bl (b : Bool) : DpR K H (.bl b) (.bool b)
  | int (i : Int) : DpR K H (.int i) (.int i)
  | str (x : Str) : DpR K H (.str x) (.str x)
  | lst {a : Addr} {xs : List V} {ds : List PyData} : SqL K H a xs → DpRAll K H xs ds → DpR K H (.ref a) (.list ds)
  | tup {a : Addr} {xs : List V} {ds : List PyData} : SqT K H a xs → DpRAll K H xs ds → DpR K H (.ref a) (.tuple ds)
  | dic {a : Addr} {kvs : List (L2.Key × V)} {ps : List (PyData × PyData)} : H a = some (.dK kvs) → DpRKv K H kvs ps → DpR K H (.ref a) (.dict ps)
inductive DpRAll (K : PySem.W.Frag) (H : Hp) : List V → List PyData → Prop
  | nil : DpRAll K H [] []
  | cons {v : V} {vs : List V} {d : PyData} {ds : List PyData} : DpR K H v d → DpRAll K H vs ds → DpRAll K H (v :: vs) (d :: ds)
inductive DpRKv (K : PySem.W.Frag) (H : Hp) : List (L2.Key × V) → List (PyData × PyData) → Prop
  | nil : DpRKv K H [] []
  | cons {k : L2.Key} {v : V} {a b : PyData} {kvs : List (L2.Key × V)} {ps : List (PyData × PyData)} : kyP k = some a → DpR K H v b → DpRKv K H kvs ps → DpRKv K H ((k, v) :: kvs) ((a, b) :: ps)
end
section
variable {X : Cx} {pins : List (Addr × Obj)} {σ : L2.St} {H : Hp} {s : Shared}
theorem list_sys (I : Inv X pins σ H s) (hS : ∃ o, H sysModules = some (fix1 o)) {a : Addr} {xs : List V} (h : SqL X.K H a xs) : a ≠ sysModules := by
  rintro rfl
  obtain ⟨o, hS⟩ := hS
  rcases h with (h | ⟨o', h⟩) | ⟨o', its, n, h, _⟩
  · rw [hS] at h
    unfold fix1 at h
    cases h
  · rw [hS] at h
    unfold fix1 at h
    cases h
  · have h2 := (I.bs _ _ (I.mod.kin _ _ h)).2
    rw [hS] at h2
    cases h2
theorem ky_reads {h : Heap} {k : L2.Key} {a : PyData} {u : Value} (e : kyP k = some a) (r : L2.keyIs k u = true) : Reads h u a [] := by
  rcases L2.keyIs_shape r with ⟨i, t, rfl, rfl⟩ | ⟨x, t, rfl, rfl⟩
  · cases (show some (PyData.int i) = some a from e)
    exact Reads.int i t
  · have e' : (match PyData.strOk x with | true => some (PyData.str x) | false => none) = some a := e
    split at e'
    · cases e'
      exact Reads.str x t
    · cases e'
theorem dk_ne (I : Inv X pins σ H s) {a : Addr} {kvs : List (L2.Key × V)} (h : H a = some (.dK kvs)) : a ≠ sysModules := fun z2 => by
  obtain ⟨_, z, _⟩ := dk_of I.hok h
  rw [z2, show (sysModules == sysModules) = true from rfl] at z
  cases z
mutual
theorem DpR.reads (I : Inv X pins σ H s) (hS : ∃ o, H sysModules = some (fix1 o)) : ∀ (d : PyData) (v : V) (u : Value), DpR X.K H v d → RelV v u → ∃ as, Reads s.heap u d as ∧ sysModules ∉ as
  | .none, _, _, h, r => by
    cases h
    cases r
    exact ⟨_, Reads.none, fun z => nomatch z⟩
  | .bool b, _, _, h, r => by
    cases h
    cases r
    exact ⟨_, Reads.bool b, fun z => nomatch z⟩
  | .int i, _, _, h, r => by
    cases h
    obtain ⟨t, rfl⟩ := r
    exact ⟨_, Reads.int i t, fun z => nomatch z⟩
  | .str x, _, _, h, r => by
    cases h
    obtain ⟨t, rfl⟩ := r
    exact ⟨_, Reads.str x t, fun z => nomatch z⟩
  | .list ds, _, _, h, r => by
    cases h with
    | lst hs ha =>
      cases r
      have na := list_sys I hS hs
      obtain ⟨its, rv, ⟨o, n, ho, hc, _, hd⟩, _⟩ := I.list hs
      obtain ⟨as, hr, ns⟩ := DpR.readsAll I hS ds _ its ha rv
      refine ⟨_, Reads.list ho hc hd hr, fun z => ?_⟩
      rcases List.mem_cons.mp z with z | z
      · exact na z.symm
      · exact ns z
  | .tuple ds, _, _, h, r => by
    cases h with
    | tup hs ha =>
      cases r
      obtain ⟨its, rv, ⟨o, ho, hc, n, hd⟩, _⟩ := I.tuple hs
      obtain ⟨as, hr, ns⟩ := DpR.readsAll I hS ds _ its ha rv
      exact ⟨_, Reads.tuple ho hc hd hr, ns⟩
  | .dict ps, _, _, h, r => by
    cases h with
    | dic e hk =>
      cases r
      have na := dk_ne I e
      obtain ⟨_, _, vs, kv, o, es, ep, e1, ex, hd, _, pr, _⟩ := dk_of I.hok e
      obtain ⟨as, bs, q1, q2, n1, n2⟩ := DpR.readsKv I hS ps _ vs es.toList hk kv pr
      refine ⟨_, Reads.dict e1 ex.1 hd q1 q2, fun z => ?_⟩
      rcases List.mem_append.mp z with z | z
      · rcases List.mem_cons.mp z with z | z
        · exact na z.symm
        · exact n1 z
      · exact n2 z
theorem DpR.readsAll (I : Inv X pins σ H s) (hS : ∃ o, H sysModules = some (fix1 o)) : ∀ (ds : List PyData) (vs : List V) (us : List Value), DpRAll X.K H vs ds → Vals vs us → ∃ as, ReadsAll s.heap us ds as ∧ sysModules ∉ as
  | [], _, _, h, r => by
    cases h
    cases r
    exact ⟨_, ReadsAll.nil, fun z => nomatch z⟩
  | d :: ds, _, _, h, r => by
    cases h with
    | cons h1 h2 =>
      cases r with
      | cons r1 r2 =>
        obtain ⟨as, q1, n1⟩ := DpR.reads I hS d _ _ h1 r1
        obtain ⟨bs, q2, n2⟩ := DpR.readsAll I hS ds _ _ h2 r2
        exact ⟨_, ReadsAll.cons q1 q2, fun z => (List.mem_append.mp z).elim n1 n2⟩
theorem DpR.readsKv (I : Inv X pins σ H s) (hS : ∃ o, H sysModules = some (fix1 o)) : ∀ (ps : List (PyData × PyData)) (kvs : List (L2.Key × V)) (vs : List (L2.Key × Value)) (es : List DictEntry), DpRKv X.K H kvs ps → KV kvs vs → Pairs (mixKind X.prog X.w) es vs →
    ∃ as bs, ReadsAll s.heap (es.map (·.key)) (ps.map (·.1)) as ∧ ReadsAll s.heap (es.map (·.val)) (ps.map (·.2)) bs ∧ sysModules ∉ as ∧ sysModules ∉ bs
  | [], _, _, _, h, kv, pr => by
    cases h
    cases kv
    cases pr
    exact ⟨_, _, ReadsAll.nil, ReadsAll.nil, (fun z => nomatch z), fun z => nomatch z⟩
  | (a, b) :: ps, _, _, _, h, kv, pr => by
    cases h with
    | cons hk hv hr =>
      cases kv with
      | @cons p q _ _ r1 rr =>
        cases pr with
        | @cons e kv' es' kvs' i1 i2 pr' =>
          obtain ⟨r1k, r1v⟩ := r1
          obtain ⟨bs1, q2, m2⟩ := DpR.reads I hS b _ q.2 hv r1v
          obtain ⟨as, bs, q3, q4, m3, m4⟩ := DpR.readsKv I hS ps _ _ _ hr rr pr'
          have q1 : Reads s.heap e.key a [] := ky_reads hk (by have z := r1k; dsimp only at z; rw [z]; exact i1)
          refine ⟨[] ++ as, bs1 ++ bs, ReadsAll.cons q1 q3, ?_, m3, fun z => (List.mem_append.mp z).elim m2 m4⟩
          have q2' : Reads s.heap e.val b bs1 := by rw [i2]; exact q2
          exact ReadsAll.cons q2' q4
end
end
section
variable {G : Gm} {E : WM} {ρ : List Addr} {H : Hp} {h : Hm}
theorem datL_dpR {f : D → Option PyData} (hf : ∀ d v p, f d = some p → VRel G ρ H v d → DpR G.K H v p) : ∀ {ds : List D} {vs : List V} {ps : List PyData}, datL f ds = some ps → VRels G ρ H vs ds → DpRAll G.K H vs ps
  | [], _, ps, e, .nil => by
    cases (show some [] = some ps from e)
    exact .nil
  | d :: ds, _, ps, e, .cons q qs => by
    unfold datL at e
    split at e
    · rename_i p ps' e1 e2
      cases e
      exact .cons (hf d _ p e1 q) (datL_dpR hf e2 qs)
    · cases e
theorem datK_dpR {f : D → Option PyData} (hf : ∀ d v p, f d = some p → VRel G ρ H v d → DpR G.K H v p) : ∀ {kds : List (Key × D)} {kvs : List (L2.Key × V)} {ps : List (PyData × PyData)}, datK f kds = some ps → NRel G ρ H kvs kds → DpRKv G.K H kvs ps
  | [], _, ps, e, .nil => by
    cases (show some [] = some ps from e)
    exact .nil
  | (k, d) :: r, _, ps, e, .cons q qs => by
    unfold datK at e
    split at e
    · rename_i a b ps' e1 e2 e3
      cases e
      refine .cons ?_ (hf _ _ _ e2 q.2) (datK_dpR hf e3 qs)
      rw [show _ = k from q.1]
      exact e1
    · cases e
theorem datR_dp (r : HRel G ρ H h) : ∀ (n : Nat) (d : D) (v : V) (p : PyData), datR n h d = some p → VRel G ρ H v d → DpR G.K H v p
  | 0, _, _, _, e, _ => nomatch e
  | n + 1, .non, _, p, e, .non => by cases (show some _ = some p from e); exact .non
  | n + 1, .bl b, _, p, e, .bl _ => by cases (show some _ = some p from e); exact .bl b
  | n + 1, .int i, _, p, e, .int _ => by cases (show some _ = some p from e); exact .int i
  | n + 1, .str x, _, p, e, .str _ => by
    have e' : (match PyData.strOk x with | true => some (PyData.str x) | false => none) = some p := e
    split at e'
    · cases e'
      exact .str x
    · cases e'
  | n + 1, .tup ds, _, p, e, .tup h1 h2 => by
    obtain ⟨ps, e1, rfl⟩ := Option.map_eq_some_iff.mp (show (datL (datR n h) ds).map .tuple = some p from e)
    exact .tup h1 (datL_dpR (datR_dp r n) e1 h2)
  | n + 1, .kl ds, _, p, e, .kl h1 h2 => by
    obtain ⟨ps, e1, rfl⟩ := Option.map_eq_some_iff.mp (show (datL (datR n h) ds).map .list = some p from e)
    exact .lst h1.l (datL_dpR (datR_dp r n) e1 h2)
  | n + 1, .loc l, _, p, e, .loc ha => by
    have e' : (match h.g l with | some (.lst xs) => (datL (datR n h) xs).map .list | some (.dic kvs) => (datK (datR n h) kvs).map .dict | _ => none) = some p := e
    split at e'
    · rename_i xs e2
      obtain ⟨ps, e1, rfl⟩ := Option.map_eq_some_iff.mp e'
      obtain ⟨vs, e3, q⟩ := r.at e2 ha
      exact .lst (SqL.of e3) (datL_dpR (datR_dp r n) e1 q)
    · rename_i kds e2
      obtain ⟨ps, e1, rfl⟩ := Option.map_eq_some_iff.mp e'
      obtain ⟨kvs, e3, q⟩ := r.at e2 ha
      exact .dic e3 (datK_dpR (datR_dp r n) e1 q)
    · cases e'
  | n + 1, .ty m, _, p, e, .ty _ => nomatch e
  | n + 1, .ob k, _, p, e, .ob _ => nomatch e
theorem datL_dep {f : D → Option PyData} {m : Nat} (hf : ∀ d p, f d = some p → p.depth ≤ m) : ∀ {ds : List D} {ps : List PyData}, datL f ds = some ps → PyData.depthAll ps ≤ m
  | [], ps, e => by
    cases (show some [] = some ps from e)
    simp only [PyData.depthAll]
    omega
  | d :: ds, ps, e => by
    unfold datL at e
    split at e
    · rename_i p ps' e1 e2
      cases e
      have a := hf d p e1
      have b := datL_dep hf e2
      simp only [PyData.depthAll]
      omega
    · cases e
theorem kyP_dep {k : Key} {p : PyData} (e : kyP k = some p) : p.depth = 0 := by
  cases k with
  | inl i => cases (show some _ = some p from e); simp only [PyData.depth]
  | inr x =>
    have e' : (match PyData.strOk x with | true => some (PyData.str x) | false => none) = some p := e
    split at e'
    · cases e'
      simp only [PyData.depth]
    · cases e'
theorem datK_dep {f : D → Option PyData} {m : Nat} (hf : ∀ d p, f d = some p → p.depth ≤ m) : ∀ {kds : List (Key × D)} {ps : List (PyData × PyData)}, datK f kds = some ps → PyData.depthKv ps ≤ m
  | [], ps, e => by
    cases (show some [] = some ps from e)
    simp only [PyData.depthKv]
    omega
  | (k, d) :: r, ps, e => by
    unfold datK at e
    split at e
    · rename_i a b ps' e1 e2 e3
      cases e
      have c1 := kyP_dep e1
      have c2 := hf d _ e2
      have c3 := datK_dep hf e3
      simp only [PyData.depthKv]
      omega
    · cases e
theorem datR_dep : ∀ (n : Nat) (d : D) (p : PyData), datR n h d = some p → p.depth ≤ n
  | 0, _, _, e => nomatch e
  | n + 1, d, p, e => by
    have up : ∀ {xs : List D} {ps : List PyData}, datL (datR n h) xs = some ps → PyData.depthAll ps ≤ n := fun e1 => datL_dep (datR_dep n) e1
    cases d with
    | non => cases (show some _ = some p from e); simp only [PyData.depth]; omega
    | bl b => cases (show some _ = some p from e); simp only [PyData.depth]; omega
    | int b => cases (show some _ = some p from e); simp only [PyData.depth]; omega
    | str b =>
      have e' : (match PyData.strOk b with | true => some (PyData.str b) | false => none) = some p := e
      split at e'
      · cases e'
        simp only [PyData.depth]
        omega
      · cases e'
    | tup ds =>
      obtain ⟨ps, e1, rfl⟩ := Option.map_eq_some_iff.mp (show (datL (datR n h) ds).map .tuple = some p from e)
      have := up e1
      simp only [PyData.depth]
      omega
    | kl ds =>
      obtain ⟨ps, e1, rfl⟩ := Option.map_eq_some_iff.mp (show (datL (datR n h) ds).map .list = some p from e)
      have := up e1
      simp only [PyData.depth]
      omega
    | loc l =>
      have e' : (match h.g l with | some (.lst xs) => (datL (datR n h) xs).map .list | some (.dic kvs) => (datK (datR n h) kvs).map .dict | _ => none) = some p := e
      split at e'
      · obtain ⟨ps, e1, rfl⟩ := Option.map_eq_some_iff.mp e'
        have := up e1
        simp only [PyData.depth]
        omega
      · obtain ⟨ps, e1, rfl⟩ := Option.map_eq_some_iff.mp e'
        have := datK_dep (datR_dep n) e1
        simp only [PyData.depth]
        omega
      · cases e'
    | ty m => cases e
    | ob k => cases e
end
mutual
theorem tameR_short : ∀ (p : PyData), tameR p = true → p.leavesShort 150 = true ∧ p.showable = true
  | .none, _ => ⟨by simp only [PyData.leavesShort], by simp only [PyData.showable]⟩
  | .bool b, _ => ⟨by simp only [PyData.leavesShort], by simp only [PyData.showable]⟩
  | .int i, h => tame_short (.int i) (by simp only [tameR] at h; simp only [tame]; exact h)
  | .str x, h => tame_short (.str x) (by simp only [tameR] at h; simp only [tame]; exact h)
  | .list xs, h => by
    simp only [tameR] at h
    obtain ⟨a, b⟩ := tameR_shorts xs h
    exact ⟨by simp only [PyData.leavesShort]; exact a, by simp only [PyData.showable]; exact b⟩
  | .tuple xs, h => by
    simp only [tameR] at h
    obtain ⟨a, b⟩ := tameR_shorts xs h
    exact ⟨by simp only [PyData.leavesShort]; exact a, by simp only [PyData.showable]; exact b⟩
  | .dict kvs, h => by
    simp only [tameR] at h
    obtain ⟨a, b⟩ := tameR_shortK kvs h
    exact ⟨by simp only [PyData.leavesShort]; exact a, by simp only [PyData.showable]; exact b⟩
theorem tameR_shorts : ∀ (ps : List PyData), tameRL ps = true → PyData.leavesShortAll 150 ps = true ∧ PyData.showableAll ps = true
  | [], _ => ⟨by simp only [PyData.leavesShortAll], by simp only [PyData.showableAll]⟩
  | p :: ps, h => by
    simp only [tameRL, Bool.and_eq_true] at h
    obtain ⟨a, b⟩ := tameR_short p h.1
    obtain ⟨c, d⟩ := tameR_shorts ps h.2
    exact ⟨by simp only [PyData.leavesShortAll, a, c, Bool.and_self], by simp only [PyData.showableAll, b, d, Bool.and_self]⟩
theorem tameR_shortK : ∀ (ps : List (PyData × PyData)), tameRK ps = true → PyData.leavesShortKv 150 ps = true ∧ PyData.showableKv ps = true
  | [], _ => ⟨by simp only [PyData.leavesShortKv], by simp only [PyData.showableKv]⟩
  | (p, q) :: ps, h => by
    simp only [tameRK, Bool.and_eq_true] at h
    obtain ⟨a, b⟩ := tameR_short p h.1
    obtain ⟨a2, b2⟩ := tameR_short q h.2.1
    obtain ⟨c, d⟩ := tameR_shortK ps h.2.2
    exact ⟨by simp only [PyData.leavesShortKv, a, a2, c, Bool.and_self], by simp only [PyData.showableKv, b, b2, d, Bool.and_self]⟩
end
theorem fitsR_ok {p : PyData} (h : fitsR p = true) : p.showable = true ∧ p.shown.length ≤ sizeLine := by
  unfold fitsR at h
  simp only [Bool.and_eq_true, decide_eq_true_eq] at h
  obtain ⟨a, b⟩ := tameR_short p h.1
  have c := PyData.shown_le_bulk 150 (by decide) p a
  refine ⟨b, Nat.le_trans c ?_⟩
  have d := h.2
  unfold sizeLine
  omega
def rReprR (K : PySem.W.Frag) : List V → Hp → VK → Prop := fun xs H Q => ∃ x d, xs = [x] ∧ DpR K H x d ∧ (∃ o, H sysModules = some (fix1 o)) ∧ d.showable = true ∧ d.shown.length ≤ sizeLine ∧ d.depth ≤ 64 ∧ Q (.str d.shown) H
theorem cl_reprR {X : Cx} {k : Nat} (rg : RG k X.A) : CallR X (.builtin "repr") (rReprR X.K) := by
  intro pins s σ H xs us Q I r h
  obtain ⟨x, d, rfl, hd, hS, h1, h2, h4, q⟩ := h
  obtain ⟨u, rfl, ru⟩ := vals1 r
  have hu := rg.r.un
  have fin : ∀ (h' : Heap) (t : Tok) (tk : Nat), (∀ b o, s.heap.get? b = some o → h'.get? b = some o) → EP X pins σ Q (.str d.shown t) { s with heap := h', toks := tk } := fun h' t tk hk => ⟨.str d.shown, H, I.kept (t' := tk) hk, ⟨t, rfl⟩, q⟩
  cases hd with
  | non =>
    cases (show u = Value.none from ru)
    exact PySem.P.repr_of_none (fin s.heap _ _ fun _ _ e => e)
  | bl b =>
    cases (show u = Value.bool b from ru)
    exact PySem.P.repr_of_bool (fin s.heap _ _ fun _ _ e => e)
  | int i =>
    obtain ⟨t, rfl⟩ := ru
    simp only [PyData.showable, decide_eq_true_eq] at h1
    exact PySem.P.repr_of_int h1 (fin s.heap _ _ fun _ _ e => e)
  | str z =>
    obtain ⟨t, rfl⟩ := ru
    exact PySem.P.repr_of_str (fin s.heap _ _ fun _ _ e => e) h2
  | @lst a xs ds k1 k2 =>
    cases (show u = Value.ref a from ru)
    obtain ⟨as, rr, ns⟩ := DpR.reads I hS _ _ _ (.lst k1 k2) rfl
    exact repr_of_reads' (h₀ := s.heap) rr h1 (fun _ => ns) rg.g (by omega) (fun _ _ e => e) (fun h' t tk hk => fin h' t tk hk) h2
  | @tup a xs ds k1 k2 =>
    cases (show u = Value.ref a from ru)
    obtain ⟨as, rr, ns⟩ := DpR.reads I hS _ _ _ (.tup k1 k2) rfl
    exact repr_of_reads' (h₀ := s.heap) rr h1 (fun _ => ns) rg.g (by omega) (fun _ _ e => e) (fun h' t tk hk => fin h' t tk hk) h2
  | @dic a kvs ps k1 k2 =>
    cases (show u = Value.ref a from ru)
    obtain ⟨as, rr, ns⟩ := DpR.reads I hS _ _ _ (.dic k1 k2) rfl
    exact repr_of_reads' (h₀ := s.heap) rr h1 (fun _ => ns) rg.g (by omega) (fun _ _ e => e) (fun h' t tk hk => fin h' t tk hk) h2
section
variable {G : Gm} {E : WM}
theorem bs_reprR : BiS G E (rReprR G.K) bReprR := by
  intro τ ρ H h ds vs Q r q w
  unfold bReprR at w
  split at w
  · obtain ⟨v, rfl, k⟩ := vs1 q
    split at w
    · rename_i p e
      obtain ⟨c, w⟩ := Wp.ifR w
      obtain ⟨a, b⟩ := fitsR_ok c
      have c2 := datR_dep _ _ _ e
      exact ⟨v, p, rfl, datR_dp r _ _ _ _ e k, r.tabs.2, a, b, Nat.le_trans c2 (by decide), w.val r (.str _)⟩
    · exact False.elim w
  · exact False.elim w
theorem tr_w {E' : XK} {ρ : List Addr} {H : Hp} {h : Hm} {i j : Int} {Q : VK} (r : HRel G ρ H h) (w : Wp G E' (VRel G) (trOf i j h) ρ H Q) : RgOk i j ∧ ∀ q, H q = none → Q (.ref q) (upd H q (.tup (rgV i j))) := by
  obtain ⟨c, w⟩ := w.ifR
  obtain ⟨c1, c2, c3, c4, c5⟩ := of_decide_eq_true c
  refine ⟨⟨c1, c2, c3, c4, Nat.le_trans c5 (by unfold SL; decide)⟩, fun q hq => w ρ _ _ (Grow.tmp (ρ := ρ) hq (.tup (rgV i j))) (r.tmp hq _) (.tup (SqT.of upd_same) ?_)⟩
  unfold rgV intsFrom
  generalize upd H q _ = H'
  have go : ∀ l : List Nat, VRels G ρ H' (l.map fun k => V.int (i + (k : Nat))) (l.map fun k => D.int (i + (k : Nat))) := fun l => by
    induction l with
    | nil => exact .nil
    | cons a l ih => exact .cons (.int _) ih
  exact go _
variable {X : Cx} {a : Expr} {ma : ME} {p pos p2 pos2 : Pos}
theorem me_tr1 (hc : X.calm = true) (hg : Gl X "tuple") (hm : X.mg "tuple" = none) (hg2 : Gl X "range") (hm2 : X.mg "range" = none) (ha : PE X a (rd G E ma)) (na : starEach [a] X.env = (false, eval a X.env) :: starEach [] X.env := by rfl)
    (ne : starEach [.Call (.Name "range" p2) [a] [] pos2] X.env = (false, eval (.Call (.Name "range" p2) [a] [] pos2) X.env) :: starEach [] X.env := by rfl) : PE X (.Call (.Name "tuple" p) [.Call (.Name "range" p2) [a] [] pos2] [] pos) (rd G E (eTr1 ma)) :=
  pe_w (pe_tupRg hc hg hm (prg_1 hg2 hm2 ha na) ne) fun σ H Q ⟨ρ, env, h, hs, hr, w⟩ => ⟨ρ, env, h, hs, hr, w.seq fun x h1 ρ1 H1 v g1 r1 q1 w1 => by
    unfold tr1 at w1
    split at w1 <;> first | exact False.elim w1 | skip
    cases q1
    exact ⟨_, rfl, tr_w r1 w1⟩⟩
end
end Mo
end
section
set_option maxHeartbeats 1000000
/-! sorted of data that are alike; list(d.items()); a dict with a tuple as its key. -/
namespace Mo
open PySem
def allAl (ps : List PyData) : Bool := ps.all fun p => ps.all fun q => PySem.W.alike p q
def tup1 : PyData → Bool
  | .tuple (_ :: _) => true
  | _ => false
def notTN : PyData → Bool
  | .tuple _ | .none => false
  | _ => true
def sortable (ps : List PyData) : Bool := ps.all tup1 || ps.all notTN
/-- things, sorted by their data -/
def sortX (xs : List D) (ps : List PyData) : List D := ((xs.zip ps).mergeSort (PySem.W.dataLe false (·.2))).map (·.1)
def sortedX (x : D) (h : Hm) : R D := match h.seq x with
  | some xs => match datL (dat DEP h) xs with
    | some ps => ifR (allAl ps && sortable ps) (.ok (.kl (sortX xs ps)) h)
    | none => .bad
  | none => .bad
def bSortedX : Bi
  | [x], h => sortedX x h
  | _, _ => .bad
/-- a key, as a thing -/
def kD : Key → D
  | .inl i => .int i
  | .inr x => .str x
def itemsOf (x : D) (h : Hm) : R D := match x with
  | .loc l => match h.g l with
    | some (.dic kvs) => .ok (.kl (kvs.map fun kv => .tup [kD kv.1, kv.2])) h
    | _ => .bad
  | _ => .bad
/-- list(d.items()) -/
def eItems (a : ME) : ME := fun σ h => (a σ h).bind itemsOf
def keysOf : List D → Option (List Key)
  | [] => some []
  | .int i :: ds => (keysOf ds).map (.inl i :: ·)
  | .str x :: ds => (keysOf ds).map (.inr x :: ·)
  | _ => none
/-- {(..): v} -/
def eDictT (as : MA) (v : ME) : ME := fun σ h => (as σ h).bind fun ds h1 => ifR (decide (ds.length ≤ SL) && (keysOf ds).isSome) ((v σ h1).bind fun y h2 => .ok (.loc h2.n) (h2.new .odd))
section
variable {E : XE} {Q : D → Hm → Prop} {h : Hm} {σ : Env}
theorem ev_sortedX {x : D} {xs : List D} {ps : List PyData} (e : h.seq x = some xs) (k : datL (dat DEP h) xs = some ps) (c : (allAl ps && sortable ps) = true) (q : Q (.kl (sortX xs ps)) h) : Ev E (bSortedX [x] h) Q := by
  unfold bSortedX sortedX
  simp only [e, k]
  exact ev_ifR c q
theorem ev_items {a : ME} (q : Ev E (a σ h) fun x h1 => Ev E (itemsOf x h1) Q) : Ev E (eItems a σ h) Q := ev_bind q
theorem ev_itemsOf {l : Nat} {kvs : List (Key × D)} (e : h.g l = some (.dic kvs)) (q : Q (.kl (kvs.map fun kv => .tup [kD kv.1, kv.2])) h) : Ev E (itemsOf (.loc l) h) Q := by
  unfold itemsOf
  simp only [e]
  exact q
theorem ev_dictT {as : MA} {v : ME} (q : Ev E (as σ h) fun ds h1 => (decide (ds.length ≤ SL) && (keysOf ds).isSome) = true ∧ Ev E (v σ h1) fun y h2 => Q (.loc h2.n) (h2.new .odd)) : Ev E (eDictT as v σ h) Q :=
  ev_bind (q.mono fun ds h1 ⟨c, w⟩ => ev_ifR c (ev_bind w))
end
end Mo
end
section
set_option maxHeartbeats 1000000
/-! Readings: sorted of data that are alike; list(d.items()); a dict with a tuple as its key. -/
namespace Mo
open PySem L2 PyProof.Rows He PySem.W
/-! ### sorted -/
theorem vals_each {β : Type} {f : β → V} : ∀ {us : List Value} {bs : List β}, EachIs (fun u b => RelV (f b) u) us bs → Vals (bs.map f) us
  | _, _, .nil => .nil
  | _, _, .cons h t => .cons h (vals_each t)
theorem each_vals {β : Type} {f : β → V} : ∀ {us : List Value} {bs : List β}, Vals (bs.map f) us → EachIs (fun u b => RelV (f b) u) us bs
  | [], [], _ => .nil
  | _ :: _, [], h => nomatch h
  | [], _ :: _, h => nomatch h
  | u :: us, b :: bs, .cons h t => .cons h (each_vals t)
theorem cr_sortedX {X : Cx} {k : Nat} (rg : RG k X.A) : CallR X (.builtin "sorted") (fun vs H Q => ∃ (a : Addr) (bs : List (V × PyData)), vs = [.ref a] ∧ SqL X.K H a (bs.map (·.1)) ∧ DpAll X.K H (bs.map (·.1)) (bs.map (·.2)) ∧ AllAlike (bs.map (·.2)) ∧ PySem.W.Sortable (bs.map (·.2)) ∧ (∀ b ∈ bs, b.2.depth ≤ 12) ∧
    ∀ p, H p = none → Q (.ref p) (upd H p (.lst ((bs.mergeSort (dataLe false (·.2))).map (·.1))))) := by
  intro pins s σ H vs us Q I r h
  obtain ⟨a, bs, rfl, hs, hd, hal, hk, hdep, q⟩ := h
  obtain ⟨its, rv, hl, hz⟩ := I.list hs
  rw [Vals.ref1 r]
  have hu := rg.r.un
  obtain ⟨as, ra⟩ := Dp.readsAll I _ _ its hd rv
  rw [List.length_map] at hz
  refine sorted_data (R := fun u b => RelV b.1 u) (enc := (·.2)) hl.isList (each_vals rv) (readsAll_each (fun b : V × PyData => b.2) ra) hal hk hz (fun b hb => ?_) fun out ho eo => ?_
  · have := hdep b hb
    omega
  · obtain ⟨ep, he'⟩ := PyProof.Rows.sortedAll_at s.heap its out.toArray
    have rv2 := vals_each (f := fun b : V × PyData => b.1) eo
    have hlen : ((bs.mergeSort (dataLe false (·.2))).map (·.1)).length ≤ sizeLine := by
      rw [List.length_map, List.length_mergeSort]
      exact hz
    exact ⟨.ref _, upd H (s.heap.objs.size + 1) (.lst ((bs.mergeSort (dataLe false (·.2))).map (·.1))), I.laid (t' := s.toks) (fun _ _ => PyProof.Rows.sortedAll_old) (Nat.le_succ _) ⟨hlen, out, ep, rv2, he'⟩, rfl, q _ (I.hok.fresh (Nat.le_succ _))⟩
theorem allAl_ok {ps : List PyData} (h : allAl ps = true) : AllAlike ps := fun d hd d' hd' => List.all_eq_true.mp (List.all_eq_true.mp h d hd) d' hd'
theorem sortable_ok {ps : List PyData} (h : sortable ps = true) : PySem.W.Sortable ps := by
  unfold sortable at h
  rcases Bool.or_eq_true_iff.mp h with h | h
  · refine .inl fun d hd => ?_
    have := List.all_eq_true.mp h d hd
    unfold tup1 at this
    split at this
    · exact ⟨_, _, rfl⟩
    · cases this
  · refine .inr fun d hd => ?_
    have := List.all_eq_true.mp h d hd
    unfold notTN at this
    split at this
    · cases this
    · cases this
    · rename_i n1 n2
      exact ⟨fun z => n2 z, fun xs z => n1 xs z⟩
section
variable {G : Gm} {E : WM} {ρ : List Addr} {H : Hp} {h : Hm}
/-- things beside data -/
theorem zip_fst {α β : Type} : ∀ {xs : List α} {ys : List β}, xs.length = ys.length → (xs.zip ys).map (·.1) = xs
  | [], [], _ => rfl
  | x :: xs, y :: ys, e => by
    rw [List.zip_cons_cons, List.map_cons, zip_fst (Nat.succ.inj e)]
theorem zip_snd {α β : Type} : ∀ {xs : List α} {ys : List β}, xs.length = ys.length → (xs.zip ys).map (·.2) = ys
  | [], [], _ => rfl
  | x :: xs, y :: ys, e => by
    rw [List.zip_cons_cons, List.map_cons, zip_snd (Nat.succ.inj e)]
theorem datL_len {f : D → Option PyData} : ∀ {xs : List D} {ps : List PyData}, datL f xs = some ps → ps.length = xs.length
  | [], ps, e => by
    cases (show some [] = some ps from e)
    rfl
  | x :: xs, ps, e => by
    unfold datL at e
    split at e
    · rename_i p qs h1 h2
      cases e
      rw [List.length_cons, List.length_cons, datL_len h2]
    · cases e
/-- rows of three: a value, a thing, its data -/
theorem rels_trip : ∀ {vs : List V} {ds : List D} {ps : List PyData}, VRels G ρ H vs ds → ps.length = ds.length → ∃ ts : List (V × D × PyData), (∀ t ∈ ts, VRel G ρ H t.1 t.2.1) ∧ ts.map (fun t => (t.1, t.2.2)) = vs.zip ps ∧ ts.map (·.2) = ds.zip ps
  | _, _, [], .nil, _ => ⟨[], (fun t ht => nomatch ht), rfl, rfl⟩
  | _, _, p :: ps, .cons (v := v) (d := d) q qs, e => by
    obtain ⟨ts, k1, k2, k3⟩ := rels_trip qs (Nat.succ.inj e)
    refine ⟨(v, d, p) :: ts, fun t ht => ?_, by rw [List.map_cons, k2]; rfl, by rw [List.map_cons, k3]; rfl⟩
    rcases List.mem_cons.mp ht with rfl | ht
    · exact q
    · exact k1 t ht
theorem rels_of_trip : ∀ (ts : List (V × D × PyData)), (∀ t ∈ ts, VRel G ρ H t.1 t.2.1) → VRels G ρ H (ts.map (·.1)) (ts.map (·.2.1))
  | [], _ => .nil
  | t :: ts, k => .cons (k t List.mem_cons_self) (rels_of_trip ts fun u hu => k u (List.mem_cons_of_mem _ hu))
theorem sort_rels {vs : List V} {ds : List D} {ps : List PyData} (q : VRels G ρ H vs ds) (e : ps.length = ds.length) : VRels G ρ H (((vs.zip ps).mergeSort (dataLe false (·.2))).map (·.1)) (sortX ds ps) := by
  obtain ⟨ts, k1, k2, k3⟩ := rels_trip q e
  have m1 : (ts.mergeSort (dataLe false (·.2.2))).map (fun t => (t.1, t.2.2)) = (vs.zip ps).mergeSort (dataLe false (·.2)) := by
    rw [← k2]
    exact List.map_mergeSort fun _ _ _ _ => rfl
  have m2 : (ts.mergeSort (dataLe false (·.2.2))).map (·.2) = (ds.zip ps).mergeSort (dataLe false (·.2)) := by
    rw [← k3]
    exact List.map_mergeSort fun _ _ _ _ => rfl
  unfold sortX
  rw [← m1, ← m2, List.map_map, List.map_map]
  exact rels_of_trip _ fun t ht => k1 t ((List.mergeSort_perm _ _).mem_iff.mp ht)
theorem bs_sortedX : BiS G E (fun vs H Q => ∃ (a : Addr) (bs : List (V × PyData)), vs = [V.ref a] ∧ SqL G.K H a (bs.map (·.1)) ∧ DpAll G.K H (bs.map (·.1)) (bs.map (·.2)) ∧ AllAlike (bs.map (·.2)) ∧ PySem.W.Sortable (bs.map (·.2)) ∧ (∀ b ∈ bs, b.2.depth ≤ 12) ∧
    ∀ p, H p = none → Leave Q (.ref p) (upd H p (.lst ((bs.mergeSort (dataLe false (·.2))).map (·.1))))) bSortedX := by
  intro τ ρ H h ds vs Q r q w
  unfold bSortedX at w
  split at w <;> first | exact False.elim w | skip
  obtain ⟨v, rfl, k⟩ := vs1 q
  unfold sortedX at w
  split at w <;> first | exact False.elim w | skip
  rename_i xs e
  split at w <;> first | exact False.elim w | skip
  rename_i ps e2
  obtain ⟨c, w⟩ := Wp.ifR w
  rw [Bool.and_eq_true] at c
  obtain ⟨p, us, rfl, hl, qs⟩ := r.seqL e k
  have l1 := datL_len e2
  have l2 := qs.length
  have l3 : us.length = ps.length := by omega
  refine ⟨p, us.zip ps, rfl, ?_⟩
  rw [zip_fst l3, zip_snd l3]
  refine ⟨hl, datL_dp (dat_dp r _) e2 qs, allAl_ok c.1, sortable_ok c.2, fun b hb => ?_, fun p' hp => Leave.new w r (sort_rels qs l1) hp⟩
  have mb : b.2 ∈ ps := (List.of_mem_zip (a := b.1) (b := b.2) hb).2
  have key : ∀ {xs : List D} {ps : List PyData}, datL (dat DEP h) xs = some ps → ∀ p ∈ ps, ∃ x, dat DEP h x = some p := by
    intro xs
    induction xs with
    | nil =>
      intro ps e p hp
      cases (show some [] = some ps from e)
      cases hp
    | cons x xs ih =>
      intro ps e p hp
      unfold datL at e
      split at e
      · rename_i p0 qs h1 h2
        cases e
        rcases List.mem_cons.mp hp with rfl | hp
        · exact ⟨x, h1⟩
        · exact ih h2 p hp
      · cases e
  obtain ⟨x, ex⟩ := key e2 _ mb
  exact (dat_sh _ _ _ ex).2
variable {X : Cx}
/-- sorted(x), of data, left alone -/
theorem me_sortedX {k : Nat} {a : Expr} {es : List Expr} {as : MA} {x : Str} {p pos : Pos} (rg : RG k X.A) (hK : X.K = G.K) (hg : Gl X x) (hm : X.mg x = none) (hv : bootBuiltins x = some (.builtin "sorted")) (ha : PA X (a :: es) (rdA G E as)) (hn : x ≠ "__name__" := by decide) (hdb : (x == ("__debug__" : Str)) = false := by decide)
    (he : starEach (a :: es) X.env = (false, eval a X.env) :: starEach es X.env := by rfl) (hpl : (backTo pos (starEach es X.env)).any (·.1) = false := by rfl) : PE X (.Call (.Name x p) (a :: es) [] pos) (rd G E (eBi bSortedX as)) :=
  pe_w (pe_frz (pe_callB (cr_sortedX rg) hg hm hv ha hn hdb he hpl)) fun σ H Q ⟨ρ, env, h, hs, hr, w⟩ => ⟨ρ, env, h, hs, hr, w.seq fun x h1 ρ1 H1 v g1 r1 q1 w1 => by
    rw [hK]
    exact bs_sortedX σ ρ1 H1 h1 x v Q r1 q1 w1⟩
end
end Mo
end
section
set_option maxHeartbeats 1000000
/-! Readings: list(d.items()); a dict with a tuple as its key. -/
namespace Mo
open PySem L2 PyProof.Rows He
section
variable {G : Gm} {E : WM} {X : Cx} {ρ : List Addr} {H H' : Hp} {h : Hm}
theorem Grow.keeps (k : ∀ b o, H b = some o → H' b = some o) : Grow ρ H ρ H' := ⟨⟨[], by simp⟩, fun b xs e => k b _ e, fun b o u e => k b _ e, fun b o e n _ => ⟨k b o e, n⟩⟩
theorem HRel.keeps (r : HRel G ρ H h) (k : ∀ b o, H b = some o → H' b = some o) : HRel G ρ H' h := by
  refine ⟨r.len, r.inj, fun a m => ?_, fun l o e => ?_, r.tabs.keep (fun b ps e => k _ _ e) (fun b o u e => k _ _ e), fun q hq => (r.root q hq).trans (Grow.keeps k).ext⟩
  · obtain ⟨o, e⟩ := r.has a m
    exact ⟨o, k _ _ e⟩
  · obtain ⟨a, e1, q⟩ := r.obj l o e
    obtain ⟨u, e2⟩ := r.has a (List.mem_of_getElem? e1)
    exact ⟨a, e1, q.grow (Grow.keeps k) (by rw [e2]; exact k _ _ e2)⟩
theorem kD_rel (k : L2.Key) : VRel G ρ H (kV k) (kD k) := by
  cases k with
  | inl i => exact .int i
  | inr x => exact .str x
theorem items_rel : ∀ {kvs : List (L2.Key × V)} {kds : List (Key × D)} {ts : List Addr}, NRel G ρ H kvs kds → Paired (fun (t : Addr) (q : L2.Key × V) => H t = some (.tup [kV q.1, q.2])) ts kvs → VRels G ρ H (ts.map V.ref) (kds.map fun kv => .tup [kD kv.1, kv.2])
  | _, _, _, .nil, .nil => .nil
  | _, _, _, .cons h t, .cons e es => by
    refine .cons (.tup (SqT.of e) (.cons ?_ (.cons h.2 .nil))) (items_rel t es)
    rw [← h.1]
    exact kD_rel _
theorem me_items {a : Expr} {ma : ME} {p apos cpos pos : Pos} (hc : X.calm = true) (hg : Gl X "list") (hm : X.mg "list" = none) (ha : PE X a (rd G E ma)) (hbase : attributeBase a "items" X.env (eval a X.env) = eval a X.env := by rfl) (hline : (apos.endLine == cpos.line) = true := by rfl)
    (hs : starEach [.Call (.Attribute a "items" apos) [] [] cpos] X.env = (false, eval (.Call (.Attribute a "items" apos) [] [] cpos) X.env) :: starEach [] X.env := by rfl) :
    PE X (.Call (.Name "list" p) [.Call (.Attribute a "items" apos) [] [] cpos] [] pos) (rd G E (eItems ma)) :=
  pe_w (pe_frz (LiI.pe_listItems hc ha hg hm boot_list hbase hline hs)) fun σ H Q ⟨ρ, env, h, hs, hr, w⟩ => ⟨ρ, env, h, hs, hr, w.seq fun x h1 ρ1 H1 v g1 r1 q1 w1 => by
    unfold itemsOf at w1
    split at w1 <;> first | exact False.elim w1 | skip
    split at w1 <;> first | exact False.elim w1 | skip
    rename_i l kds e
    cases q1 with
    | @loc b _ hb =>
      obtain ⟨kvs, e1, n⟩ := r1.at e hb
      refine ⟨b, kvs, rfl, e1, fun H' p ts k1 k2 k3 k4 k5 k6 => ⟨p, _, rfl, k5, fun o => ?_⟩⟩
      have kk : ∀ b o', H1 b = some o' → upd H' p (.frz o (.lst (ts.map V.ref))) b = some o' := fun b o' e' => by
        rw [upd_ne (ne_of_none e' k2)]
        exact k1 b o' e'
      have n2 : NRel G ρ1 (upd H' p (.frz o (.lst (ts.map V.ref)))) kvs kds := n.grow (Grow.keeps kk)
      have k7 : Paired (fun (t : Addr) (q : L2.Key × V) => upd H' p (.frz o (.lst (ts.map V.ref))) t = some (.tup [kV q.1, q.2])) ts kvs := by
        have go : ∀ {ts : List Addr} {kvs : List (L2.Key × V)}, p ∉ ts → Paired (fun (t : Addr) (q : L2.Key × V) => H' t = some (.tup [kV q.1, q.2])) ts kvs → ∀ o xs, Paired (fun (t : Addr) (q : L2.Key × V) => upd H' p (.frz o (.lst xs)) t = some (.tup [kV q.1, q.2])) ts kvs := by
          intro ts kvs m q
          induction q with
          | nil => exact fun _ _ => .nil
          | @cons t q ts kvs e _ ih =>
            intro o xs
            refine .cons ?_ (ih (fun z => m (List.mem_cons_of_mem _ z)) o xs)
            rw [upd_ne (fun z => m (by rw [← z]; exact List.mem_cons_self))]
            exact e
        exact go k4 k6 o _
      exact w1 ρ1 _ _ (Grow.keeps kk) (r1.keeps kk) (.kl (.inl ⟨o, upd_same⟩) (items_rel n2 k7))⟩
end
end Mo
end
section
set_option maxHeartbeats 1000000
/-! Reading: a dict with a tuple as its key. -/
namespace Mo
open PySem L2 PyProof.Rows He
section
variable {G : Gm} {E : WM} {X : Cx} {ρ : List Addr} {H : Hp} {h : Hm}
/-- {k: v}, k a tuple of whole numbers and texts -/
theorem pe_dispT {k v : Expr} {tk tv : TE} {pos : Pos} (hk : PE X k tk) (hv : PE X v tv) (hu : X.A.units + 2 < cLine) : PE X (.Dict [some k] [v] pos) (fun σ H Q => ∀ p, H p = none → tk σ (upd H p (.dT [])) fun x H1 => tv σ H1 fun y H2 =>
    ∃ (b : Addr) (ks : List L2.Key), x = .ref b ∧ H2 b = some (.tup (ks.map kV)) ∧ H2 p = some (.dT []) ∧ Q (.ref p) (upd H2 p (.dT (L2.putK [] ks y)))) := by
  refine ⟨fun pins s σ H Q I q => ?_⟩
  have hn := I.hok.fresh (Nat.le_refl s.heap.objs.size)
  have I1 := I.laid (a := s.heap.objs.size) (o := .dT []) (h' := s.heap.push { cls := .type "dict", data := .dict #[] }) (t' := s.toks) (fun _ _ q => Heap.get?_push_of_some _ q) (Nat.le_refl _) (dt_empty s.heap I.big)
  refine wpAny_Dict_any rfl rfl (fun z => nomatch z) (show 1 ≤ 15 by decide) ?_
  refine pairTrees_cons_walk (thn (hk.run pins _ σ _ _ I1 (q _ hn)) fun u s1 ⟨x, H1, I2, rx, q1⟩ => thn (hv.run pins s1 σ H1 _ I2 q1) fun w2 s2 ⟨y, H2, I3, ry, b, ks, ex, eb, ep, q2⟩ => ?_)
  subst ex
  obtain rfl : u = Value.ref b := rx
  refine pairTrees_nil_walk ?_
  unfold storeAll
  have st : wpAny (model X.prog X.w) X.A (dictSet s.heap.objs.size (.ref b) w2) (fun _ s' => EP X pins σ Q (.ref s.heap.objs.size) s') X.xe s2 := by
    obtain ⟨z, hd, xs, rel, dd⟩ := dt_of I3.hok ep
    have hx0 : xs = [] := by
      cases rel
      rfl
    subst hx0
    refine wpAny_dictSet_heap (hsz := Nat.zero_le _) (show X.A.units < cLine by omega) (key_of I3.hok eb) dd fun h' dd' hs => ?_
    obtain ⟨q', es, ep', hq, h2, h3, h4, _, h5⟩ := dd'
    refine ⟨.ref s.heap.objs.size, upd H2 s.heap.objs.size (.dT (L2.putK [] ks y)), d_write (ob := .dT (L2.putK [] ks y)) I3 (by rw [ep]; exact True.intro) hs ⟨q', hq⟩ ⟨?_, hd, _, (KT.put (kvs := []) (xs := []) .nil ks eb ry).keeps fun c ys ec => ?_, q', es, ep', hq, h2, h3, h4, h5⟩, rfl, q2⟩
    · have := length_putK ([] : List (List L2.Key × V)) ks y
      rw [List.length_nil] at this
      exact Nat.le_trans this (by rw [sizeLine_eq]; decide)
    · rw [upd_ne (ne_of ec ep (fun z => nomatch z))]
      exact ec
  show wpAny _ _ (forIn [(Value.ref b, w2)] PUnit.unit _) _ _ _
  rw [List.forIn_cons]
  refine wpAny_bind (wpAny_bind (wpAny_mono st (fun _ s3 q3 => wpAny_pure ?_) fun _ _ z => z))
  show wpAny _ _ (forIn [] PUnit.unit _) _ _ _
  rw [List.forIn_nil]
  exact wpAny_pure q3
theorem keysT_rel : ∀ {vs : List V} {ds : List D} {ks : List Key}, VRels G ρ H vs ds → keysOf ds = some ks → vs = ks.map kV
  | _, _, ks, .nil, e => by
    cases (show some [] = some ks from e)
    rfl
  | _, _, ks, .cons (d := d) q qs, e => by
    cases q with
    | int i =>
      obtain ⟨ks', e1, rfl⟩ := Option.map_eq_some_iff.mp (show (keysOf _).map (.inl i :: ·) = some ks from e)
      rw [keysT_rel qs e1]
      rfl
    | str x =>
      obtain ⟨ks', e1, rfl⟩ := Option.map_eq_some_iff.mp (show (keysOf _).map (.inr x :: ·) = some ks from e)
      rw [keysT_rel qs e1]
      rfl
    | _ => exact absurd e (fun z => nomatch z)
theorem me_dictT {es : List Expr} {v : Expr} {as : MA} {mv : ME} {kk : Nat} {tpos pos : Pos} {k : Nat} (rg : RG k X.A) (ha : PA X es (rdA G E as)) (hv : PE X v (rd G E mv)) : PE X (.Dict [some (.Tuple es kk tpos)] [v] pos) (rd G E (eDictT as mv)) :=
  pe_w (pe_dispT (pe_tup ha) hv (by have := rg.r.un; omega)) fun σ H Q ⟨ρ, env, h, hs, hr, w⟩ => fun p hp => by
    have g := Grow.tmp (ρ := ρ) hp (.dT [])
    refine ⟨ρ, env, h, hs.grow g, hr.tmp hp _, ?_⟩
    unfold eDictT at w
    cases e : as env h with
    | bad =>
      rw [e] at w
      exact False.elim w
    | exc c fs h1 =>
      rw [e] at w
      exact Wp.grow (rel := VRel G) (r := R.exc c fs h1) g w
    | ok ds h1 =>
      rw [e] at w
      intro ρ1 H1 vs g1 r1 q1
      obtain ⟨c, w⟩ := Wp.ifR (show Wp G (atW E σ) (VRel G) (ifR (decide (ds.length ≤ SL) && (keysOf ds).isSome) ((mv env h1).bind fun y h2 => .ok (.loc h2.n) (h2.new .odd))) ρ H Q from w)
      rw [Bool.and_eq_true] at c
      obtain ⟨ks, ek⟩ := Option.isSome_iff_exists.mp c.2
      have gp : ∀ {p1 : Addr}, H1 p1 = none → Grow ρ (upd H p (.dT [])) ρ1 (upd H1 p1 (.tup vs)) := fun hp1 => g1.trans (Grow.tmp hp1 _)
      refine ⟨by rw [q1.length]; exact sl_le (of_decide_eq_true c.1), fun p1 hp1 => ?_⟩
      · refine ⟨ρ1, env, h1, (hs.grow g).grow (gp hp1), r1.tmp hp1 _, ?_⟩
        cases e2 : mv env h1 with
        | bad =>
          rw [e2] at w
          exact False.elim w
        | exc c fs h2 =>
          rw [e2] at w
          exact Wp.grow (rel := VRel G) (r := R.exc c fs h2) (g.trans (gp hp1)) w
        | ok y h2 =>
          intro ρ2 H2 v2 g2 r2 q2
          rw [e2] at w
          have w : Wp G (atW E σ) (VRel G) (.ok (.loc h2.n) (h2.new .odd)) ρ H Q := w
          obtain ⟨a1, n1, g3⟩ := Grow.adopt (o' := .dT (L2.putK [] ks v2)) hp ((gp hp1).trans g2) (hr.fresh hp) trivial
          refine ⟨p1, ks, rfl, ?_, a1, ?_⟩
          · have := keysT_rel q1 ek
            rw [← this]
            exact g2.tup _ _ upd_same
          · refine w _ _ _ g3 (r2.adopt n1 a1 trivial ⟨_, upd_same⟩) (.loc ?_)
            rw [← r2.len]
            simp
end
end Mo
end
section
/-! A lambda with one parameter handed to a def beside another thing. -/
namespace Mo
open PySem
/-- x(e, ..), x the i-th name, l0 where the lambda stands, th what it does -/
def eAct1 (i l0 : Nat) (th : Fn) (as : MA) : ME := fun σ h => match σ[i]? with
  | some (some (.loc l)) => ifR (decide (l = l0)) ((as σ h).bind th)
  | _ => .bad
/-- what the lambda does of its one thing, p the place of its name -/
def lamD (σ : Env) (p : Nat) (mb : ME) : Fn := fun ds h => match ds with
  | [d] => mb (σ.set p (some d)) h
  | _ => .bad
/-- g(e, lambda x: body) -/
def eLam1 (F : Nat → Fn → Fn) (a : ME) (p : Nat) (mb : ME) : ME := fun σ h => (a σ h).bind fun d h1 => F h1.n (lamD σ p mb) [d, .loc h1.n] h1.skip
section
variable {E : XE} {σ : Env} {h : Hm} {Q : D → Hm → Prop}
theorem ev_act1 {i l0 : Nat} {th : Fn} {as : MA} (e : σ[i]? = some (some (.loc l0))) (q : Ev E (as σ h) fun ds h1 => Ev E (th ds h1) Q) : Ev E (eAct1 i l0 th as σ h) Q := by
  unfold eAct1
  rw [e]
  exact ev_ifR (decide_eq_true rfl) (ev_bind q)
theorem ev_lam1 {F : Nat → Fn → Fn} {a mb : ME} {p : Nat} (q : Ev E (a σ h) fun d h1 => Ev E (F h1.n (lamD σ p mb) [d, .loc h1.n] h1.skip) Q) : Ev E (eLam1 F a p mb σ h) Q := ev_bind q
theorem ev_lamD {p : Nat} {mb : ME} {d : D} (q : Ev E (mb (σ.set p (some d)) h) Q) : Ev E (lamD σ p mb [d] h) Q := q
end
end Mo
end
section
set_option maxHeartbeats 1000000
/-! Lambdas of one parameter: their names, their calls. -/
namespace Mo
open PySem L2 PyProof.Rows He
/-- one parameter, no other name of its own -/
structure LamS1 (sc scope : Scope) (p : Str) : Prop where
  kind : scope.kind = .function
  co : scope.isCoroutine = false
  gen : scope.isGenerator = false
  nocell : ∀ y ∈ scope.names, y.2 ≠ .cell
  only : ∀ y ∈ scope.names, y.2 = .local → y.1 = p
  par : scope.names.lookup p = some .local
  free : ∀ y ∈ scope.names, y.2 = .free → (sc.names.lookup y.1 = some .cell ∨ sc.names.lookup y.1 = some .free)
def lamB1 (sc scope : Scope) (p : Str) : Bool :=
  decide (scope.kind = .function) && (!scope.isCoroutine && (!scope.isGenerator && (decide (scope.names.lookup p = some .local) && scope.names.all fun y => !decide (y.2 = .cell) && ((!decide (y.2 = .local) || decide (y.1 = p)) && (!decide (y.2 = .free) || (decide (sc.names.lookup y.1 = some .cell) || decide (sc.names.lookup y.1 = some .free)))))))
theorem lamS1_by {sc scope : Scope} {p : Str} (h : lamB1 sc scope p = true) : LamS1 sc scope p := by
  unfold lamB1 at h
  simp only [Bool.and_eq_true, List.all_eq_true, Bool.or_eq_true, Bool.not_eq_true', decide_eq_false_iff_not, decide_eq_true_eq] at h
  obtain ⟨h1, h2, h3, h4, h5⟩ := h
  refine ⟨h1, h2, h3, fun y hy => (h5 y hy).1, fun y hy e => ?_, h4, fun y hy e => ?_⟩
  · exact (h5 y hy).2.1.resolve_left fun z => z e
  · exact (h5 y hy).2.2.resolve_left fun z => z e
theorem LamS1.has {X : Cx} {scope : Scope} {p : Str} (L : LamS1 X.env.scope scope p) (ok : X.Ok) : ∀ y ∈ scope.names, y.2 = .free → ∃ c, X.env.cells.lookup y.1 = some c := fun y hy e => ok.has _ (L.free y hy e)
section
variable {X : Cx} {pins : List (Addr × Obj)} {σ : L2.St} {H HZ : Hp} {s s1 : Shared}
theorem lam_go1 {A : Around} {outs : List PySem.Env} {E : XK} {scope : Scope} {f c' : Addr} {hN : Heap} {tk : Nat} {p : Str} {pi : Nat} {v0 : V} {u0 : Value} (I : Inv X pins σ H s) (L : LamS1 X.env.scope scope p) (nd : X.N.Nodup) (ep : X.N[pi]? = some p) (e0 : Env0 X.prog X.w X.K X.mg X.base A outs s1 HZ) (hd : A.handled = none)
    (un : Un (frs X.stack) [] H HZ s.heap s1.heap) (rv : RelV v0 u0) (hns : hN.Ns s1.heap.objs.size fun y => [(p, u0)].reverse.lookup y) (kp : ∀ b o, s1.heap.get? b = some o → hN.get? b = some o) :
    Inv (LamX.lamCx X A outs s1 HZ E scope f c') [] (σ.set pi (some v0)) HZ { s1 with heap := hN, toks := tk } := by
  have has := L.has I.ok
  have up : ∀ {y c}, (cloFrom X.env.cells scope.names []).lookup y = some c → X.env.cells.lookup y = some c := fun {y c} e => by
    rcases cloFrom_mem (PySem.mem_of_lookup e) with m | ⟨m1, m2⟩
    · exact absurd m (by simp)
    · obtain ⟨c1, e1⟩ := has _ m1 rfl
      have e1 : X.env.cells.lookup y = some c1 := e1
      have e2 : c = c1 := by
        rw [m2, e1] <;> rfl
      rw [e2, e1]
  have dn : ∀ {y}, scope.names.lookup y = some .free → ∃ c, (cloFrom X.env.cells scope.names []).lookup y = some c := fun {y} hl => mem_lookup (cloFrom_has (cells := X.env.cells) (acc := []) (PySem.mem_of_lookup hl))
  have ck : ∀ {c : Addr} {v : Option Value}, H c = none → s.heap.IsCell c v → hN.IsCell c v := fun {c v} n ⟨o, ho, hd⟩ => by
    obtain ⟨sl, q⟩ := un.any ho n (by simp)
    exact ⟨_, kp _ _ q, hd⟩
  have nx : ∀ b : Addr, b ∉ (LamX.lamCx X A outs s1 HZ E scope f c').ex := fun b z => nomatch (show b ∈ ([] : List Addr) from z)
  have hok' : (LamX.lamCx X A outs s1 HZ E scope f c').Ok := ⟨e0.mod, L.kind, rfl, rfl, Nat.le_refl _, fun y z c e1 e2 => I.ok.inj y z c (up e1) (up e2),
    fun y hy => (show scope.names.lookup y = some .cell ∨ scope.names.lookup y = some .free from hy).elim (fun k => absurd rfl (L.nocell _ (PySem.mem_of_lookup k))) dn, fun y c z _ => (nomatch (show false = true from z)), fun _ => hd, Around.frames_deeper e0.frames, .inr ⟨rfl, rfl⟩, fun b z => absurd z (nx b), e0.bs, e0.bsz, fun b _ _ => nx b, fun b z => absurd z (nx b), e0.funs, e0.frf⟩
  refine ⟨hok', rfl, e0.bare, Un.kept kp, ⟨_, hns, fun i y v e1 e2 e3 => ?_⟩, fun y c e => ?_, e0.hok.fresh (Nat.le_refl _), fun y c e => ?_, fun q hq => (nomatch (show q ∈ ([] : List (Addr × Obj)) ++ [] from hq)), e0.hok.kept kp, by rw [List.length_set]; exact I.len⟩
  · have e1 : X.N[i]? = some y := e1
    have e3 : Vis scope y := e3
    rcases e3 with k | k | k
    · have ey : y = p := L.only _ (PySem.mem_of_lookup k) rfl
      subst ey
      have ei : i = pi := by
        have l1 := (List.getElem?_eq_some_iff.mp e1).1
        exact (List.getElem?_inj l1 nd).mp (e1.trans ep.symm)
      subst ei
      have l2 : i < σ.length := by
        rw [I.len]
        exact (List.getElem?_eq_some_iff.mp e1).1
      rw [List.getElem?_set_self l2] at e2
      cases e2
      refine ⟨u0, rv, .inl ⟨k, ?_⟩⟩
      show List.lookup y [(y, u0)] = some u0
      simp
    · exact absurd rfl (L.nocell _ (PySem.mem_of_lookup k))
    · have ne : i ≠ pi := fun z => by
        rw [z, ep] at e1
        have z2 := Option.some.inj e1
        have k2 := L.par
        rw [z2, k] at k2
        cases k2
      rw [List.getElem?_set_ne (fun z => ne z.symm)] at e2
      obtain ⟨m, hn, hl⟩ := I.loc
      have vis : Vis X.env.scope y := .inr (L.free _ (PySem.mem_of_lookup k) rfl)
      obtain ⟨w', r, q⟩ := hl i y v e1 e2 vis
      obtain ⟨c2, h2⟩ := dn k
      refine ⟨w', r, .inr ⟨.inr k, c2, h2, ?_⟩⟩
      have c1 := up h2
      rcases q with ⟨k', _⟩ | ⟨_, c3, e', z⟩
      · have k' : X.env.scope.names.lookup y = some .local := k'
        rcases L.free _ (PySem.mem_of_lookup k) rfl with k2 | k2
        · rw [show X.env.scope.names.lookup y = some .cell from k2] at k'
          cases k'
        · rw [show X.env.scope.names.lookup y = some .free from k2] at k'
          cases k'
      · rw [c1] at e'
        cases e'
        exact ck (I.freeC y _ c1) z
  · obtain ⟨w', z⟩ := I.cell y c (up e)
    exact ⟨w', ck (I.freeC y c (up e)) z⟩
  · obtain ⟨v, o, ho, _⟩ := I.cell y c (up e)
    exact un.free c o ho (I.freeC y c (up e)) (by simp)
end
/-- the thing that the i-th name holds, called with what as tells, does th -/
def ActOk1 (Y : Cx) (G : Gm) (a : Str) (i l0 : Nat) (th : Fn) : Prop := ∀ (W : WM) (pn : List (Addr × Obj)) (xe : Value → Shared → Prop) (p1 p2 : Pos) (e : Expr) (es : List Expr) (as : MA), PassW (Y.tr pn xe) W → PA (Y.tr pn xe) (e :: es) (rdA G W as) →
  starEach (e :: es) (Y.tr pn xe).env = (false, eval e (Y.tr pn xe).env) :: starEach es (Y.tr pn xe).env → (backTo p2 (starEach es (Y.tr pn xe).env)).any (·.1) = false → PE (Y.tr pn xe) (.Call (.Name a p1) (e :: es) [] p2) (rd G W (eAct1 i l0 th as))
/-- the promise of a def whose last thing is a lambda -/
def OkL1 (P : Program) (w : World) (K : PySem.W.Frag) (mg : Str → Option Value) (base : Heap) (k : Nat) (d : DefD) (N ps : List Str) (a : Str) (i : Nat) (F : Nat → Fn → Fn) (Gf : List (List Addr × Hp) → Gm) : Prop :=
  ∃ fd, FunD K d.name d.qual d.params d.body d.scope (d.dvs K) (d.kws K) (fAd K d.at_) fd ∧ FnScope N ps d.scope ∧ N[i]? = some a ∧ Vis d.scope a ∧
    ∀ (rts : List (List Addr × Hp)) (A : Around) (rg : RG k A) (outer : List PySem.Env) (s : Shared) (H : Hp) (Q : VK) (E : XK) (ρ : List Addr) (h : Hm) (l0 : Nat) (th : Fn) (f : Addr) (us : List Value) (vs : List V) (ds : List D), Env0 P w K mg base A outer s H → HRel (Gf rts) ρ H h → ρ[l0]? = some f → Vals vs us → VRels (Gf rts) ρ H vs ds → us.length + 1 = ps.length →
      (∀ cdv, ActOk1 (cxOf (L2.CX P w) P w K mg base N d.qual d.scope (fAd K d.at_) cdv A outer s H E) (Gf rts) a i l0 th) → Wp (Gf rts) E (VRel (Gf rts)) (F l0 th (ds ++ [.loc l0]) h) ρ H Q → codeAny (model P w) A (.call (.ref (fAd K d.at_)) ⟨us ++ [.ref f], []⟩) (CR (L2.CX P w) outer P w H s Q E) s
section
variable {P : Program} {w : World} {K : PySem.W.Frag} {mg : Str → Option Value} {base : Heap} {fa : List Fa} {fn : List DefD} {ex : PySem.W.Frag → Bool} {k : Nat} {N ps : List Str} {a : Str} {ix : Nat} {Gf : List (List Addr × Hp) → Gm} {m : Nat → Fn → MS} {d : DefD}
theorem okL1_of (T : Tp fa fn ex K mg) (i : Nat) (S : FnScope N ps d.scope) (hN : N[ix]? = some a) (hv : Vis d.scope a) (hdd : d.dfl = [])
    (hbi : ∀ (kV doc pm : Value) (an : Option Addr) (cdv ct : Value) (us : List Value), us.length = ps.length → bindArgs (PySem.W.fnOf d.name d.qual d.params d.body d.scope .none kV doc pm an cdv ct) ⟨us, []⟩ = pure (ps.zip us))
    (hb : ∀ (rts : List (List Addr × Hp)) (l0 : Nat) (th : Fn) (cdv : Value) (A : Around) (outer : List PySem.Env) (s : Shared) (H : Hp) (E : XK), RG k (A.deeper (envOfC d.qual d.scope s.heap.objs.size (fAd K d.at_) cdv)) →
      ActOk1 (cxOf (L2.CX P w) P w K mg base N d.qual d.scope (fAd K d.at_) cdv A outer s H E) (Gf rts) a ix l0 th → PSs (cxOf (L2.CX P w) P w K mg base N d.qual d.scope (fAd K d.at_) cdv A outer s H E) d.body (rdS (Gf rts) (fun cls d _ H => E cls d H) (m l0 th)))
    (h : fn[i]? = some d := by rfl) : OkL1 P w K mg base (k + 1) d N ps a ix (fun l0 th => fnOf N.length (m l0 th)) Gf := by
  obtain ⟨fd, F⟩ := T.fd i h
  have F2 : FunD K d.name d.qual d.params d.body d.scope [] (d.kws K) (fAd K d.at_) fd := by
    have e : d.dvs K = [] := by unfold DefD.dvs; rw [hdd]; rfl
    rw [e] at F
    exact F
  refine ⟨fd, F, S, hN, hv, fun rts A rg outer s H Q E ρ h l0 th f us vs ds e0 hr hl rvs qvs hlen act wq => ?_⟩
  have ln : (us ++ [Value.ref f]).length = ps.length := by rw [List.length_append, List.length_singleton]; exact hlen
  have bnd : BindsTo s fd ⟨us ++ [.ref f], []⟩ (ps.zip (us ++ [.ref f])) := F2.bindsA hbi s (us ++ [.ref f]) ln
  obtain ⟨oc, od, dV, kV, doc, pm, an, cdv, ct, osl, rfl, lk, hcd, _, _⟩ := F.ex
  have inK : K.In s.heap := e0.mod.kin.keeps fun c u z => (e0.bs c u z).1
  have lim : s.heap.NoLimit := e0.mod.nolimit.keeps fun c u z => (e0.bs c u z).1
  have kinds : ∀ y ∈ ps.zip (us ++ [Value.ref f]), d.scope.names.lookup y.1 = some .local ∨ (d.scope.names.lookup y.1 = some .cell ∧ ((cellsFrom (s.heap.objs.size + 1) d.scope.names []).lookup y.1).isSome = true) := fun ⟨n, v⟩ hy =>
    (S.par n (List.of_mem_zip hy).1).imp id fun z => ⟨z, PySem.W.cellsFrom_some _ _ _ (Or.inl z)⟩
  refine codeAny_call_function rg.r.depth (inK _ _ lk) rfl S.co S.gen rfl (PySem.W.codeRec_of inK hcd) (bnd _ _ _ _ (wpAny_newFunctionEnv_cells S.kind kinds fun env he s1 x => ?_))
  subst he
  refine ⟨lim.keeps x.toInCall.keep, codeAny_func ?_⟩
  have app : ∀ {xs : List V} {ys : List Value}, Vals xs ys → Vals (xs ++ [V.ref f]) (ys ++ [Value.ref f]) := fun {xs ys} r => by
    induction r with
    | nil => exact .cons rfl .nil
    | cons r1 _ ih => exact .cons r1 ih
  have rv := app rvs
  have hv2 : VRels (Gf rts) ρ H (vs ++ [.ref f]) (ds ++ [.loc l0]) := qvs.append (.cons (.loc hl) .nil)
  have lv : (vs ++ [V.ref f]).length = ps.length := by rw [rv.length]; exact ln
  have J0 := inv_start (CX := L2.CX P w) (P := P) (w := w) (E := E) S rg.r.hd e0 lv rv x
  have rg1 : ∀ j, RG (j + 1) A → RG j (A.deeper (envOfC d.qual d.scope s.heap.objs.size (fAd K d.at_) cdv)) := fun j z => z.deeper _
  have body := (hb rts l0 th cdv A outer s H E (rg1 k rg) (act cdv)).run [] s1 (L2.start N (vs ++ [.ref f])) H { nx := fun _ H' => Q .non H', rt := Q } J0 ⟨ρ, _, h, start_rel hv2, hr, by
    have wq : Wp (Gf rts) E (VRel (Gf rts)) (match m l0 th ((ds ++ [D.loc l0]).map some ++ List.replicate (N.length - (ds ++ [D.loc l0]).length) none) h with | .nx _ h1 => .ok .non h1 | .rt d h1 => .ok d h1 | .exc c fs _ h1 => .exc c fs h1 | _ => .bad) ρ H Q := wq
    cases e : m l0 th ((ds ++ [D.loc l0]).map some ++ List.replicate (N.length - (ds ++ [D.loc l0]).length) none) h with
    | nx env h1 => rw [e] at wq; exact fun ρ1 H1 σ1 g1 r1 q1 => wq ρ1 H1 .non g1 r1 .non
    | rt d h1 => rw [e] at wq; exact wq
    | exc c fs env h1 => rw [e] at wq; exact fun ρ1 H1 d σ1 g1 r1 s1 e1 => wq ρ1 H1 d g1 r1 e1
    | bk env h1 => rw [e] at wq; exact False.elim wq
    | ct env h1 => rw [e] at wq; exact False.elim wq
    | bad => rw [e] at wq; exact False.elim wq⟩
  refine wpAny_mono body (fun fl s' hs => ?_) fun _ _ z => z
  cases fl with
  | ret u =>
    obtain ⟨v, σ', H', J, r, q⟩ := hs
    exact ⟨v, H', J.os, J.bare, J.base, J.hok, r, q⟩
  | next =>
    obtain ⟨σ', H', J, q⟩ := hs
    exact ⟨.non, H', J.os, J.bare, J.base, J.hok, rfl, q⟩
  | brk => exact (let ⟨_, _, _, q⟩ := hs; q : False).elim
  | cont => exact (let ⟨_, _, _, q⟩ := hs; q : False).elim
end
section
variable {X : Cx} {E : WM} {Gf : List (List Addr × Hp) → Gm} {params : Arguments} {body : Expr} {scope : Scope} {mb : ME} {a p : Str} {N ps : List Str} {d : DefD} {k pi ix : Nat}
theorem act1_of (ok : GfOk Gf) {rts : List (List Addr × Hp)} {pins : List (Addr × Obj)} {σ : L2.St} {H2 : Hp} {s' : Shared} {ρ2 : List Addr} {env : Env} {f c' : Addr} {pm ctv cdv : Value} {l0 : Nat} {E' : XK} (I : Inv X pins σ H2 s') (L : LamS1 X.env.scope scope p) (nd : X.N.Nodup) (ep : X.N[pi]? = some p) (hs : SRel (Gf ((ρ2, H2) :: rts)) ρ2 H2 σ env) (hl : ρ2[l0]? = some f)
    (ef : H2 f = some (fix1 (lamO X params body scope pm c' ctv))) (ec : ∃ o, H2 c' = some (fix1 o) ∧ Cod (X.env.qual ++ "<lambda>") o)
    (hbind : ∀ (q : Str) (cl : List (Str × Addr)) (pm cv ctv u : Value), bindArgs (PySem.W.kla_fn "<lambda>" q params body scope cl pm cv ctv) ⟨[u], []⟩ = pure [(p, u)])
    (hN : N[ix]? = some a) (hv : Vis d.scope a) (hd : (a == ("__debug__" : Str)) = false) (hcd : (a == ("__classdict__" : Str)) = false)
    (rg : RG (k + 1) (X.A.deeper (envOfC d.qual d.scope s'.heap.objs.size (fAd X.K d.at_) cdv)))
    (hbody : ∀ (A : Around) (outer : List PySem.Env) (s : Shared) (H : Hp) (E' : XK) (f c' : Addr) (rts : List (List Addr × Hp)), RG k (A.deeper (LamX.lamEnv X scope s.heap.objs.size f c')) → PE (LamX.lamCx X A outer s H E' scope f c') body (rd (Gf rts) (fun cls d _ H => E' cls d H) mb)) :
    ActOk1 (cxOf (L2.CX X.prog X.w) X.prog X.w X.K X.mg X.base N d.qual d.scope (fAd X.K d.at_) cdv X.A X.stack s' H2 E') (Gf ((ρ2, H2) :: rts)) a ix l0 (lamD env pi mb) := by
  intro W pn xe p1 p2 ea es as hx hA hst hpl
  refine ⟨fun pinsZ sZ σZ HZ Q IZ ⟨ρZ, envZ, hZ, hsZ, hrZ, w⟩ => ?_⟩
  unfold eAct1 at w
  split at w <;> first | exact False.elim w | skip
  rename_i l ee
  obtain ⟨el, w1⟩ := Wp.ifR w
  have el := of_decide_eq_true el
  subst el
  obtain ⟨v, e1, qv⟩ := hsZ.2 ix _ ee
  have root : Ext ρ2 H2 ρZ HZ := hrZ.root (ρ2, H2) (by rw [ok.rt]; exact List.mem_cons_self)
  cases qv with
  | @loc a0 _ ha0 =>
    have z := root.at hl
    rw [ha0] at z
    obtain rfl := Option.some.inj z
    obtain ⟨oc, ec1, vs, t, ec2, ec3⟩ := ec
    refine wpAny_Call_Name_kw (thn ((pe_var (pos := p1) (i := ix) hN hv hd hcd).run pinsZ sZ σZ HZ (fun v H1 => v = .ref a0 ∧ H1 = HZ) IZ ⟨.ref a0, e1, rfl, rfl⟩) fun u s1 ⟨v, H1, I1, r1, q1, q2⟩ => ?_)
    subst q1 q2
    obtain rfl : u = Value.ref a0 := r1
    have of1 := (I1.hok a0 _ (root.frz _ _ _ ef)).1
    have A1 := hA.run p2 pinsZ s1 σZ H1 _ I1 (aft (f := lamD env pi mb) hsZ hrZ w1)
    refine PySem.W.callWith_F ⟨_, _, _, _, of1⟩ (thn A1 fun us s2 ⟨zs, H3, I3, rz, ρ3, h3, ds, r3, q3, w3⟩ => ?_) hst hpl
    have root3 : Ext ρ2 H2 ρ3 H3 := r3.root (ρ2, H2) (by rw [ok.rt]; exact List.mem_cons_self)
    have of3 := (I3.hok a0 _ (root3.frz _ _ _ ef)).1
    have oc3 := (I3.hok c' _ (root3.frz _ _ _ ec1)).1
    refine ⟨⟨_, _, _, _, of3⟩, ?_⟩
    obtain ⟨d1, rfl, w4⟩ : ∃ d1, ds = [d1] ∧ Wp (Gf ((ρ2, H2) :: rts)) (atW W σZ) (VRel (Gf ((ρ2, H2) :: rts))) (mb (env.set pi (some d1)) h3) ρ3 H3 Q := by
      unfold lamD at w3
      split at w3
      · exact ⟨_, rfl, w3⟩
      · exact False.elim w3
    obtain ⟨v1, rfl, qd⟩ : ∃ v1, zs = [v1] ∧ VRel (Gf ((ρ2, H2) :: rts)) ρ3 H3 v1 d1 := by
      cases q3 with
      | cons q qr =>
        cases qr
        exact ⟨_, rfl, q⟩
    obtain ⟨u1, rfl, ru⟩ : ∃ u1, us = [u1] ∧ RelV v1 u1 := by
      cases rz with
      | cons q qr =>
        cases qr
        exact ⟨_, rfl, q⟩
    have un : Un (frs X.stack) [] H2 H3 s'.heap s2.heap := I3.base
    have hs2 : SRel (Gf ((ρ2, H2) :: rts)) ρ3 H3 σ env := hs.ext root3
    refine wpAny_call (codeAny_mono (R := CR (L2.CX X.prog X.w) (envOfC d.qual d.scope s'.heap.objs.size (fAd X.K d.at_) cdv :: X.stack) X.prog X.w H3 s2 Q (atW W σZ)) ?_ fun r s3 hq => ?_)
    · show codeAny _ _ (.call (.ref a0) ⟨[u1], []⟩) _ _
      refine PySem.W.kla_callFunE rg.r.depth of3 rfl L.co L.gen rfl ⟨c', oc, vs, t, rfl, oc3, ec2, ec3⟩ ?_
      rw [hbind]
      refine wpAny_pure (wpAny_newFunctionEnv (fun y hy => L.nocell y hy) (fun y hy => by rw [List.mem_singleton.mp hy]; exact L.par) (fun h₁ hns hsb => ⟨I3.nolimit.fresh _ hsb, ?_⟩) L.kind)
      have J := lam_go1 (A := X.A.deeper (envOfC d.qual d.scope s'.heap.objs.size (fAd X.K d.at_) cdv)) (outs := envOfC d.qual d.scope s'.heap.objs.size (fAd X.K d.at_) cdv :: X.stack) (E := atW W σZ) (f := a0) (c' := c') (tk := s2.toks + ([(p, u1)] : List (Str × Value)).length) I L nd ep I3.env0 rg.r.hd un ru hns
        (fun b o e => hsb.extBut b o (Nat.ne_of_lt (Heap.lt_size e)) (Heap.get?_push_of_some _ e))
      refine PySem.W.kla_codeExpr (wpAny_mono ((hbody _ _ s2 H3 (atW W σZ) a0 c' ((ρ2, H2) :: rts) (rg.deeper _)).run [] _ _ H3 Q J ⟨ρ3, _, h3, hs2.set qd pi, r3, w4⟩) (fun v s4 hq => ?_) fun e s4 hq => hq)
      obtain ⟨w', H', J', rv, q⟩ := hq
      exact ⟨w', H', J'.os, J'.bare, J'.base, J'.hok, rv, q⟩
    · have z := back_to hx I3 hq
      cases r with
      | error e => exact z
      | ok fl =>
        cases fl with
        | ret u => exact z
        | _ => exact (z : False).elim
/-- g(e, lambda x: body) -/
theorem me_lam1 (ok : GfOk Gf) {rts : List (List Addr × Hp)} {tq : TqL} {dn : Defn} {q x : Str} {F : Nat → Fn → Fn} {ma : ME} {e1 : Expr} {p1 lpos pos : Pos} {j : Nat} (O : OkL1 X.prog X.w X.K X.mg X.base j d N ps a ix F Gf) (hps : ps.length = 2) (B : TbL tq X.K X.mg X.base) (hT : (Gf rts).T = tabT tq X.K) (hmem : (dn, q) ∈ tq) (hcode : X.env.code = .ref (cT X.K dn).1)
    (hx : PassW X E) (rg : RG (k + 2) X.A) (hj : j ≤ k + 2) (hg : Gl X x) (hm : X.mg x = some (.ref (fAd X.K d.at_))) (hk : PySem.W.keepIn X.K (.ref (fAd X.K d.at_)) = true) (hq : q = X.env.qual ++ "<lambda>") (L : LamS1 X.env.scope scope p) (nd : X.N.Nodup) (ep : X.N[pi]? = some p) (hdef : defaultsOf params X.env = ([], []))
    (hbind : ∀ (q : Str) (cl : List (Str × Addr)) (pm cv ctv u : Value), bindArgs (PySem.W.kla_fn "<lambda>" q params body scope cl pm cv ctv) ⟨[u], []⟩ = pure [(p, u)])
    (he : PE X e1 (rd (Gf rts) E ma))
    (hbody : ∀ (A : Around) (outer : List PySem.Env) (s : Shared) (H : Hp) (E' : XK) (f c' : Addr) (rts : List (List Addr × Hp)), RG k (A.deeper (LamX.lamEnv X scope s.heap.objs.size f c')) → PE (LamX.lamCx X A outer s H E' scope f c') body (rd (Gf rts) (fun cls d _ H => E' cls d H) mb))
    (hdb : (x == ("__debug__" : Str)) = false := by decide) (hd : (a == ("__debug__" : Str)) = false := by decide) (hcd : (a == ("__classdict__" : Str)) = false := by decide)
    (hst : starEach [e1, .Lambda params body scope lpos] X.env = (false, eval e1 X.env) :: starEach [.Lambda params body scope lpos] X.env := by rfl) :
    PE X (.Call (.Name x p1) [e1, .Lambda params body scope lpos] [] pos) (rd (Gf rts) E (eLam1 F ma pi mb)) := by
  refine ⟨fun pins s σ H Q I ⟨ρ, env, h, hs, hr, w⟩ => ?_⟩
  obtain ⟨fd, FD, S, hN, hv, go⟩ := O
  obtain ⟨b1, b2⟩ := B.one hmem
  refine wpAny_Call_Name_kw (ld_glob I hg hm (PySem.W.callWith_K (h₀ := X.base) I.ok.mod.kin hk ?_ hst (by rfl)) hdb)
  rw [hst]
  show wpAny _ _ (spliced ((false, eval e1 X.env) :: (false, eval (.Lambda params body scope lpos) X.env) :: backTo pos (starEach [] X.env))) _ _ s
  refine Calls.spliced_cons (thn (he.run pins s σ H (fun v H1 => ∃ ρ1 h1 d1, HRel (Gf rts) ρ1 H1 h1 ∧ VRel (Gf rts) ρ1 H1 v d1 ∧ SRel (Gf rts) ρ1 H1 σ env ∧ Wp (Gf rts) (atW E σ) (VRel (Gf rts)) (F h1.n (lamD env pi mb) [d1, .loc h1.n] h1.skip) ρ1 H1 Q) I
    ⟨ρ, env, h, hs, hr, Wp.seq w fun d1 h1 ρ1 H1 v g1 r1 q1 w1 => ⟨ρ1, h1, d1, r1, q1, hs.grow g1, w1⟩⟩) fun u1 s1 ⟨v1, H1, I1, ru, ρ1, h1, d1, r1, q1, hs1, w1⟩ => ?_)
  have hT0 : Tbs (tabT tq X.K) H1 := by rw [← hT]; exact r1.tabs
  refine Calls.spliced_cons (lam_made I1 (B.tb _ hmem) hcode hT0 hq b1 b2 hdef (L.has I1.ok) fun f c' pm ctv H2 s' I2 st lv t2 nf ef ec => ?_)
  refine Calls.spliced_nil ⟨I2.kIn, ?_⟩
  have g : Grow ρ1 H1 (ρ1 ++ [f]) H2 := Stays.grow (o := default) st nf
  have r2 : HRel (Gf rts) (ρ1 ++ [f]) H2 h1.skip := r1.lam st lv (by rw [hT]; exact t2) nf ef
  have at' : (ρ1 ++ [f])[h1.n]? = some f := by
    rw [← r1.len]
    simp
  have r3 : HRel (Gf ((ρ1 ++ [f], H2) :: rts)) (ρ1 ++ [f]) H2 h1.skip := r2.re (ok.K _ _) (ok.o _ _) (ok.c _ _) (ok.T _ _) fun p hp => by
    rw [ok.rt] at hp
    rcases List.mem_cons.mp hp with e | hp
    · rw [e]
      exact (Grow.refl _ _).ext
    · exact r2.root p (by rw [ok.rt]; exact hp)
  have hs2 : SRel (Gf ((ρ1 ++ [f], H2) :: rts)) (ρ1 ++ [f]) H2 σ env := (hs1.grow g).re (ok.K _ _) (ok.o _ _)
  have q2 : VRel (Gf ((ρ1 ++ [f], H2) :: rts)) (ρ1 ++ [f]) H2 v1 d1 := (q1.ext g.ext).re (ok.K _ _) (ok.o _ _)
  have w2 : Wp (Gf ((ρ1 ++ [f], H2) :: rts)) (atW E σ) (VRel (Gf ((ρ1 ++ [f], H2) :: rts))) (F h1.n (lamD env pi mb) ([d1] ++ [.loc h1.n]) h1.skip) (ρ1 ++ [f]) H2 Q :=
    (Wp.grow g w1).re (ok.K _ _) (ok.o _ _) (ok.c _ _) (ok.T _ _) fun p hp => by
      rw [ok.rt] at hp ⊢
      exact List.mem_cons_of_mem _ hp
  rw [hq] at ec
  refine wpAny_call (codeAny_mono (go ((ρ1 ++ [f], H2) :: rts) X.A (rg.mono hj) X.stack s' H2 Q (atW E σ) (ρ1 ++ [f]) h1.skip h1.n (lamD env pi mb) f [u1] [v1] [d1] I2.env0 r3 at' (.cons ru .nil) (.cons q2 .nil) hps.symm (fun cdv => act1_of ok I2 L nd ep hs2 at' ef ec hbind hN hv hd hcd (rg.deeper _) hbody) w2) fun r s2 hq2 => ?_)
  have z := back_to hx I2 hq2
  cases r with
  | error e => exact z
  | ok fl =>
    cases fl with
    | ret u => exact z
    | _ => exact (z : False).elim
end
end Mo
end
section
/-! Texts: their signs, parts, joined; a module's dict with text keys (pure). -/
namespace Mo
open PySem
abbrev sgn (c : Nat) : D := .str ⟨#[c]⟩
/-- x[i], x a text, too -/
def opIxA (x y : D) (h : Hm) : R D := match x, y with
  | .str z, .int i => match nth z.cps.toList i with
    | some c => ifR (decide (z.length ≤ SL)) (.ok (sgn c) h)
    | none => .bad
  | x, y => opIx x y h
def slSm (x : D) (l u : Option Int) (h : Hm) : R D := match x with
  | .str z => ifR (decide (z.length ≤ SL)) (.ok (.str (L2.cutS z l u)) h)
  | _ => .bad
/-- a slice of a text -/
def eSlS (a : ME) (lo hi : MO) : ME := fun σ h => (a σ h).bind fun x h1 => (lo σ h1).bind fun l h2 => (hi σ h2).bind fun u h3 => slSm x l u h3
/-- a sign in a text -/
def opInS : D → D → Hm → R D
  | .str a, .str z, h => match a.cps.toList with
    | [c] => .ok (.bl (decide (c ∈ z.cps.toList))) h
    | _ => .bad
  | _, _, _ => .bad
def opLeS : D → D → Hm → R D
  | .str i, .str j, h => .ok (.bl (!decide (j.cps.toList < i.cps.toList))) h
  | _, _, _ => .bad
def strsD : List D → Option (List Str)
  | [] => some []
  | .str x :: ds => (strsD ds).map (x :: ·)
  | _ :: _ => none
def mJoin : Mb := fun x as h => match x, as with
  | .str a, [y] => match h.seq y with
    | some ds => match strsD ds with
      | some ys => ifR (decide ((ys.map (·.length)).sum + ys.length * a.length ≤ SL)) (.ok (.str (Txt.join a ys)) h)
      | none => .bad
    | none => .bad
  | _, _ => .bad
/-- for x in a text -/
def iStrM (a : ME) : MI := fun σ h => (a σ h).bind fun x h1 => match x with
  | .str z => .ok ⟨z.cps.toList.map sgn, fun _ => true⟩ h1
  | _ => .bad
/-- x, *r = a tuple -/
def gStarT (gs : List MG) : MG := fun d σ h => match d with
  | .tup (x :: xs) => gsAll gs [x, .loc h.n] σ (h.new (.lst xs))
  | _ => .bad
theorem ev_gStarT {E : XE} {QE : Mo.Env → Hm → Prop} {gs : List MG} {x : D} {xs : List D} {σ : Mo.Env} {h : Hm} (q : Ev E (gsAll gs [x, .loc h.n] σ (h.new (.lst xs))) QE) : Ev E (gStarT gs (.tup (x :: xs)) σ h) QE := q
/-- x in D, D a dict of the module -/
def inG (kvs : List (Str × D)) (x : D) (h : Hm) : R D := match x with
  | .str z => .ok (.bl (lookF z kvs).isSome) h
  | _ => .bad
def ixG (kvs : List (Str × D)) (x : D) (h : Hm) : R D := match x with
  | .str z => optR (lookF z kvs) h
  | _ => .bad
section
variable {E : XE} {σ : Env} {h : Hm} {Q : D → Hm → Prop}
theorem ev_ixAS {z : Str} {i : Int} {c : Nat} (e : nth z.cps.toList i = some c) (k : z.length ≤ SL) (q : Q (sgn c) h) : Ev E (opIxA (.str z) (.int i) h) Q := by
  unfold opIxA
  simp only [e]
  exact ev_ifR (decide_eq_true k) q
theorem ev_ixAK {xs : List D} {i : Int} {x : D} (e : nth xs i = some x) (q : Q x h) : Ev E (opIxA (.kl xs) (.int i) h) Q := ev_ixK e q
theorem ev_ixAT {xs : List D} {i : Int} {x : D} (e : nth xs i = some x) (q : Q x h) : Ev E (opIxA (.tup xs) (.int i) h) Q := ev_ixT e q
theorem ev_eSlS {a : ME} {lo hi : MO} (q : Ev E (a σ h) fun x h1 => Ev E (lo σ h1) fun l h2 => Ev E (hi σ h2) fun u h3 => Ev E (slSm x l u h3) Q) : Ev E (eSlS a lo hi σ h) Q :=
  ev_bind (q.mono fun x h1 w => ev_bind (w.mono fun l h2 w => ev_bind w))
theorem ev_slSm {z : Str} {l u : Option Int} (k : z.length ≤ SL) (q : Q (.str (L2.cutS z l u)) h) : Ev E (slSm (.str z) l u h) Q := ev_ifR (decide_eq_true k) q
theorem ev_inS {c : Nat} {z : Str} (q : Q (.bl (decide (c ∈ z.cps.toList))) h) : Ev E (opInS (sgn c) (.str z) h) Q := q
theorem ev_leS {i j : Str} (q : Q (.bl (!decide (j.cps.toList < i.cps.toList))) h) : Ev E (opLeS (.str i) (.str j) h) Q := q
theorem ev_join {a : Str} {y : D} {ds : List D} {ys : List Str} (e1 : h.seq y = some ds) (e2 : strsD ds = some ys) (k : (ys.map (·.length)).sum + ys.length * a.length ≤ SL) (q : Q (.str (Txt.join a ys)) h) : Ev E (mJoin (.str a) [y] h) Q := by
  unfold mJoin
  simp only [e1, e2]
  exact ev_ifR (decide_eq_true k) q
theorem ev_iStrM {a : ME} {QI : It → Hm → Prop} (q : Ev E (a σ h) fun x h1 => ∃ z, x = .str z ∧ QI ⟨z.cps.toList.map sgn, fun _ => true⟩ h1) : Ev E (iStrM a σ h) QI := ev_bind (q.mono fun x h1 ⟨z, e, w⟩ => by subst e; exact w)
theorem ev_inG {kvs : List (Str × D)} {z : Str} (q : Q (.bl (lookF z kvs).isSome) h) : Ev E (inG kvs (.str z) h) Q := q
theorem ev_ixG {kvs : List (Str × D)} {z : Str} {v : D} (e : lookF z kvs = some v) (q : Q v h) : Ev E (ixG kvs (.str z) h) Q := by
  unfold ixG
  simp only [e]
  exact q
end
end Mo
end
section
set_option maxHeartbeats 1000000
/-! Readings: texts; a module's dict with text keys. -/
namespace Mo
open PySem L2 PyProof.Rows He
section
variable {G : Gm} {E : WM} {X : Cx} {ρ : List Addr} {H : Hp} {a b c o tg : Expr} {ma mb mc : ME} {pos : Pos} {as ks : MA} {es : List Expr}
theorem nth_atI {α : Type} {xs : List α} {i : Int} : nth xs i = L2.atI xs i := rfl
theorem os_ixA : OpS G E (fun x y H Q => (rIxL G.K x y H Q ∨ rIxT G.K x y H Q) ∨ rIxS x y H Q) opIxA := by
  intro σ ρ H h x y v u Q r q1 q2 w
  unfold opIxA at w
  split at w
  · rename_i z i
    split at w <;> first | exact False.elim w | skip
    rename_i c e
    obtain ⟨k, w⟩ := Wp.ifR w
    cases q1 with
    | str _ =>
      cases q2 with
      | int _ => exact .inr ⟨z, i, c, rfl, rfl, sl_le (of_decide_eq_true k), e, w.val r (.str _)⟩
  · exact .inl (os_ix σ ρ H h x y v u Q r q1 q2 w)
theorem me_ixA (hK : X.K = G.K) (ha : PE X a (rd G E ma)) (hb : PE X b (rd G E mb)) (hs : PlainIx b := by exact fun _ _ => rfl) : PE X (.Subscript a b pos) (rd G E (eOp opIxA ma mb)) := by
  refine pe_w (pe_ix (IxR.or ix_LT ix_str) ha hb hs) ?_
  rw [hK]
  exact rd_op os_ixA
theorem me_slS {lo hi : Option Expr} {ml mh : MO} {p2 : Pos} (ha : PE X a (rd G E ma)) (hl : PO X lo (rdO G E ml)) (hh : PO X hi (rdO G E mh)) : PE X (.Subscript a (.Slice lo hi none p2) pos) (rd G E (eSlS ma ml mh)) :=
  pe_w (pe_slice sl_str ha hl hh) fun σ H Q ⟨ρ, env, h, hs, hr, w⟩ => ⟨ρ, env, h, hs, hr, w.seq fun x h1 ρ1 H1 v g1 r1 q1 w1 => ⟨ρ1, env, h1, hs.grow g1, r1, w1.seq fun y h2 ρ2 H2 u g2 r2 q2 w2 =>
    ⟨ρ2, env, h2, (hs.grow g1).grow g2, r2, w2.seq fun z h3 ρ3 H3 t g3 r3 q3 w3 => by
      cases q2
      cases q3
      have q1 := (q1.grow g2).grow g3
      unfold slSm at w3
      split at w3 <;> first | exact False.elim w3 | skip
      obtain ⟨k, w3⟩ := Wp.ifR w3
      cases q1 with
      | str _ => exact ⟨_, rfl, sl_le (of_decide_eq_true k), w3.val r3 (.str _)⟩⟩⟩⟩
theorem os_inS : OpS G E (fun x y H Q => ∃ (c : Nat) (z : Str), x = .str ⟨#[c]⟩ ∧ y = .str z ∧ Q (.bl (decide (c ∈ z.cps.toList))) H) opInS := by
  intro σ ρ H h x y v u Q r q1 q2 w
  unfold opInS at w
  split at w <;> first | exact False.elim w | skip
  rename_i s z
  split at w <;> first | exact False.elim w | skip
  rename_i c e
  cases q1 with
  | str _ =>
    cases q2 with
    | str _ =>
      have es : s = ⟨#[c]⟩ := by
        cases s with
        | mk l => exact congrArg Str.mk (Array.ext' e)
      subst es
      exact ⟨c, z, rfl, rfl, w.val r (.bl _)⟩
theorem os_leS : OpS G E (fun x y H Q => ∃ i j, x = .str i ∧ y = .str j ∧ Q (.bl (!decide (j.cps.toList < i.cps.toList))) H) opLeS := by
  intro σ ρ H h x y v u Q r q1 q2 w
  unfold opLeS at w
  split at w <;> first | exact False.elim w | skip
  cases q1 with
  | str _ =>
    cases q2 with
    | str _ => exact ⟨_, _, rfl, rfl, w.val r (.bl _)⟩
theorem strs_rel : ∀ {vs : List V} {ds : List D} {ys : List Str}, VRels G ρ H vs ds → strsD ds = some ys → vs = ys.map V.str
  | _, _, _, .nil, e => by
    cases e
    rfl
  | _, _, ys, @VRels.cons _ _ _ v d vs ds q qs, e => by
    cases q with
    | str x =>
      obtain ⟨zs, e1, e2⟩ := Option.map_eq_some_iff.mp (show (strsD ds).map (x :: ·) = some ys from e)
      subst e2
      rw [strs_rel qs e1]
      rfl
    | _ => cases e
theorem bs_join : MbS G E (fun x xs H Q => ∃ a p, ∃ ys : List Str, x = .str a ∧ xs = [.ref p] ∧ (SqL G.K H p (ys.map V.str) ∨ SqT G.K H p (ys.map V.str)) ∧ (ys.map (·.length)).sum + ys.length * a.length ≤ 16777216 ∧ Q (.str (Txt.join a ys)) H) mJoin := by
  intro τ ρ H h x v ds vs Q r q qs w
  unfold mJoin at w
  split at w <;> first | exact False.elim w | skip
  rename_i s y
  obtain ⟨u, rfl, k⟩ := vs1 qs
  split at w <;> first | exact False.elim w | skip
  rename_i xs e
  split at w <;> first | exact False.elim w | skip
  rename_i ys e2
  obtain ⟨c, w⟩ := Wp.ifR w
  obtain ⟨p, us, rfl, k1, k2⟩ := r.seqL e k
  have eu := strs_rel k2 e2
  subst eu
  cases q with
  | str _ => exact ⟨_, p, ys, rfl, rfl, .inl k1, Nat.le_trans (of_decide_eq_true c) (by unfold SL; decide), w.val r (.str _)⟩
theorem mt_joinK (hK : X.K = G.K) : MtR X "str.join" (fun x xs H Q => ∃ a p, ∃ ys : List Str, x = .str a ∧ xs = [.ref p] ∧ (SqL G.K H p (ys.map V.str) ∨ SqT G.K H p (ys.map V.str)) ∧ (ys.map (·.length)).sum + ys.length * a.length ≤ 16777216 ∧ Q (.str (Txt.join a ys)) H) := by
  rw [← hK]
  exact mt_join
theorem yld_str {z : Str} : Yld G (Its z) ⟨z.cps.toList.map sgn, fun _ => true⟩ ρ H := by
  refine ⟨fun ρ' H' h i g r e hi => ?_, fun ρ' H' h i g r e hi => ?_, fun ρ' H' h i y H2 g r e yl d ed => ?_⟩
  · have hi : i < (z.cps.toList.map sgn).length := hi
    rw [List.length_map, Array.length_toList] at hi
    exact hi
  · have hi : (z.cps.toList.map sgn).length ≤ i := hi
    rw [List.length_map, Array.length_toList] at hi
    exact hi
  · obtain ⟨e2, c, e3, e4⟩ := yl
    subst e2 e4
    have ed : (z.cps.toList.map sgn)[i]? = some d := ed
    rw [List.getElem?_map, Array.getElem?_toList, e3] at ed
    cases ed
    exact ⟨ρ', Grow.refl _ _, r, .str _⟩
theorem mi_str (ha : PE X a (rd G E ma)) : PI X tg a (rdI G E (iStrM ma)) := pi_w (pi_str ha) fun σ H R ⟨ρ, env, h, hs, hr, w⟩ => ⟨ρ, env, h, hs, hr, w.seq fun x h1 ρ1 H1 v g1 r1 q1 w1 => by
  split at w1 <;> first | exact False.elim w1 | skip
  cases q1 with
  | str _ => exact ⟨_, rfl, w1.val r1 yld_str⟩⟩
/-! ### a module's dict with text keys -/
/-- the dict that the name stands for tells these -/
def dicB (K : PySem.W.Frag) (x : Str) (kvs : List (Str × Dv)) : Bool := valsB K (ga K x) kvs && (match K.lookup (ga K x) with
  | some ⟨_, _, .dict es _, _⟩ => es.toList.all (fun e => !e.refKey && kvs.any fun q => e.key.isStr q.1)
  | _ => false)
structure DcG (K : PySem.W.Frag) (w : World) (x : Str) (kvs : List (Str × Dv)) : Prop where
  d : ∃ es n, KDict K w (ga K x) es n
  b : dicB K x kvs = true
theorem lookF_map {γ : Type} (g : γ → D) (z : Str) : ∀ kvs : List (Str × γ), (∃ p ∈ kvs, p.1 = z ∧ lookF z (kvs.map fun q => (q.1, g q.2)) = some (g p.2)) ∨ ((∀ p ∈ kvs, p.1 ≠ z) ∧ lookF z (kvs.map fun q => (q.1, g q.2)) = none)
  | [] => .inr ⟨(fun _ h => nomatch h), rfl⟩
  | p :: kvs => by
    show (_ ∨ (_ ∧ (@ite _ (z = p.1) (strDec z p.1) (some (g p.2)) (lookF z (kvs.map fun q => (q.1, g q.2)))) = none))
    by_cases c : z = p.1
    · refine .inl ⟨p, List.mem_cons_self, c.symm, ?_⟩
      show (@ite _ (z = p.1) (strDec z p.1) (some (g p.2)) (lookF z (kvs.map fun q => (q.1, g q.2)))) = _
      rw [if_pos c]
    · rcases lookF_map g z kvs with ⟨q, h1, h2, h3⟩ | ⟨h1, h2⟩
      · refine .inl ⟨q, List.mem_cons_of_mem _ h1, h2, ?_⟩
        show (@ite _ (z = p.1) (strDec z p.1) (some (g p.2)) (lookF z (kvs.map fun q => (q.1, g q.2)))) = _
        rw [if_neg c]
        exact h3
      · refine .inr ⟨fun q hq => ?_, by rw [if_neg c]; exact h2⟩
        rcases List.mem_cons.mp hq with rfl | hq
        · exact fun e => c e.symm
        · exact h1 q hq
theorem dic_miss {K : PySem.W.Frag} {x z : Str} {kvs : List (Str × Dv)} (hb : dicB K x kvs = true) (n : ∀ p ∈ kvs, p.1 ≠ z) : PySem.W.nsIn K (ga K x) z = some none := by
  obtain ⟨_, h2⟩ := ba hb
  unfold PySem.W.nsIn
  split at h2
  · rename_i c d es k sl q
    rw [q]
    dsimp only
    have al := List.all_eq_true.mp h2
    have none_ : es.toList.find? (·.key.isStr z) = none := by
      rw [List.find?_eq_none]
      intro e he hz
      obtain ⟨_, u2⟩ := ba (al e he)
      obtain ⟨p, hp, hk⟩ := List.any_eq_true.mp u2
      have e1 : ∃ t, e.key = .str z t := by
        cases ek : e.key with
        | str y t =>
          rw [ek] at hz
          have : y = z := by simpa [Value.isStr] using hz
          exact ⟨t, by rw [this]⟩
        | _ => rw [ek] at hz; simp [Value.isStr] at hz
      obtain ⟨t, e1⟩ := e1
      rw [e1] at hk
      have : z = p.1 := by simpa [Value.isStr] using hk
      exact n p hp this.symm
    rw [none_]
    have noref : es.toList.any (·.refKey) = false := by
      rw [List.any_eq_false]
      intro e he hz
      obtain ⟨u1, _⟩ := ba (al e he)
      rw [hz] at u1
      cases u1
    rw [noref]
    rfl
  · cases h2
theorem dic_hit {K : PySem.W.Frag} {x : Str} {kvs : List (Str × Dv)} (hb : dicB K x kvs = true) {p : Str × Dv} (hp : p ∈ kvs) : ∃ u, PySem.W.nsIn K (ga K x) p.1 = some (some u) ∧ RelV (p.2.v K) u := valsB_ok (ba hb).1 hp
def plainDv : Dv → Bool
  | .non | .bl _ | .int _ | .str _ => true
  | _ => false
def gDv : Dv → D
  | .bl b => .bl b
  | .int i => .int i
  | .str x => .str x
  | _ => .non
theorem gDv_rel {K : PySem.W.Frag} {d : Dv} (h : plainDv d = true) : VRel G ρ H (d.v K) (gDv d) := by
  cases d with
  | non => exact .non
  | bl b => exact .bl b
  | int i => exact .int i
  | str x => exact .str x
  | _ => cases h
variable {fa : List Fa} {fn : List DefD} {ex : PySem.W.Frag → Bool}
/-- x in D -/
theorem me_inG (T : Tp fa fn ex X.K X.mg) (i : Nat) {x : Str} {kvs : List (Str × Dv)} {kds : List (Str × D)} {p2 : Pos} (hg : Gl X x) (hk : (kvs.map fun q => (q.1, gDv q.2)) = kds) (D0 : DcG X.K X.w x kvs) (ha : PE X a (rd G E ma)) (h : fa[i]? = some (.glo x) := by rfl) (hd : (x == ("__debug__" : Str)) = false := by decide) (hm : behindInMarks .In (.Name x p2) = false := by rfl) :
    PE X (.Compare a [.In] [.Name x p2] pos) (rd G E (eUn (inG kds) ma)) := by
  subst hk
  obtain ⟨es, n, KD⟩ := D0.d
  refine pe_w (pe_cmpR (op_in_kd KD) ha (pe_glob (v := V.ref (ga X.K x)) hg (T.glo i h) rfl hd) hm) fun σ H Q ⟨ρ, env, hh, hs, hr, w⟩ => ⟨ρ, env, hh, hs, hr, w.seq fun y h1 ρ1 H1 v g1 r1 q1 w1 => ?_⟩
  unfold inG at w1
  split at w1 <;> first | exact False.elim w1 | skip
  rename_i z
  cases q1 with
  | str _ =>
    rcases lookF_map gDv z kvs with ⟨p, h1, h2, h3⟩ | ⟨h1, h2⟩
    · obtain ⟨u, e1, e2⟩ := dic_hit D0.b h1
      rw [h3] at w1
      refine ⟨z, some u, rfl, rfl, by rw [← h2]; exact e1, ?_⟩
      exact w1.val r1 (.bl _)
    · rw [h2] at w1
      exact ⟨z, none, rfl, rfl, dic_miss D0.b h1, w1.val r1 (.bl _)⟩
/-- D[x] -/
theorem me_ixG (T : Tp fa fn ex X.K X.mg) (i : Nat) {x : Str} {kvs : List (Str × Dv)} {kds : List (Str × D)} {p2 : Pos} (hg : Gl X x) (hk : (kvs.map fun q => (q.1, gDv q.2)) = kds) (D0 : DcG X.K X.w x kvs) (hv : (kvs.all fun q => plainDv q.2) = true) (hb : PE X b (rd G E mb)) (h : fa[i]? = some (.glo x) := by rfl) (hd : (x == ("__debug__" : Str)) = false := by decide) (hs : PlainIx b := by exact fun _ _ => rfl) :
    PE X (.Subscript (.Name x p2) b pos) (rd G E (eUn (ixG kds) mb)) := by
  subst hk
  obtain ⟨es, n, KD⟩ := D0.d
  refine pe_w (pe_ix ix_kdict (pe_glob (v := V.ref (ga X.K x)) hg (T.glo i h) rfl hd) hb hs) fun σ H Q ⟨ρ, env, hh, hs, hr, w⟩ => ⟨ρ, env, hh, hs, hr, w.seq fun y h1 ρ1 H1 v g1 r1 q1 w1 => ?_⟩
  unfold ixG at w1
  split at w1 <;> first | exact False.elim w1 | skip
  rename_i z
  cases q1 with
  | str _ =>
    obtain ⟨d, e0, w1⟩ := Wp.optR w1
    rcases lookF_map gDv z kvs with ⟨p, h1, h2, h3⟩ | ⟨h1, h2⟩
    · obtain ⟨u, e1, e2⟩ := dic_hit D0.b h1
      rw [h3] at e0
      cases e0
      refine ⟨ga X.K x, z, p.2.v X.K, rfl, rfl, ⟨es, n, u, KD.at_, KD.lit, by rw [← h2]; exact e1, e2⟩, ?_⟩
      exact w1.val r1 (gDv_rel (List.all_eq_true.mp hv p h1))
    · rw [h2] at e0
      cases e0
end
end Mo
end
section
set_option maxHeartbeats 1000000
/-! The top with dicts of the module: their keys are looked at. -/
namespace Mo
open PySem L2 PyProof.Rows He
abbrev TsL := List (Str × List (Str × Dv))
def tabsX (ts : TsL) (K : PySem.W.Frag) : List (Option (List (Option (Str × Int)))) := ts.map fun t => dicW K (ga K t.1)
def obsMT (n : Nat) (fa : List Fa) (fn : List DefD) (tq : TqL) (ts : TsL) (ex : PySem.W.Frag → Bool) (g : Addr → Option Obj) : (AlD × Bool) × List (Option (List (Option (Str × Int)))) := (obsM n fa fn tq ex g, tabsX ts (frM g (asX g n)))
def valMT (fn : List DefD) (ts : TsL) (w : World) : (AlD × Bool) × List (Option (List (Option (Str × Int)))) := ((valD fn, true), ts.map fun t => some (keysIn w.params (t.2.map (·.1))))
/-- the module's dicts are there -/
def TbD (ts : TsL) (K : PySem.W.Frag) (w : World) : Prop := ∀ t ∈ ts, ∃ es n, KDict K w (ga K t.1) es n
theorem tbD_of {ts : TsL} {K : PySem.W.Frag} {w : World} (e : tabsX ts K = ts.map fun t => some (keysIn w.params (t.2.map (·.1)))) : TbD ts K w := fun t ht => by
  have all : ∀ l : TsL, (tabsX l K = l.map fun t => some (keysIn w.params (t.2.map (·.1)))) → ∀ t ∈ l, dicW K (ga K t.1) = some (keysIn w.params (t.2.map (·.1))) := fun l => by
    induction l with
    | nil => exact fun _ _ z => nomatch z
    | cons a l ih =>
      intro e t ht
      have e : dicW K (ga K a.1) :: tabsX l K = some (keysIn w.params (a.2.map (·.1))) :: l.map fun t => some (keysIn w.params (t.2.map (·.1))) := e
      injection e with e1 e2
      rcases List.mem_cons.mp ht with rfl | ht
      · exact e1
      · exact ih e2 t ht
  exact dicW_ok (all ts e t ht)
theorem TbD.dc {ts : TsL} {K : PySem.W.Frag} {w : World} (U : TbD ts K w) (i : Nat) {x : Str} {kvs : List (Str × Dv)} (b : dicB K x kvs = true) (h : ts[i]? = some (x, kvs) := by rfl) : DcG K w x kvs := ⟨U _ (List.mem_of_getElem? h), b⟩
def hookMT (n : Nat) (fa : List Fa) (fn : List DefD) (tq : TqL) (ts : TsL) (ex : PySem.W.Frag → Bool) : PySem.W.Hook where
  α := (AlD × Bool) × List (Option (List (Option (Str × Int))))
  obs := fun s => obsMT n fa fn tq ts ex s.heap.get?
  val := fun w => valMT fn ts w
  says := fun w h => ∃ K : PySem.W.Frag, K.In h ∧ SaysL fa fn tq ex h K ∧ TbD ts K w
  of := fun _ _ e => ⟨_, frM_in, saysL_of (congrArg Prod.fst e), tbD_of (congrArg Prod.snd e)⟩
  keeps := fun _ _ _ ⟨K, hK, c, u⟩ k => ⟨K, PySem.W.Frag.In.keeps hK k, ⟨c.m, c.hd, c.out, (fun p hp => k _ _ (c.emp p hp)), c.nd, c.ns, c.sk, let ⟨o, e1, e2⟩ := c.sy; ⟨o, k _ _ e1, e2⟩⟩, u⟩
theorem obsMT_eq {n : Nat} {fa : List Fa} {fn : List DefD} {tq : TqL} {ts : TsL} {ex : PySem.W.Frag → Bool} {g : Addr → Option Obj} {s : Shared} (h : ∀ a, g a = s.heap.get? a) : obsMT n fa fn tq ts ex g = (hookMT n fa fn tq ts ex).obs s := by
  have e : g = s.heap.get? := funext h
  rw [e] <;> rfl
theorem law_endT {l : PySem.W.OpenLaw} {n k : Nat} {q : Program} {loose : List Str} {XP : (Str → Option Value) → Heap → Prop} {fa : List Fa} {fn : List DefD} {tq : TqL} {ts : TsL} {ex : PySem.W.Frag → Bool} {dr : DefRec} {F : Fn} {x : Str} {d : DefD} {G : PySem.W.Frag → Gm} {YP : World → Heap → Prop}
    (i0 : Nat) (hfn : fn[i0]? = some d) (hn : l.most = some n) (hn2 : n ≤ sizeLine) (hdf : dr.params.defaults = []) (rg : RG k callerA) (hG : ∀ K, (G K).K = K) (hGT : ∀ K, (G K).T = tabT tq K) (hGR : ∀ K, (G K).rt = []) (hY : ∀ w h, YP w h → ∃ K : PySem.W.Frag, K.In h ∧ SaysL fa fn tq ex h K ∧ TbD ts K w)
    (hg : ∀ K mg, Tp fa fn ex K mg → mg dr.name = some (.ref (fAd K d.at_))) (hdd : d.dfl = []) (hb : ∀ (kV doc pm : Value) (an : Option Addr) (cdv ct : Value) (us : List Value), us.length = [x].length → bindArgs (PySem.W.fnOf d.name d.qual d.params d.body d.scope .none kV doc pm an cdv ct) ⟨us, []⟩ = pure ([x].zip us))
    (FG : ∀ (w : World) (mg : Str → Option Value) (K : PySem.W.Frag) (base : Heap), Tp fa fn ex K mg → TbL tq K mg base → TbD ts K w → OkD l.prog w K mg base k d [x] F (G K))
    (hT : ∀ ns : List Int, ns.length ≤ n → ∃ h', F [.kl (ns.map .int)] Hm.start = .ok (.bl true) h') : PySem.W.WalkO q loose XP YP l.row.toRowW dr [] (fun f vs => PySem.call f vs) := by
  refine Att.attach_call hn hdf fun w s0 s1 mg mb fa o pm cd doc a vs ns Gr Y ho hd hcd hmg hobj hints hlen hgens => ?_
  obtain ⟨K, KX, c, U⟩ := hY _ _ Y
  have T : Tp _ _ _ K mg := ⟨c.m, _, KX, Gr.T.g⟩
  have e := hg K mg T
  rw [hmg] at e
  obtain rfl := Value.ref.inj (Option.some.inj e)
  obtain ⟨fd0, F0⟩ := T.fd i0 hfn
  have one : ∀ fd, FunD K d.name d.qual d.params d.body d.scope (d.dvs K) (d.kws K) (fAd K d.at_) fd → fd = fd0 := fun fd FD => by
    obtain ⟨_, _, _, _, _, _, _, _, _, _, _, lk, _⟩ := F0.ex
    obtain ⟨_, _, _, _, _, _, _, _, _, _, _, lk', _⟩ := FD.ex
    rw [lk] at lk'
    have := Option.some.inj lk'
    cases this
    rfl
  have F2 : FunD K d.name d.qual d.params d.body d.scope [] (d.kws K) (fAd K d.at_) fd0 := by
    have e : d.dvs K = [] := by unfold DefD.dvs; rw [hdd]; rfl
    rw [e] at F0
    exact F0
  have inP : ∀ {Z : Addr × Addr → Prop}, (∀ p ∈ tq, Z (cT K p.1)) → ∀ z ∈ tq.map (fun p => cT K p.1), Z z := fun {Z} hz z hm => by
    obtain ⟨p, hp, rfl⟩ := List.mem_map.mp hm
    exact hz p hp
  obtain ⟨o1, sy1, sy2⟩ := c.sy
  exact law_go (cs := tq.map fun p => cT K p.1) (hG K) (hGR K) (fun p hp => by
      rw [hGT K] at hp
      obtain ⟨r, hr, rfl⟩ := List.mem_map.mp hp
      exact List.mem_map_of_mem (f := fun z : Addr × Addr => z.2) (List.mem_map_of_mem (f := fun p : Defn × Str => cT K p.1) hr))
    KX Gr.T.g Gr.T.b Gr.T.builtins Gr.T.nolimit hgens sy1 sy2 c.sk (inP c.ns) (inP c.emp) (inP c.out) (inP fun p hp => PySem.W.codeHd_of_K KX (c.hd p hp)) Gr.T.bmain hobj hints (Nat.le_trans hlen hn2) rg (fun base inB nsB tB => by
    obtain ⟨fd, FD, FG'⟩ := FG w mg K base T ⟨fun p hp => tB _ (List.mem_map_of_mem (f := fun p : Defn × Str => cT K p.1) hp), c.nd⟩ U
    rw [one fd FD] at FG'
    exact FG') (fun s u => F2.bindsA hb s [u] rfl) (hT ns hlen)
end Mo
end
section
/-! a, *r = a tuple. -/
namespace Mo
open PySem PySem.Sem PyProof.Rows
section
variable {s : Shared} {A : Around} {E : Value → Shared → Prop} {w : World} {prog : Program}
theorem star_itemsT {l : Addr} {x : Value} {xs : List Value} {Q : List Value → Shared → Prop} (hh : A.handled = none) (hl : s.heap.IsTuple l (x :: xs).toArray) (hz : xs.length ≤ sizeLine)
    (hQ : ∀ (s' : Shared), (∀ b o, s.heap.get? b = some o → s'.heap.get? b = some o) → s'.gens = s.gens → s'.drawn = s.drawn → s'.os = s.os → s.toks ≤ s'.toks → Q [x, .ref s'.heap.objs.size] { s' with heap := s'.heap.push { cls := .type "list", data := .seq xs.toArray } }) :
    wpAny (model prog w) A (unpackItems (.ref l) 2 (some 1)) Q E s := by
  have hlt : l ≠ s.heap.objs.size := by
    obtain ⟨ob, hob, _⟩ := hl
    exact Nat.ne_of_lt (Heap.lt_size hob)
  unfold unpackItems
  refine wpAny_bind ?_
  unfold notIterableAtAll
  refine wpAny_bind (wpAny_specialOf hl.typeIs slot_tuple_iter.lookup (wpAny_pure ?_))
  simp only [if_false, Bool.false_eq_true]
  refine wpAny_bind (wpAny_holding (wpAny_pyIter_tuple hl ?_))
  have hl1 := hl.push { cls := .type "tuple_iterator", data := .fields #[.ref l, .int 0 0] }
  refine (wpAny_bind (wpAny_holding ?_))
  show wpAny _ _ (pyNext (.ref s.heap.objs.size) >>= _) _ E _
  refine wpAny_bind (wpAny_pyNext_tuple_item (i := 0) ⟨_, Heap.get?_push_size _ rfl, rfl, rfl⟩ hl1 (x := x) (by simp) fun h1 hit1 hs1 => ?_)
  refine wpAny_bind (wpAny_holding (wpAny_pure (wpAny_pure ?_)))
  rw [if_neg (by simp)]
  have hl2 : h1.IsTuple l (x :: xs).toArray := hl1.extBut hs1.extBut hlt
  have W := walk_shift (k := 1) (n := xs.length) (show WalksS prog w A.in1 s.heap.objs.size [s.heap.objs.size, l] [s.heap.objs.size] (fun a b => b = a) (xs.length + 1) _ _ from (Walks.tuple (A := A.in1) hh s.heap.objs.size l hlt (x :: xs).toArray).toS)
  refine wpAny_bind (wpAny_holding (wpAny_collect_iter (.inr (.inr (.inr rfl))) W (fun i s' st => st.1.typeIs) ⟨hit1, hl2⟩ ?_ (by simp) (fun s' acc hm ha => ?_) hz))
  · intro b hb
    have hs2 : s.heap.objs.size < h1.objs.size := by obtain ⟨o, ho, _⟩ := hit1; exact Heap.lt_size ho
    rcases List.mem_cons.mp hb with e0 | hb
    · subst e0; exact hs2
    · rcases List.mem_cons.mp hb with e1 | hb
      · subst e1
        obtain ⟨o, ho, _⟩ := hl2
        exact Heap.lt_size ho
      · cases hb
  · have e : acc.toList = xs := by
      refine List.ext_getElem? fun i => ?_
      rw [Array.getElem?_toList]
      cases c : acc[i]? with
      | none =>
        have := Array.getElem?_eq_none_iff.mp c
        rw [ha.1] at this
        rw [List.getElem?_eq_none this]
      | some v =>
        have := ha.2 i v c
        simpa using this.symm
    rw [e, if_neg (show ¬ xs.length < 2 - 1 - 1 from Nat.not_lt_zero _)]
    have e1 : List.take (xs.length - (2 - 1 - 1)) xs = xs := List.take_of_length_le (Nat.le_refl _)
    have e2 : List.drop (xs.length - (2 - 1 - 1)) xs = [] := List.drop_of_length_le (Nat.le_refl _)
    rw [e1, e2]
    refine wpAny_bind (wpAny_newObj_type (wpAny_pure ?_) (by size_fits))
    refine hQ s' (fun b o ho => ?_) hm.gens hm.drawn hm.os hm.toks
    have hb : b ≠ s.heap.objs.size := Nat.ne_of_lt (Heap.lt_size ho)
    exact hm.heap b o (by simpa using hb) (hs1.extBut b o hb (Heap.get?_push_of_some _ ho))
end
end Mo
namespace Mo
open PySem L2 PyProof.Rows He
section
variable {X : Cx}
def gStarVT (X : Cx) (t : TGs) : TG := fun v σ H Q => ∃ a x xs, v = .ref a ∧ SqT X.K H a (x :: xs) ∧ ∀ p, H p = none → t [x, .ref p] σ (upd H p (.lst xs)) Q
theorem pg_starT {t1 t2 : Expr} {p pos : Pos} {k : Nat} {t : TGs} (hc : X.calm = true) (h : PGs X [t1, t2] t) (hs : (assignEach [t1, .Starred t2 p] X.env).map (·.2) = (assignEach [t1, t2] X.env).map (·.2) := by rfl) (hi : (assignEach [t1, .Starred t2 p] X.env).findIdx? (·.1) = some 1 := by rfl) (hn : (assignEach [t1, .Starred t2 p] X.env).length = 2 := by rfl) : PG X (.Tuple [t1, .Starred t2 p] k pos) (gStarVT X t) := by
  refine ⟨fun pins s σ H v uv Q I r hw => ?_⟩
  obtain ⟨a, x, xs, rfl, hH, hw⟩ := hw
  cases r
  obtain ⟨its, rv, e, z⟩ := I.tuple hH
  cases rv with
  | @cons _ u0 _ us ru rus =>
    rw [assign_Tuple]
    refine (wpAny_bind (wpAny_standAt ?_))
    unfold unpack
    rw [hi, hn, hs]
    refine wpAny_bind (wpAny_holding (star_itemsT (x := u0) (xs := us) (I.ok.hd hc) e (by have := rus.length; simp only [List.length_cons] at z; omega) fun s' k1 k2 k3 k4 k5 => ?_))
    have es : s' = { s with heap := s'.heap, toks := s'.toks } := by
      cases s'
      cases s
      cases k2
      cases k3
      cases k4
      rfl
    have I1 : Inv X pins σ H { s with heap := s'.heap, toks := s'.toks } := I.kept (t' := s'.toks) k1
    have hf : H s'.heap.objs.size = none := I1.hok.fresh (Nat.le_refl _)
    have I2 := I1.laid (t' := s'.toks) (o := .lst xs) (a := s'.heap.objs.size) (h' := s'.heap.push { cls := .type "list", data := .seq us.toArray }) (fun b u e => Heap.get?_push_of_some _ e) (Nat.le_refl _) ⟨by simp only [List.length_cons] at z; omega, us, 0, rus, Heap.get?_push_size _ rfl⟩
    rw [es]
    exact h.run pins _ σ _ [x, .ref s'.heap.objs.size] _ Q I2 (.cons ru (.cons rfl .nil)) (hw _ hf)
variable {G : Gm} {E : WM}
theorem mg_starT {t1 t2 : Expr} {p pos : Pos} {k : Nat} {gs : List MG} (hK : X.K = G.K) (hc : X.calm = true) (h : PGs X [t1, t2] (rdGs G E gs)) (hs : (assignEach [t1, .Starred t2 p] X.env).map (·.2) = (assignEach [t1, t2] X.env).map (·.2) := by rfl) (hi : (assignEach [t1, .Starred t2 p] X.env).findIdx? (·.1) = some 1 := by rfl) (hn : (assignEach [t1, .Starred t2 p] X.env).length = 2 := by rfl) : PG X (.Tuple [t1, .Starred t2 p] k pos) (rdG G E (gStarT gs)) :=
  pg_w (pg_starT hc h hs hi hn) fun v σ H Q ⟨ρ, env, hh, d, hs, hr, q, w⟩ => by
    unfold gStarT at w
    split at w <;> first | exact False.elim w | skip
    rename_i x xs
    cases q with
    | @tup a vs _ k1 k2 =>
      cases k2 with
      | @cons vx _ vxs _ qx qxs =>
        refine ⟨a, vx, vxs, rfl, by rw [hK]; exact k1, fun b hb => ?_⟩
        have g := Grow.new hr hb (.lst vxs)
        refine ⟨_, env, hh.new (.lst xs), [x, .loc hh.n], hs.grow g, hr.new hb ⟨vxs, upd_same, qxs.grow g⟩, .cons (qx.grow g) (.cons (.loc ?_) .nil), ?_⟩
        · rw [← hr.len]
          simp
        · exact w.grow g
end
end Mo
end
section
/-! enumerate of a list or a tuple; what is walked from behind (pure). -/
namespace Mo
open PySem
/-- enumerate(x), x a tuple, too -/
def iEnumX (a : ME) : MI := fun σ h => (a σ h).bind fun x h1 => match x with
  | .tup xs => .ok ⟨numbered 0 xs, fun _ => true⟩ h1
  | x => match h1.seq x with
    | some xs => .ok ⟨numbered 0 xs, fun h' => decide (h'.seq x = some xs)⟩ h1
    | none => .bad
/-- reversed(x), x a list or a tuple -/
def iRevX (a : ME) : MI := fun σ h => (a σ h).bind fun x h1 => match x with
  | .tup xs => .ok ⟨xs.reverse, fun _ => true⟩ h1
  | x => match h1.seq x with
    | some xs => .ok ⟨xs.reverse, fun h' => decide (h'.seq x = some xs)⟩ h1
    | none => .bad
/-- list(enumerate(x)), x a tuple -/
def enumL (x : D) (h : Hm) : R D := match x with
  | .tup xs => ifR (decide (xs.length ≤ SL)) (.ok (.kl (numbered 0 xs)) h)
  | _ => .bad
def eEnumL (a : ME) : ME := fun σ h => (a σ h).bind enumL
/-- len(set(x)), x ints -/
def lenInts (xs : List D) (h : Hm) : R D := match intsOf xs with
  | some ks => ifR (decide (ks.length < MSET)) (.ok (.int (sortU ks).length) h)
  | none => .bad
def lenSetR (x : D) (h : Hm) : R D := match x with
  | .tup xs => lenInts xs h
  | x => match h.seq x with
    | some xs => lenInts xs h
    | none => .bad
def eLenSet (a : ME) : ME := fun σ h => (a σ h).bind lenSetR
/-- which of two entries has the greater key (value, the number below nought) -/
def gtK (a b : Int × Int) : Bool := decide (b.2 < a.2) || (decide (b.2 = a.2) && decide (0 - b.1 < 0 - a.1))
def bestP (x : Int × Int) (xs : List (Int × Int)) : Int × Int := xs.foldl (fun b y => if gtK y b then y else b) x
def intsKV : List (Key × D) → Option (List (Int × Int))
  | [] => some []
  | (.inl k, .int v) :: r => (intsKV r).map ((k, v) :: ·)
  | _ :: _ => none
/-- max(d, key=lambda x: (d[x], 0 - x)) -/
def maxK (x : D) (h : Hm) : R D := match x with
  | .loc l => match h.g l with
    | some (.dic kvs) => match intsKV kvs with
      | some (q :: qs) => ifR (decide (((q :: qs).map (·.1)).Nodup)) (.ok (.int (bestP q qs).1) h)
      | _ => .bad
    | _ => .bad
  | _ => .bad
def eMaxK (i : Nat) : ME := fun σ h => match σ[i]? with
  | some (some x) => maxK x h
  | _ => .bad
section
variable {E : XE} {σ : Env} {h : Hm} {Q : D → Hm → Prop} {a : ME} {QI : It → Hm → Prop}
theorem ev_iEnumT (q : Ev E (a σ h) fun x h1 => ∃ xs, x = .tup xs ∧ QI ⟨numbered 0 xs, fun _ => true⟩ h1) : Ev E (iEnumX a σ h) QI := ev_bind (q.mono fun x h1 ⟨xs, e, w⟩ => by subst e; exact w)
theorem ev_iEnumS {x : D} {xs : List D} (q : Ev E (a σ h) fun y h1 => y = x ∧ h1.seq x = some xs ∧ QI ⟨numbered 0 xs, fun h' => decide (h'.seq x = some xs)⟩ h1) : Ev E (iEnumX a σ h) QI := ev_bind (q.mono fun y h1 ⟨e, e2, w⟩ => by
  subst e
  cases y with
  | tup ds => cases e2
  | _ => simp only [e2]; exact w)
theorem ev_iRevT (q : Ev E (a σ h) fun x h1 => ∃ xs, x = .tup xs ∧ QI ⟨xs.reverse, fun _ => true⟩ h1) : Ev E (iRevX a σ h) QI := ev_bind (q.mono fun x h1 ⟨xs, e, w⟩ => by subst e; exact w)
theorem ev_iRevK (q : Ev E (a σ h) fun x h1 => ∃ xs, x = .kl xs ∧ QI ⟨xs.reverse, fun h' => true⟩ h1) : Ev E (iRevX a σ h) QI := ev_bind (q.mono fun x h1 ⟨xs, e, w⟩ => by
  subst e
  have e : (fun h' : Hm => decide (h'.seq (.kl xs) = some xs)) = fun _ => true := funext fun h' => decide_eq_true rfl
  show Ev E (R.ok ⟨xs.reverse, fun h' => decide (h'.seq (.kl xs) = some xs)⟩ h1) QI
  rw [e]
  exact w)
theorem ev_eEnumL (q : Ev E (a σ h) fun x h1 => Ev E (enumL x h1) Q) : Ev E (eEnumL a σ h) Q := ev_bind q
theorem ev_enumL {xs : List D} (k : xs.length ≤ SL) (q : Q (.kl (numbered 0 xs)) h) : Ev E (enumL (.tup xs) h) Q := ev_ifR (decide_eq_true k) q
theorem ev_eLenSet (q : Ev E (a σ h) fun x h1 => Ev E (lenSetR x h1) Q) : Ev E (eLenSet a σ h) Q := ev_bind q
theorem ev_lenSetT {ks : List Int} (k : ks.length < MSET) (q : Q (.int (sortU ks).length) h) : Ev E (lenSetR (.tup (ks.map .int)) h) Q := by
  unfold lenSetR lenInts
  simp only [intsOf_map]
  exact ev_ifR (decide_eq_true k) q
theorem ev_lenSetL {x : D} {ks : List Int} (e : h.seq x = some (ks.map .int)) (k : ks.length < MSET) (q : Q (.int (sortU ks).length) h) : Ev E (lenSetR x h) Q := by
  cases x with
  | tup ds => cases e
  | _ =>
    unfold lenSetR lenInts
    simp only [e, intsOf_map]
    exact ev_ifR (decide_eq_true k) q
theorem intsKV_map : ∀ is : List (Int × Int), intsKV (is.map fun q => (.inl q.1, .int q.2)) = some is
  | [] => rfl
  | q :: is => by
    show (intsKV (is.map fun q => ((.inl q.1 : Key), D.int q.2))).map _ = _
    rw [intsKV_map is]
    rfl
theorem ev_maxK {i l : Nat} {q : Int × Int} {qs : List (Int × Int)} (e : σ[i]? = some (some (.loc l))) (e2 : h.g l = some (.dic ((q :: qs).map fun q => (.inl q.1, .int q.2)))) (nd : ((q :: qs).map (·.1)).Nodup) (w : Q (.int (bestP q qs).1) h) : Ev E (eMaxK i σ h) Q := by
  unfold eMaxK
  rw [e]
  show Ev E (maxK (.loc l) h) Q
  unfold maxK
  simp only [e2, intsKV_map]
  exact ev_ifR (decide_eq_true nd) w
end
end Mo
end
section
/-! Readings: enumerate of a tuple, reversed. -/
namespace Mo
open PySem L2 PyProof.Rows
set_option maxHeartbeats 1000000 in
theorem meets_enum1B {v : Value} {o : Obj} {H : Heap → Prop} (B : Begins v o H) :
    Meets (Builtin.«enumerate.__new__» ⟨[.type "enumerate", v], []⟩) (fun _ R s => H s.heap ∧
      R (.ok (.ret (.ref (s.heap.push o).objs.size))) { s with heap := (s.heap.push o).push { cls := .type "enumerate", data := .fields #[.none, .bool false, .ref s.heap.objs.size, rawInt 0, .none, .none] } }) :=
  .of_wp fun prog w A R s h => by
    obtain ⟨hp, g, d, tk, os⟩ := s; obtain ⟨h1, h⟩ := h
    have hsub := sub_enumerate
    have q1 : ∀ {A' : Around} {E : Value → Shared → Prop} {Q : Value → Shared → Prop}, Q (.ref hp.objs.size) ⟨hp.push o, g, d, tk, os⟩ → wpAny (model prog w) A' (pyIter v) Q E ⟨hp, g, d, tk, os⟩ :=
      fun q => B.iter prog w _ _ ⟨hp, g, d, tk, os⟩ _ h1 q
    wp_walk using q1
    refine wpAny_stack_any fun st => wpAny_pure ?_
    split
    · rename_i c _ _ _ _ _
      cases (c == Value.type "enumerate")
      · wp_walk using q1
        exact ⟨_, rfl, h⟩
      · wp_walk using q1
        exact ⟨_, rfl, h⟩
    · wp_walk using q1
      exact ⟨_, rfl, h⟩
section
variable {prog : Program} {w : World} {A : Around} {E : Value → Shared → Prop} {s : Shared}
theorem enum1_begins {v : Value} {o : Obj} {H : Heap → Prop} {Q : Value → Shared → Prop} (B : Begins v o H) (h1 : H s.heap)
    (h : ∀ h', IsEnum h' (s.heap.objs.size + 1) s.heap.objs.size 0 .none → h'.get? s.heap.objs.size = some o → h'.objs.size = s.heap.objs.size + 2 →
      (∀ b o, s.heap.get? b = some o → h'.get? b = some o) → Q (.ref (s.heap.objs.size + 1)) { s with heap := h' }) :
    wpAny (model prog w) A (call (.type "enumerate") [v]) Q E s := by
  refine callType_new F.called_enumerate (by decide) (F.typeCall_enumerate_1 _) (F.newCall_enumerate_1 _) (fun obj => F.args_object_init_2 obj _) F.entry_enumerate_new
    (meets_enum1B B) ⟨h1, ?_⟩
  have hz : (s.heap.push o).objs.size = s.heap.objs.size + 1 := Heap.size_push ..
  show _ ∧ _
  rw [hz]
  have he : IsEnum ((s.heap.push o).push { cls := .type "enumerate", data := .fields #[.none, .bool false, .ref s.heap.objs.size, rawInt 0, .none, .none] }) (s.heap.objs.size + 1) s.heap.objs.size 0 .none := by
    have := Heap.get?_push_size (s.heap.push o) (o := { cls := .type "enumerate", data := .fields #[.none, .bool false, .ref s.heap.objs.size, rawInt 0, .none, .none] }) rfl
    rw [hz] at this; exact this
  refine ⟨⟨_, he, rfl⟩, h _ he (Heap.get?_push_of_some _ (Heap.get?_push_size _ B.free)) (by rw [Heap.size_push, hz]) fun b o x => Heap.get?_push_of_some _ (Heap.get?_push_of_some _ x)⟩
theorem enumT_end {e it t : Addr} {i : Nat} {items : Array Value} {k : Int} {old : Value} {Q : Option Value → Shared → Prop} (hh : A.handled = none)
    (he : IsEnum s.heap e it k old) (hit : s.heap.IsTupleIter it t i) (ht : s.heap.IsTuple t items) (hx : items[i]? = none)
    (hQ : ∀ h', Heap.ExtBut it s.heap h' → Q none { s with heap := h' }) : wpAny (model prog w) A (pyNext (.ref e)) Q E s := by
  have hT : s.TypeIs (.ref e) "enumerate" := ⟨_, he, rfl⟩
  unfold pyNext
  refine wpAny_bind (wpAny_attempt (wpAny_callSpecial?_slot (name := Str.ofString "__next__") hT F.slot_enumerate_next
    (wpAny_call_entry F.slot_enumerate_next hT F.entry_enumerate_next ?_ (F.args_enumerate_next_1 _))))
  show wpAny _ _ (field (.ref e) 2 >>= _) _ _ _
  refine wpAny_bind (wpAny_field he rfl (x := .ref it) rfl ?_)
  refine wpAny_bind (wpAny_nextOf_tuple_end hh hit ht hx fun h' x he' hx' => ?_)
  obtain ⟨o, ho, hc⟩ := hx'
  refine wpAny_bind (wpAny_isInstance (T := "StopIteration") (b := true) ⟨o, ho, hc⟩ isSubtype_stop ?_)
  exact wpAny_pure (hQ _ he')
end
/-- the tuple at a, each item in a new pair -/
def IteT (K : PySem.W.Frag) (a : Addr) : L2.It :=
  ⟨fun i H => ∃ (xs : List V) (x : V), SqT K H a xs ∧ xs[i]? = some x, fun i H v H' => ∃ T x, v = .ref T ∧ H T = none ∧ H' = upd H T (.tup [.int (i : Nat), x]) ∧ ∀ xs, SqT K H a xs → xs[i]? = some x, fun i H => ∃ xs : List V, SqT K H a xs ∧ xs.length ≤ i⟩
theorem turn_enumT {P : Program} {w : World} {K : PySem.W.Frag} {elts : List Expr} {kk : Nat} {tpos : Pos} (a e it : Addr) :
    Turn P w K (.Tuple elts kk tpos) (IteT K a) [e, it] e (fun i h => (∃ old, IsEnum h e it ((i : Nat) : Int) old) ∧ h.IsTupleIter it a i ∧ e ≠ it ∧ a ≠ e ∧ a ≠ it) where
  mem := by simp
  obj := fun i h st b hb => by
    obtain ⟨⟨old, he⟩, ⟨o, ho, hc, hd⟩, _⟩ := st
    have e' : b = e ∨ b = it := by simpa using hb
    rcases e' with z | z
    · rw [z]; exact ⟨_, he, fun v q => nomatch q⟩
    · rw [z]; exact ⟨o, ho, fun v q => by rw [hd] at q; cases q⟩
  keep := fun i h h' st k => let ⟨⟨old, he⟩, hi, hne⟩ := st; ⟨⟨old, k e (by simp) _ he⟩, hi.at fun o q => k it (by simp) o q, hne⟩
  item := by
    intro X hP hw hK hc i pins s σ H E I hf st hg
    subst hP hw hK
    obtain ⟨⟨old, he⟩, hit, hne, hae, hai⟩ := st
    obtain ⟨xs, x, hq, hx⟩ := hg
    obtain ⟨its, rv, p, hz⟩ := I.tuple hq
    obtain ⟨u, hu, ru⟩ := rv.get hx
    have hel : e < s.heap.objs.size := Heap.lt_size he
    have hil : it < s.heap.objs.size := by obtain ⟨_, q, _⟩ := hit; exact Heap.lt_size q
    have hil2 : i < its.toArray.size := by
      have := (List.getElem?_eq_some_iff.mp hu).1
      simpa using this
    refine wpAny_pyNext_enum_itemD (Draws.tuple (A := X.A.in1) (I.ok.hd hc) it a hai its.toArray) he ⟨hit, p⟩ hil2 hne (by simp; exact ⟨hne, Ne.symm hae⟩) fun u' h' tk hu' ho st' hT hsz hk => ?_
    have eu : u' = u := by
      have hu' : its.toArray[i]? = some u' := hu'
      rw [List.getElem?_toArray, hu] at hu'
      exact (Option.some.inj hu').symm
    subst eu
    refine ⟨_, rfl, wpAny_letOwnedTupleGo_enum (s := { s with heap := h', toks := tk + 1 }) ho fun h'' he' sb => ?_⟩
    have hT2 : h''.get? s.heap.objs.size = some { cls := .type "tuple", data := .seq #[.int i tk, u'] } := (sb.2 _ (Nat.ne_of_gt hel)).trans hT
    have new : ObjOk X.prog X.w (upd H s.heap.objs.size (.tup [.int (i : Nat), x])) h'' s.heap.objs.size (.tup [.int (i : Nat), x]) :=
      ⟨by show 2 ≤ sizeLine; decide, [.int i tk, u'], .cons ⟨_, rfl⟩ (.cons ru .nil), ⟨_, hT2, rfl, _, rfl⟩⟩
    have I1 : Inv X pins σ (upd H s.heap.objs.size (.tup [.int (i : Nat), x])) { s with heap := h'', toks := tk + 1 } :=
      I.turnedNew (ch := [e, it]) (fun b ob hb q => (sb.2 b (fun z => hb (by simp [z]))).trans (hk b ob (fun z => hb (by simp [z])) (fun z => hb (by simp [z])) q)) hf (Nat.le_refl _) new
    refine ⟨.ref s.heap.objs.size, _, I1, rfl, ⟨_, x, rfl, I.hok.fresh (Nat.le_refl _), rfl, fun ys hy => by rw [I.tuple_inj hy hq]; exact hx⟩, ⟨⟨u', ?_⟩, st'.1.at fun o q => (sb.2 it (Ne.symm hne)).trans q, hne, hae, hai⟩, fun b hb => ?_⟩
    · have e1 : ((i + 1 : Nat) : Int) = (i : Int) + 1 := by omega
      rw [e1]; exact he'
    · have hb' : b < s.heap.objs.size := by
        have e' : b = e ∨ b = it := by simpa using hb
        rcases e' with z | z
        · rw [z]; exact hel
        · rw [z]; exact hil
      rw [upd_ne (Nat.ne_of_lt hb')]
      exact (hf b hb).1
  done := by
    intro X hP hw hK hc i pins s σ H E I hf st hg
    subst hP hw hK
    obtain ⟨⟨old, he⟩, hit, hne, hae, hai⟩ := st
    obtain ⟨xs, hq, hx⟩ := hg
    obtain ⟨its, rv, p, hz⟩ := I.tuple hq
    obtain ⟨f0, f1, f2, f3, f4, f5⟩ := hf it (by simp)
    have hl := rv.length
    exact enumT_end (I.ok.hd hc) he hit (show s.heap.IsTuple a its.toArray from p) (by simp; omega) fun h' eb => ⟨rfl, I.turned (t' := s.toks) (fun b o hb q => eb b o hb q) f0 f1 f3 f4 f5⟩
  self := fun A i s Q E st h => let ⟨⟨_, he⟩, _⟩ := st; wpAny_pyIter_enum he h
def wEnumT (K : PySem.W.Frag) (ta : TA) : TI := fun σ H R => ta σ H fun vs H1 => ∃ a, vs = [.ref a] ∧ (∃ xs, SqT K H1 a xs) ∧ R (IteT K a) H1
theorem pi_enumT {X : Cx} {e : Expr} {ta : TA} {p pos tpos : Pos} {elts : List Expr} {kk : Nat} (hg : Gl X "enumerate") (hm : X.mg "enumerate" = none) (ha : PA X [e] ta) (hs : starEach [e] X.env = [(false, eval e X.env)] := by rfl) :
    PI X (.Tuple elts kk tpos) (.Call (.Name "enumerate" p) [e] [] pos) (wEnumT X.K ta) := by
  refine ⟨fun pins s σ H R I h => ?_⟩
  refine Call_ (ld_blt I hg hm boot_enumerate (PyProof.Rows.callWith_type1 (thn (ha.run pos pins s σ H _ I h) fun us s1 ⟨vs, H1, I1, r1, q1⟩ => ?_) hs rfl))
  obtain ⟨a, ex, ⟨xs, hq⟩, q⟩ := q1
  subst ex
  cases r1 with
  | cons r rr =>
    cases rr
    cases r
    obtain ⟨its, rv, p', hz⟩ := I1.tuple hq
    have hal : a < s1.heap.objs.size := by
      obtain ⟨o, ho, _⟩ := (show s1.heap.IsTuple a its.toArray from p')
      exact Heap.lt_size ho
    refine enum1_begins (begins_tuple a its.toArray) p' fun h' he hit hsz hk => wpAny_pyIter_enum he ?_
    have I2 : Inv X pins σ H1 { s1 with heap := h' } := I1.kept (t' := s1.toks) hk
    refine ⟨s1.heap.objs.size + 1, [s1.heap.objs.size + 1, s1.heap.objs.size], _, _, H1, rfl, I2, turn_enumT a (s1.heap.objs.size + 1) s1.heap.objs.size, ⟨⟨.none, he⟩, ⟨_, hit, rfl, rfl⟩, Nat.succ_ne_self _, Nat.ne_of_lt (Nat.lt_succ_of_lt hal), Nat.ne_of_lt hal⟩, fun b hb => ?_, q⟩
    have e' : b = s1.heap.objs.size + 1 ∨ b = s1.heap.objs.size := by simpa using hb
    have hle : s1.heap.objs.size ≤ b := by
      rcases e' with z | z
      · rw [z]; exact Nat.le_add_right _ _
      · rw [z]; exact Nat.le_refl _
    exact I1.fpOk hle (I1.hok.fresh hle)
end Mo
end
section
/-! Readings for M: enumerate(x), reversed(x), x a list or a tuple. -/
namespace Mo
open PySem L2 PyProof.Rows RT
section
variable {G : Gm} {E : WM} {X : Cx} {a tg : Expr} {ma : ME} {p pos : Pos}
theorem yld_enumT {ρ : List Addr} {H : Hp} {p : Addr} {vs : List V} {xs : List D} (h1 : SqT G.K H p vs) (h2 : VRels G ρ H vs xs) : Yld G (IteT G.K p) ⟨numbered 0 xs, fun _ => true⟩ ρ H := by
  refine ⟨fun ρ' H' h i g r e hi => ?_, fun ρ' H' h i g r e hi => ?_, fun ρ' H' h i y H2 g r e yl d ed => ?_⟩
  · have hi : i < (numbered 0 xs).length := hi
    rw [numbered_len] at hi
    have hi' : i < vs.length := by rw [h2.length]; exact hi
    exact ⟨vs, vs[i], g.ext.sqT h1, by simp [hi']⟩
  · have hi : (numbered 0 xs).length ≤ i := hi
    rw [numbered_len] at hi
    exact ⟨vs, g.ext.sqT h1, by rw [h2.length]; exact hi⟩
  · obtain ⟨T, z, e2, hT, e3, yl⟩ := yl
    subst e2 e3
    have ed : (numbered 0 xs)[i]? = some d := ed
    rw [numbered_get] at ed
    obtain ⟨w, e4, e5⟩ := Option.map_eq_some_iff.mp ed
    subst e5
    obtain ⟨v, e6, k3⟩ := h2.get e4
    have e7 := yl vs (g.ext.sqT h1)
    rw [e6] at e7
    rw [Option.some.inj e7] at k3
    have g2 := Grow.tmp (ρ := ρ') hT (.tup [.int (i : Nat), z])
    refine ⟨ρ', g2, r.tmp hT _, .tup (SqT.of upd_same) (.cons ?_ (.cons ((k3.grow g).grow g2) .nil))⟩
    have e8 : (0 + i : Nat) = i := Nat.zero_add i
    rw [e8]
    exact .int _
theorem mi_enumX {elts : List Expr} {kk : Nat} {tpos : Pos} (hK : X.K = G.K) (hg : Gl X "enumerate") (hm : X.mg "enumerate" = none) (ha : PA X [a] (rdA G E (aCons ma aNil))) (hs : starEach [a] X.env = [(false, eval a X.env)] := by rfl) : PI X (.Tuple elts kk tpos) (.Call (.Name "enumerate" p) [a] [] pos) (rdI G E (iEnumX ma)) :=
  pi_w (pi_or (pi_enum hg hm ha hs) (pi_enumT hg hm ha hs)) fun σ H R ⟨ρ, env, h, hs, hr, w⟩ => by
    rw [hK]
    unfold iEnumX at w
    cases e : ma env h with
    | bad => rw [e] at w; exact False.elim w
    | exc c fs h1 =>
      rw [e] at w
      exact .inl ⟨ρ, env, h, hs, hr, by unfold aCons aNil; rw [e]; exact w⟩
    | ok x h1 =>
      rw [e] at w
      by_cases ht : ∃ ds, x = .tup ds
      · obtain ⟨ds, rfl⟩ := ht
        refine .inr ⟨ρ, env, h, hs, hr, ?_⟩
        unfold aCons aNil
        rw [e]
        refine fun ρ1 H1 vs g1 r1 q1 => ?_
        obtain ⟨v, rfl, k⟩ := vs1 q1
        cases k with
        | tup k1 k2 => exact ⟨_, rfl, ⟨_, k1⟩, Wp.val (Wp.grow g1 w) r1 (yld_enumT k1 k2)⟩
      · have w : Wp G (atW E σ) (fun ρ' H' J it => Yld G J it ρ' H') (match h1.seq x with | some xs => .ok ⟨numbered 0 xs, fun h' => decide (h'.seq x = some xs)⟩ h1 | none => .bad) ρ H R := by
          cases x <;> first | exact w | exact (ht ⟨_, rfl⟩).elim
        refine .inl ⟨ρ, env, h, hs, hr, ?_⟩
        unfold aCons aNil
        rw [e]
        refine fun ρ1 H1 vs g1 r1 q1 => ?_
        obtain ⟨v, rfl, k⟩ := vs1 q1
        split at w
        · rename_i xs e1
          obtain ⟨p, vs, rfl, k1, k2⟩ := r1.seqL e1 k
          exact ⟨p, vs, rfl, k1, Wp.val (Wp.grow g1 w) r1 (yld_enum k)⟩
        · exact False.elim w
theorem rev_get {α : Type} {xs : List α} {i : Nat} {x : α} (e : xs.reverse[i]? = some x) : i < xs.length ∧ xs[xs.length - 1 - i]? = some x := by
  have hi := (List.getElem?_eq_some_iff.mp e).1
  rw [List.length_reverse] at hi
  rw [List.getElem?_reverse hi] at e
  exact ⟨hi, e⟩
theorem yld_revL {ρ : List Addr} {H : Hp} {x : D} {p : Addr} {xs : List D} (q : VRel G ρ H (.ref p) x) : Yld G (Itv G.K p xs.length) ⟨xs.reverse, fun h' => decide (h'.seq x = some xs)⟩ ρ H := by
  have at' : ∀ {ρ' : List Addr} {H' : Hp} {h : Hm}, Grow ρ H ρ' H' → HRel G ρ' H' h → decide (h.seq x = some xs) = true → ∃ vs, SqL G.K H' p vs ∧ VRels G ρ' H' vs xs := fun g r e => by
    obtain ⟨a, vs, e1, k1, k2⟩ := r.seqL (of_decide_eq_true e) (q.grow g)
    cases e1
    exact ⟨vs, k1, k2⟩
  refine ⟨fun ρ' H' h i g r e hi => ?_, fun ρ' H' h i g r e hi => ?_, fun ρ' H' h i y H2 g r e yl d ed => ?_⟩
  · obtain ⟨vs, k1, k2⟩ := at' g r e
    have hi : i < xs.reverse.length := hi
    rw [List.length_reverse] at hi
    have hl := k2.length
    exact ⟨hi, vs, vs[xs.length - 1 - i]'(by omega), k1, List.getElem?_eq_getElem _⟩
  · have hi : xs.reverse.length ≤ i := hi
    rw [List.length_reverse] at hi
    exact hi
  · obtain ⟨vs, k1, k2⟩ := at' g r e
    obtain ⟨e2, yl⟩ := yl
    subst e2
    obtain ⟨hi, ed⟩ := rev_get ed
    obtain ⟨v, e3, k3⟩ := k2.get ed
    have e4 := yl vs k1
    rw [e3] at e4
    cases e4
    exact ⟨ρ', Grow.refl _ _, r, k3⟩
theorem yld_revT {ρ : List Addr} {H : Hp} {p : Addr} {vs : List V} {xs : List D} (h1 : SqT G.K H p vs) (h2 : VRels G ρ H vs xs) : Yld G (ItvT G.K p xs.length) ⟨xs.reverse, fun _ => true⟩ ρ H := by
  refine ⟨fun ρ' H' h i g r e hi => ?_, fun ρ' H' h i g r e hi => ?_, fun ρ' H' h i y H2 g r e yl d ed => ?_⟩
  · have hi : i < xs.reverse.length := hi
    rw [List.length_reverse] at hi
    have hl := h2.length
    exact ⟨hi, vs, vs[xs.length - 1 - i]'(by omega), g.ext.sqT h1, List.getElem?_eq_getElem _⟩
  · have hi : xs.reverse.length ≤ i := hi
    rw [List.length_reverse] at hi
    exact hi
  · obtain ⟨e2, yl⟩ := yl
    subst e2
    obtain ⟨hi, ed⟩ := rev_get ed
    obtain ⟨v, e3, k3⟩ := h2.get ed
    have e4 := yl vs (g.ext.sqT h1)
    rw [e3] at e4
    cases e4
    exact ⟨ρ', Grow.refl _ _, r, k3.grow g⟩
theorem mi_revX (hK : X.K = G.K) (hg : Gl X "reversed") (hm : X.mg "reversed" = none) (ha : PE X a (rd G E ma)) (hs : starEach [a] X.env = (false, eval a X.env) :: starEach [] X.env := by rfl) : PI X tg (.Call (.Name "reversed" p) [a] [] pos) (rdI G E (iRevX ma)) :=
  pi_w (pi_revA hg hm ha hs) fun σ H R ⟨ρ, env, h, hs, hr, w⟩ => by
    rw [hK]
    refine ⟨ρ, env, h, hs, hr, ?_⟩
    unfold iRevX at w
    cases e : ma env h with
    | bad => rw [e] at w; exact False.elim w
    | exc c fs h1 => rw [e] at w; exact w
    | ok x h1 =>
      rw [e] at w
      by_cases ht : ∃ ds, x = .tup ds
      · obtain ⟨ds, rfl⟩ := ht
        intro ρ1 H1 v g1 r1 q1
        cases q1 with
        | tup k1 k2 =>
          refine ⟨_, _, rfl, .inr ⟨k1, ?_⟩⟩
          rw [k2.length]
          exact Wp.val (Wp.grow g1 w) r1 (yld_revT k1 k2)
      · have w : Wp G (atW E σ) (fun ρ' H' J it => Yld G J it ρ' H') (match h1.seq x with | some xs => .ok ⟨xs.reverse, fun h' => decide (h'.seq x = some xs)⟩ h1 | none => .bad) ρ H R := by
          cases x <;> first | exact w | exact (ht ⟨_, rfl⟩).elim
        intro ρ1 H1 v g1 r1 q1
        split at w
        · rename_i xs e1
          obtain ⟨p, vs, rfl, k1, k2⟩ := r1.seqL e1 q1
          refine ⟨p, vs, rfl, .inl ⟨k1, ?_⟩⟩
          rw [k2.length]
          exact Wp.val (Wp.grow g1 w) r1 (yld_revL q1)
        · exact False.elim w
end
end Mo
end
section
/-! list(enumerate(x)), x a tuple. -/
namespace Mo
open PySem L2 PyProof.Rows PySem.W
section
variable {prog : Program} {w : World} {A : Around} {E : Value → Shared → Prop} {s : Shared}
/-- the next pair, the one before still held -/
theorem heldT_item {e it t T : Addr} {i : Nat} {items : Array Value} {x old : Value} {f : Bool} {oT : Obj} {Q : Option Value → Shared → Prop}
    (he : IsEnumHeld s.heap e it i old T f) (hT : s.heap.get? T = some oT) (hTe : T ≠ e) (hTi : T ≠ it) (hit : s.heap.IsTupleIter it t i) (hl : s.heap.IsTuple t items) (hx : items[i]? = some x) (hne : e ≠ it)
    (hQ : ∀ h', IsEnumHeld h' e it ((i : Int) + 1) old T true → h'.IsTupleIter it t (i + 1) →
      h'.get? s.heap.objs.size = some { cls := .type "tuple", data := .seq #[.int i s.toks, x] } → h'.objs.size = s.heap.objs.size + 1 →
      (∀ b o, b ≠ e → b ≠ it → s.heap.get? b = some o → h'.get? b = some o) → Q (some (.ref s.heap.objs.size)) { s with heap := h', toks := s.toks + 1 }) :
    wpAny (model prog w) A (pyNext (.ref e)) Q E s := by
  have hTy : s.TypeIs (.ref e) "enumerate" := ⟨_, he, rfl⟩
  unfold pyNext
  refine wpAny_bind (wpAny_attempt (wpAny_callSpecial?_slot (name := Str.ofString "__next__") hTy F.slot_enumerate_next
    (wpAny_call_entry F.slot_enumerate_next hTy F.entry_enumerate_next ?_ (F.args_enumerate_next_1 _))))
  obtain ⟨hp, g, d, tk, os⟩ := s
  show wpAny _ _ (field (.ref e) 2 >>= _) _ _ _
  refine wpAny_bind (wpAny_field he rfl (x := .ref it) rfl ?_)
  refine wpAny_bind (wpAny_nextOf_tuple_item hit hl hx fun a hitA sA => ?_)
  replace sA : Heap.SameBut it hp a := sA
  have heA : IsEnumHeld a e it i old T f := (sA.2 e hne).trans he
  show wpAny _ _ (field (.ref e) 3 >>= _) _ _ ⟨a, g, d, tk, os⟩
  refine wpAny_bind (wpAny_field heA rfl (x := rawInt i) rfl ?_)
  show wpAny _ _ (field (.ref e) 4 >>= _) _ _ ⟨a, g, d, tk, os⟩
  refine wpAny_bind (wpAny_field heA rfl (x := .none) rfl ?_)
  show wpAny _ _ (mkInt i >>= _) _ _ ⟨a, g, d, tk, os⟩
  refine wpAny_bind (wpAny_mkInt ?_)
  show wpAny _ _ (setField (.ref e) 3 (rawInt ((i : Int) + 1)) >>= _) _ _ ⟨a, g, d, tk + 1, os⟩
  refine wpAny_bind (wpAny_setField_rec heA (by simp) fun b heB sB => ?_)
  replace sB : Heap.SameBut e a b := sB
  replace heB : IsEnumHeld b e it ((i : Int) + 1) old T f := heB
  show wpAny _ _ (setField (.ref e) 4 .none >>= _) _ _ ⟨b, g, d, tk + 1, os⟩
  refine wpAny_bind (wpAny_setField_rec heB (by simp) fun c heC sC => ?_)
  replace sC : Heap.SameBut e b c := sC
  replace heC : IsEnumHeld c e it ((i : Int) + 1) old T f := heC
  show wpAny _ _ (newTuple [.int i tk, x] >>= _) _ _ ⟨c, g, d, tk + 1, os⟩
  refine wpAny_bind (wpAny_newTuple ?_)
  have heD : IsEnumHeld (c.push { cls := .type "tuple", data := .seq #[.int i tk, x] }) e it ((i : Int) + 1) old T f := Heap.get?_push_of_some _ heC
  have hel : e < hp.objs.size := Heap.lt_size he
  have hsz : c.objs.size = hp.objs.size := by rw [sC.1, sB.1, sA.1]
  have tD : (c.push { cls := .type "tuple", data := .seq #[.int i tk, x] }).get? hp.objs.size = some { cls := .type "tuple", data := .seq #[.int i tk, x] } := by rw [← hsz]; exact Heap.get?_push_size _ rfl
  have zD : (c.push { cls := .type "tuple", data := .seq #[.int i tk, x] }).objs.size = hp.objs.size + 1 := by rw [Heap.size_push, hsz]
  have kD : ∀ b' o, b' ≠ e → b' ≠ it → hp.get? b' = some o → (c.push { cls := .type "tuple", data := .seq #[.int i tk, x] }).get? b' = some o := fun b' o h1 h2 h3 =>
    Heap.get?_push_of_some _ (sC.extBut b' o h1 (sB.extBut b' o h1 (sA.extBut b' o h2 h3)))
  have iD : (c.push { cls := .type "tuple", data := .seq #[.int i tk, x] }).IsTupleIter it t (i + 1) :=
    hitA.at fun o z => Heap.get?_push_of_some _ (sC.extBut it o (Ne.symm hne) (sB.extBut it o (Ne.symm hne) z))
  rw [hsz]
  generalize c.push { cls := .type "tuple", data := .seq #[.int i tk, x] } = hD at heD tD zD kD iD
  show wpAny _ _ (Builtin.SmallTypes.ownedTupleIsFree (.ref e) >>= _) _ _ ⟨hD, g, d, tk + 1, os⟩
  refine wpAny_bind (wpAny_tupleHeld_enum (s := ⟨hD, g, d, tk + 1, os⟩) heD (kD T oT hTe hTi hT) fun h5 he5 s5 => ?_)
  replace s5 : Heap.SameBut e hD h5 := s5
  simp only [Bool.false_eq_true, if_false]
  refine wpAny_pure ⟨_, rfl, wpAny_pure (hQ h5 he5 (iD.at fun o z => s5.extBut it o (Ne.symm hne) z) (s5.extBut _ _ (Nat.ne_of_gt hel) tD) ?_ fun b' o h1 h2 z => s5.extBut b' o h1 (kD b' o h1 h2 z))⟩
  show h5.objs.size = hp.objs.size + 1
  rw [s5.1, zD]
theorem heldT_end {e it t T : Addr} {i : Nat} {items : Array Value} {k : Int} {old : Value} {f : Bool} {Q : Option Value → Shared → Prop} (hh : A.handled = none)
    (he : IsEnumHeld s.heap e it k old T f) (hit : s.heap.IsTupleIter it t i) (ht : s.heap.IsTuple t items) (hx : items[i]? = none)
    (hQ : ∀ h', Heap.ExtBut it s.heap h' → Q none { s with heap := h' }) : wpAny (model prog w) A (pyNext (.ref e)) Q E s := by
  have hT : s.TypeIs (.ref e) "enumerate" := ⟨_, he, rfl⟩
  unfold pyNext
  refine wpAny_bind (wpAny_attempt (wpAny_callSpecial?_slot (name := Str.ofString "__next__") hT F.slot_enumerate_next
    (wpAny_call_entry F.slot_enumerate_next hT F.entry_enumerate_next ?_ (F.args_enumerate_next_1 _))))
  show wpAny _ _ (field (.ref e) 2 >>= _) _ _ _
  refine wpAny_bind (wpAny_field he rfl (x := .ref it) rfl ?_)
  refine wpAny_bind (wpAny_nextOf_tuple_end hh hit ht hx fun h' x he' hx' => ?_)
  obtain ⟨o, ho, hc⟩ := hx'
  refine wpAny_bind (wpAny_isInstance (T := "StopIteration") (b := true) ⟨o, ho, hc⟩ isSubtype_stop ?_)
  exact wpAny_pure (hQ _ he')
/-- where list(enumerate(..)) stands before its turn i; S is the list that is being made -/
def EnSt (h : Heap) (e it t S : Addr) (items : Array Value) (i : Nat) : Prop :=
  h.IsTupleIter it t i ∧ h.IsTuple t items ∧ ((i = 0 ∧ ∃ old, IsEnum h e it 0 old) ∨ ∃ old T f oT, IsEnumHeld h e it i old T f ∧ h.get? T = some oT ∧ T ≠ e ∧ T ≠ it ∧ T ≠ S)
theorem EnSt.keep {h h' : Heap} {e it t S : Addr} {items : Array Value} {i : Nat} (x : EnSt h e it t S items i) (hk : ∀ b o, b ≠ S → h.get? b = some o → h'.get? b = some o) (h1 : e ≠ S) (h2 : it ≠ S) (h3 : t ≠ S) : EnSt h' e it t S items i := by
  obtain ⟨a, b, c⟩ := x
  refine ⟨a.at fun o z => hk it o h2 z, b.at fun o z => hk t o h3 z, ?_⟩
  rcases c with ⟨e0, old, c⟩ | ⟨old, T, f, oT, c, c1, c2, c3, c4⟩
  · exact .inl ⟨e0, old, hk e _ h1 c⟩
  · exact .inr ⟨old, T, f, oT, hk e _ h1 c, hk T _ c4 c1, c2, c3, c4⟩
theorem en_item {e it t S : Addr} {items : Array Value} {i : Nat} {x : Value} {Q : Option Value → Shared → Prop} (hh : A.handled = none) (st : EnSt s.heap e it t S items i) (hS : S < s.heap.objs.size) (hx : items[i]? = some x) (hne : e ≠ it) (hte : t ≠ e) (hti : t ≠ it)
    (hQ : ∀ h' tk tk', EnSt h' e it t S items (i + 1) → h'.get? s.heap.objs.size = some { cls := .type "tuple", data := .seq #[.int i tk, x] } → h'.objs.size = s.heap.objs.size + 1 →
      (∀ b o, b ≠ e → b ≠ it → s.heap.get? b = some o → h'.get? b = some o) → Q (some (.ref s.heap.objs.size)) { s with heap := h', toks := tk' }) :
    wpAny (model prog w) A (pyNext (.ref e)) Q E s := by
  obtain ⟨hit, ht, c⟩ := st
  have hel : e < s.heap.objs.size := by
    rcases c with ⟨_, old, c⟩ | ⟨old, T, f, oT, c, _⟩ <;> exact Heap.lt_size c
  have hil : it < s.heap.objs.size := by obtain ⟨_, q, _⟩ := hit; exact Heap.lt_size q
  have e1 : ((i + 1 : Nat) : Int) = (i : Int) + 1 := by omega
  rcases c with ⟨rfl, old, c⟩ | ⟨old, T, f, oT, c, c1, c2, c3, c4⟩
  · have hlt : 0 < items.size := (Array.getElem?_eq_some_iff.mp hx).1
    refine wpAny_pyNext_enum_itemD (Draws.tuple (A := A.in1) hh it t hti items) c ⟨hit, ht⟩ hlt hne (by simp; exact ⟨hne, Ne.symm hte⟩) fun u h' tk hu ho st' hT hsz hk => ?_
    have eu : u = x := by
      have hu : items[0]? = some u := hu
      rw [hx] at hu
      exact (Option.some.inj hu).symm
    subst eu
    refine hQ h' tk _ ⟨st'.1, st'.2, .inr ⟨u, s.heap.objs.size, false, _, ?_, hT, Nat.ne_of_gt hel, Nat.ne_of_gt hil, Nat.ne_of_gt hS⟩⟩ hT hsz hk
    rw [e1]
    exact ho
  · refine heldT_item c c1 c2 c3 hit ht hx hne fun h' he' hit' hT hsz hk => ?_
    refine hQ h' _ _ ⟨hit', ht.at fun o z => hk t o hte hti z, .inr ⟨old, T, true, oT, ?_, hk T oT c2 c3 c1, c2, c3, c4⟩⟩ hT hsz hk
    rw [e1]
    exact he'
theorem en_done {e it t S : Addr} {items : Array Value} {i : Nat} {Q : Option Value → Shared → Prop} (hh : A.handled = none) (st : EnSt s.heap e it t S items i) (hx : items[i]? = none)
    (hQ : ∀ h', Heap.ExtBut it s.heap h' → Q none { s with heap := h' }) : wpAny (model prog w) A (pyNext (.ref e)) Q E s := by
  obtain ⟨hit, ht, c⟩ := st
  rcases c with ⟨rfl, old, c⟩ | ⟨old, T, f, oT, c, c1, c2, c3, c4⟩
  · exact enumT_end hh c hit ht hx hQ
  · exact heldT_end hh c hit ht hx hQ
end
end Mo
end
section
set_option maxHeartbeats 1000000
/-! list(enumerate(x)), x a tuple: the list that is made. -/
namespace Mo
open PySem L2 PyProof.Rows PySem.W
structure EnG (items : Array Value) (lo : Addr) (h : Heap) (as : List Addr) : Prop where
  rise : as.Pairwise (· < ·)
  above : ∀ a ∈ as, lo < a
  pairs : ∀ (j : Nat) (a : Addr), as[j]? = some a → ∃ t x, items[j]? = some x ∧ h.get? a = some { cls := .type "tuple", data := .seq #[.int j t, x] }
theorem EnG.there {items : Array Value} {lo : Addr} {h : Heap} {as : List Addr} (g : EnG items lo h as) {a : Addr} (ha : a ∈ as) : a < h.objs.size := by
  obtain ⟨j, hj⟩ := List.mem_iff_getElem?.mp ha
  obtain ⟨_, _, _, e⟩ := g.pairs j a hj
  exact Heap.lt_size e
theorem EnG.low {items : Array Value} {lo lo' : Addr} {h : Heap} {as : List Addr} (g : EnG items lo h as) (hl : lo' ≤ lo) : EnG items lo' h as := ⟨g.rise, fun a ha => Nat.lt_of_le_of_lt hl (g.above a ha), g.pairs⟩
theorem en_nolen : typeLookup (.type "enumerate") "__len__" = pure none := by rw [typeLookup_type, builtinLookup_eq_fast]; kernel_rfl
theorem en_nohint : typeLookup (.type "enumerate") "__length_hint__" = pure none := by rw [typeLookup_type, builtinLookup_eq_fast]; kernel_rfl
section
variable {prog : Program} {w : World} {A : Around} {s : Shared} {items : Array Value}
theorem en_loop {R : Result → Shared → Prop} {S e it t : Addr} (hh : A.handled = none) (hSe : e < S) (hSi : it < S) (hSt : t < S) (hei : e ≠ it) (hte : t ≠ e) (hti : t ≠ it) (hn : items.size ≤ sizeLine) (res : Value) {h₁ : Heap}
    (hR : ∀ h' tk acc c as, (∀ b o, b ≠ S → b ≠ e → b ≠ it → h₁.get? b = some o → h'.get? b = some o) → h'.get? S = some { cls := .type "list", dict := none, data := .seq acc c, slots := #[] } → as.length = items.size → EnG items S h' as →
      acc.toList = as.map Value.ref → R (.ok (.ret res)) { s with heap := h', toks := tk }) :
    ∀ (k i : Nat) (h : Heap) (tk c : Nat) (acc : Array Value) (as : List Addr), items.size - i = k → i ≤ items.size → EnSt h e it t S items i → (∀ b o, b ≠ S → b ≠ e → b ≠ it → h₁.get? b = some o → h.get? b = some o) →
      h.get? S = some { cls := .type "list", dict := none, data := .seq acc c, slots := #[] } → acc.toList = as.map Value.ref → as.length = i → EnG items S h as →
      codeAny (model prog w) A (.builtin "list.extend.loop" ⟨[.ref S, .ref e, res], []⟩) R { s with heap := h, toks := tk } := by
  have hne : S ≠ e := Nat.ne_of_gt hSe
  intro k
  induction k with
  | zero =>
    intro i h tk c acc as hk hi hst hkeep hS hacc hal hG
    have hin : i = items.size := by omega
    refine codeAny_builtin PySem.F.entry_extend_loop ?_
    rw [Around.under_plainId PySem.F.plain_extend_loop _]
    show wpAny _ A.in1 (pyNext (.ref e) >>= _) _ _ _
    refine wpAny_bind (en_done (s := { s with heap := h, toks := tk }) (A := A.in1) hh hst (Array.getElem?_eq_none (by omega)) fun h' he => ?_)
    refine wpAny_pure (hR h' tk acc c as (fun b o h1 h2 h3 z => he b o h3 (hkeep b o h1 h2 h3 z)) (he S _ (Nat.ne_of_gt hSi) hS) (by omega) ⟨hG.rise, hG.above, fun j a hj => ?_⟩ hacc)
    obtain ⟨t', x, e1, e3⟩ := hG.pairs j a hj
    have := hG.above a (List.mem_of_getElem? hj)
    exact ⟨t', x, e1, he a _ (Nat.ne_of_gt (Nat.lt_trans hSi this)) e3⟩
  | succ k ih =>
    intro i h tk c acc as hk hi hst hkeep hS hacc hal hG
    have hlt : i < items.size := by omega
    obtain ⟨x, hx⟩ : ∃ p, items[i]? = some p := ⟨items[i], Array.getElem?_eq_getElem hlt⟩
    have hsz : acc.size = i := by rw [← Array.length_toList, hacc, List.length_map, hal]
    refine codeAny_builtin PySem.F.entry_extend_loop ?_
    rw [Around.under_plainId PySem.F.plain_extend_loop _]
    show wpAny _ A.in1 (pyNext (.ref e) >>= _) _ _ _
    refine wpAny_bind (en_item (s := { s with heap := h, toks := tk }) (A := A.in1) (S := S) hh hst (Heap.lt_size hS) hx hei hte hti fun h' tk1 tk2 hst' ht hz hkp => ?_)
    dsimp only at ht hz hkp ⊢
    have hS' := hkp S _ hne (Nat.ne_of_gt hSi) hS
    have up : ∀ b o, b ≠ S → h'.get? b = some o → (h'.update S (Obj.mapSeq (·.push (Value.ref h.objs.size)))).get? b = some o := fun b o hb z => (Heap.get?_update_other _ _ (Ne.symm hb)).trans z
    have hSl : S < h.objs.size := Heap.lt_size hS
    show wpAny _ A.in1 (updateSeq S (·.push (Value.ref h.objs.size)) >>= _) _ _ _
    refine wpAny_bind ?_
    refine wpAny_updateSeq hS' rfl (wpAny_pure ⟨plainId_quiet PySem.F.plain_extend_loop _, ih (i + 1) _ tk2 _ (acc.push (Value.ref h.objs.size)) (as ++ [h.objs.size]) (by omega) hlt (hst'.keep up (Ne.symm hne) (Nat.ne_of_lt hSi) (Nat.ne_of_lt hSt))
      (fun b o h1 h2 h3 z => up b o h1 (hkp b o h2 h3 (hkeep b o h1 h2 h3 z))) (Heap.get?_update_self _ hS' rfl) (by rw [Array.toList_push, hacc, List.map_append]; rfl) (by rw [List.length_append, hal]; rfl) ⟨?_, ?_, ?_⟩⟩) (by rw [hsz]; omega) (by show (acc.push (Value.ref h.objs.size)).size ≤ sizeLine + 1; rw [Array.size_push, hsz]; omega)
    · refine List.pairwise_append.mpr ⟨hG.rise, List.pairwise_singleton _ _, fun a ha b hb => ?_⟩
      rw [List.mem_singleton.mp hb]
      exact hG.there ha
    · intro a ha
      rcases List.mem_append.mp ha with ha | ha
      · exact hG.above a ha
      · rw [List.mem_singleton.mp ha]; exact hSl
    · intro j b hj
      rcases Nat.lt_trichotomy j as.length with h1 | h1 | h1
      · rw [List.getElem?_append_left h1] at hj
        obtain ⟨t', x', e1, e3⟩ := hG.pairs j b hj
        have hb := hG.above b (List.mem_of_getElem? hj)
        exact ⟨t', x', e1, up b _ (Nat.ne_of_gt hb) (hkp b _ (Nat.ne_of_gt (Nat.lt_trans hSe hb)) (Nat.ne_of_gt (Nat.lt_trans hSi hb)) e3)⟩
      · subst h1
        have hb : h.objs.size = b := by simpa using hj
        subst hb
        refine ⟨tk1, x, by rw [hal]; exact hx, up _ _ (Nat.ne_of_gt hSl) ?_⟩
        rw [hal]
        exact ht
      · have hnone : (as ++ [h.objs.size])[j]? = none := List.getElem?_eq_none (by rw [List.length_append, List.length_singleton]; omega)
        rw [hnone] at hj; cases hj
theorem en_hint {E : Value → Shared → Prop} {r : Addr} (hT : s.TypeIs (.ref r) "enumerate") {Q : Bool → Shared → Prop} (h : Q true s) : wpAny (model prog w) A (Builtin.List.listLengthHint (.ref r)) Q E s := by
  unfold Builtin.List.listLengthHint
  refine wpAny_bind (wpAny_specialOf hT en_nolen ?_)
  show wpAny _ _ (specialOf (Value.ref r) (Str.ofString "__length_hint__") >>= _) _ _ _
  refine wpAny_bind (wpAny_specialOf hT en_nohint ?_)
  exact wpAny_pure h
theorem en_extend {R : Result → Shared → Prop} {S e it t : Addr} (hh : A.handled = none) (hSe : e < S) (hSi : it < S) (hSt : t < S) (hei : e ≠ it) (hte : t ≠ e) (hti : t ≠ it) (he : ∃ old, IsEnum s.heap e it 0 old) (hit : s.heap.IsTupleIter it t 0) (ht : s.heap.IsTuple t items) (res : Value) (c₀ : Nat) (hS : s.heap.get? S = some { cls := .type "list", data := .seq #[] c₀ })
    (hR : ∀ h' tk acc c as, (∀ b o, b ≠ S → b ≠ e → b ≠ it → s.heap.get? b = some o → h'.get? b = some o) → h'.get? S = some { cls := .type "list", dict := none, data := .seq acc c, slots := #[] } → as.length = items.size → EnG items S h' as →
      acc.toList = as.map Value.ref → R (.ok (.ret res)) { s with heap := h', toks := tk }) (hn : items.size ≤ sizeLine) :
    wpAny (model prog w) A.in1 (Builtin.List.listExtendWith (.ref S) (.ref e) res)
      (fun fin s' => match fin with | .done f => R (.ok f) s' | .again c' => c'.quiet = true ∧ codeAny (model prog w) A c' R s') (fun e s' => R (.error e) s') s := by
  obtain ⟨old, he⟩ := he
  have key : ∀ (h : Heap) (c₁ tk : Nat), (∀ b o, b ≠ S → s.heap.get? b = some o → h.get? b = some o) →
      h.get? S = some { cls := .type "list", data := .seq #[] c₁ } → codeAny (model prog w) A (.builtin "list.extend.loop" ⟨[.ref S, .ref e, res], []⟩) R { s with heap := h, toks := tk } := by
    intro h c₁ tk hk hS₁
    refine en_loop (s := s) (h₁ := s.heap) hh hSe hSi hSt hei hte hti hn res (fun h' tk' acc c as hk' hS' hl hG hacc => hR h' tk' acc c as hk' hS' hl hG hacc)
      items.size 0 h tk c₁ #[] [] (Nat.sub_zero _) (Nat.zero_le _) ⟨hit.at fun o z => hk it o (Nat.ne_of_lt hSi) z, ht.at fun o z => hk t o (Nat.ne_of_lt hSt) z, .inl ⟨rfl, old, hk e _ (Nat.ne_of_lt hSe) he⟩⟩ (fun b o hb _ _ z => hk b o hb z) hS₁ rfl rfl
      ⟨List.Pairwise.nil, (fun _ ha => nomatch ha), (fun j a hj => by simp at hj)⟩
  have hT : s.TypeIs (.ref e) "enumerate" := ⟨_, he, rfl⟩
  unfold Builtin.List.listExtendWith
  refine wpAny_bind (wpAny_typeOf (T := "enumerate") hT ?_)
  have h1 : Builtin.List.listSameRef (.ref S) (.ref e) = false := by simp [Builtin.List.listSameRef, Nat.ne_of_gt hSe]
  have h2 : (Value.type "enumerate" == Value.type "list") = false := by decide
  have h3 : (Value.type "enumerate" == Value.type "tuple") = false := by decide
  simp only [h1, h2, h3, Bool.or_false, Bool.false_eq_true, if_false]
  refine wpAny_bind (wpAny_pyIter_enum he ?_)
  refine wpAny_bind (wpAny_holding (en_hint hT ?_))
  refine wpAny_ite_split (fun _ => ?_) (fun _ => wpAny_pure ⟨plainId_quiet PySem.F.plain_extend_loop _, key _ c₀ _ (fun b o _ z => z) hS⟩)
  refine wpAny_bind (wpAny_rule ?_)
  refine wpAny_bind ?_
  show wpAny _ _ (updateSeq S (·.push .none) >>= fun _ => updateSeq S (·.pop)) _ _ _
  refine wpAny_bind (wpAny_updateSeq hS rfl ?_)
  have hS₂ := Heap.get?_update_self (Obj.mapSeq (·.push Value.none)) hS rfl
  refine wpAny_updateSeq (hz := by seq_fits) hS₂ rfl ?_
  have hS₃ := Heap.get?_update_self (Obj.mapSeq (·.pop)) hS₂ rfl
  refine wpAny_pure ⟨plainId_quiet PySem.F.plain_extend_loop _, key _ _ _ (fun b o hb z => ?_) hS₃⟩
  exact (Heap.get?_update_other _ _ (Ne.symm hb)).trans ((Heap.get?_update_other _ _ (Ne.symm hb)).trans z)
theorem en_init {R : Result → Shared → Prop} {S e it t : Addr} (hh : A.handled = none) (hSe : e < S) (hSi : it < S) (hSt : t < S) (hei : e ≠ it) (hte : t ≠ e) (hti : t ≠ it) (he : ∃ old, IsEnum s.heap e it 0 old) (hit : s.heap.IsTupleIter it t 0) (ht : s.heap.IsTuple t items) (hS : s.heap.get? S = some { cls := .type "list", data := .seq #[] })
    (hR : ∀ h' tk acc c as, (∀ b o, b ≠ S → b ≠ e → b ≠ it → s.heap.get? b = some o → h'.get? b = some o) → h'.get? S = some { cls := .type "list", dict := none, data := .seq acc c, slots := #[] } → as.length = items.size → EnG items S h' as →
      acc.toList = as.map Value.ref → R (.ok (.ret .none)) { s with heap := h', toks := tk }) (hn : items.size ≤ sizeLine) :
    wpAny (model prog w) A.in1 (Builtin.«list.__init__» ⟨[.ref S, .ref e], []⟩)
      (fun fin s' => match fin with | .done f => R (.ok f) s' | .again c' => c'.quiet = true ∧ codeAny (model prog w) A c' R s') (fun e s' => R (.error e) s') s := by
  show wpAny _ _ (do let old ← Builtin.List.listItems (.ref S); Builtin.List.listUpdate (.ref S) (fun _ => #[]); letGo old.toList.reverse; Builtin.List.listExtendWith (.ref S) (.ref e) .none) _ _ s
  refine wpAny_bind ?_
  unfold Builtin.List.listItems
  refine wpAny_bind (wpAny_seqItems hS rfl (wpAny_pure ?_))
  show wpAny _ _ (updateSeq S (fun _ => #[]) >>= fun _ => letGo (#[] : Array Value).toList.reverse >>= fun _ => Builtin.List.listExtendWith (.ref S) (.ref e) .none) _ _ s
  refine wpAny_bind (wpAny_updateSeq hS rfl ?_)
  have hS₂ := Heap.get?_update_self (Obj.mapSeq (fun _ => (#[] : Array Value))) hS rfl
  have oth : ∀ b o, b ≠ S → s.heap.get? b = some o → (s.heap.update S (Obj.mapSeq (fun _ => (#[] : Array Value)))).get? b = some o :=
    fun b o hb z => (Heap.get?_update_other _ _ (Ne.symm hb)).trans z
  refine wpAny_bind (wpAny_letGo ?_)
  obtain ⟨old, he⟩ := he
  refine en_extend hh hSe hSi hSt hei hte hti ⟨old, oth e _ (Nat.ne_of_lt hSe) he⟩ (hit.at fun o z => oth it o (Nat.ne_of_lt hSi) z) (ht.at fun o z => oth t o (Nat.ne_of_lt hSt) z) .none _ hS₂ (fun h' tk acc c as hk hS' hl hG hacc => ?_) hn
  exact hR h' tk acc c as (fun b o hb h2 h3 z => hk b o hb h2 h3 (oth b o hb z)) hS' hl hG hacc
theorem en_call {E Q : Value → Shared → Prop} {e it t : Addr} (hh : A.handled = none) (hei : e ≠ it) (hte : t ≠ e) (hti : t ≠ it) (he : ∃ old, IsEnum s.heap e it 0 old) (hit : s.heap.IsTupleIter it t 0) (ht : s.heap.IsTuple t items) (hn : items.size ≤ sizeLine)
    (hQ : ∀ h' tk acc c as, (∀ b o, b ≠ e → b ≠ it → s.heap.get? b = some o → h'.get? b = some o) → h'.get? s.heap.objs.size = some { cls := .type "list", dict := none, data := .seq acc c, slots := #[] } → as.length = items.size → EnG items s.heap.objs.size h' as →
      acc.toList = as.map Value.ref → Q (.ref s.heap.objs.size) { s with heap := h', toks := tk }) :
    wpAny (model prog w) A (call (.type "list") [.ref e]) Q E s := by
  refine callType_codes (Q₁ := fun obj s₁ => obj = .ref s.heap.objs.size ∧ s₁ = { s with heap := s.heap.push { cls := .type "list", data := .seq #[] } }) PySem.F.called_list (PySem.F.typeCall_list_1 _) PySem.F.entry_list_init
    (code_list_new _ ⟨rfl, rfl⟩) fun obj s₁ h₁ => ?_
  obtain ⟨rfl, rfl⟩ := h₁
  have hS : (s.heap.push { cls := .type "list", data := .seq #[] }).get? s.heap.objs.size = some { cls := .type "list", data := .seq #[] } := Heap.get?_push_size _ rfl
  have hel : e < s.heap.objs.size := let ⟨_, ho⟩ := he; Heap.lt_size ho
  have hil : it < s.heap.objs.size := let ⟨_, ho, _⟩ := hit; Heap.lt_size ho
  have htl : t < s.heap.objs.size := let ⟨_, ho, _⟩ := ht; Heap.lt_size ho
  refine ⟨⟨_, hS, rfl⟩, PySem.F.args_list_init_2 _ _, en_init (A := A.in1) hh hel hil htl hei hte hti (let ⟨o, ho⟩ := he; ⟨o, Heap.get?_push_of_some _ ho⟩) (hit.at fun o z => Heap.get?_push_of_some _ z) (ht.at fun o z => Heap.get?_push_of_some _ z) hS (fun h' tk acc c as hk hS' hl hG hacc => ?_) hn⟩
  exact ⟨rfl, hQ h' tk acc c as (fun b o h2 h3 z => hk b o (Nat.ne_of_lt (Heap.lt_size z)) h2 h3 (Heap.get?_push_of_some _ z)) hS' hl hG hacc⟩
end
end Mo
end
section
set_option maxHeartbeats 1000000
/-! Readings: list(enumerate(x)), x a tuple. -/
namespace Mo
open PySem L2 PyProof.Rows He LiI
/-- things beside their numbers -/
def numV (k : Nat) : List V → List (L2.Key × V)
  | [] => []
  | x :: xs => (.inl (k : Int), x) :: numV (k + 1) xs
theorem numV_len : ∀ (xs : List V) (k : Nat), (numV k xs).length = xs.length
  | [], _ => rfl
  | x :: xs, k => congrArg (· + 1) (numV_len xs (k + 1))
theorem numV_get : ∀ {xs : List V} {k i : Nat} {q : L2.Key × V}, (numV k xs)[i]? = some q → q.1 = .inl ((k + i : Nat) : Int) ∧ xs[i]? = some q.2
  | [], k, i, q, e => by simp [numV] at e
  | x :: xs, k, 0, q, e => by
    have e : some ((.inl (k : Int), x) : L2.Key × V) = some q := e
    cases e
    exact ⟨rfl, rfl⟩
  | x :: xs, k, i + 1, q, e => by
    have e : (numV (k + 1) xs)[i]? = some q := e
    obtain ⟨e1, e2⟩ := numV_get e
    refine ⟨?_, e2⟩
    rw [e1]
    have : k + 1 + i = k + (i + 1) := by omega
    rw [this]
section
variable {X : Cx}
theorem en_laid {pins : List (Addr × Obj)} {σ : L2.St} {H : Hp} {s : Shared} {h' : Heap} {tk : Nat} {xs : List V} {its : List Value} {acc : Array Value} {c : Nat} {as : List Addr} {P : Addr} (I : Inv X pins σ H s) (hP : s.heap.objs.size ≤ P) (hz : xs.length ≤ sizeLine) (rv : Vals xs its)
    (hk : ∀ b o, s.heap.get? b = some o → h'.get? b = some o) (hS : h'.get? P = some { cls := .type "list", dict := none, data := .seq acc c, slots := #[] }) (hl : as.length = its.toArray.size) (hG : EnG its.toArray P h' as) (hacc : acc.toList = as.map Value.ref) :
    ∃ H' : Hp, (∀ b o, H b = some o → H' b = some o) ∧ H P = none ∧ (∀ t ∈ as, H t = none) ∧ P ∉ as ∧ H' P = some (.lst (as.map V.ref)) ∧ Paired (fun (t : Addr) (q : L2.Key × V) => H' t = some (.tup [kV q.1, q.2])) as (numV 0 xs) ∧ Inv X pins σ H' { s with heap := h', toks := tk } := by
  have lv := rv.length
  have hl' : as.length = its.length := by simpa using hl
  have hSn : P ∉ as := fun z => Nat.lt_irrefl _ (hG.above _ z)
  have nd : as.Nodup := List.Pairwise.imp (fun {a b} (h : a < b) => Nat.ne_of_lt h) hG.rise
  have new : ∀ t ∈ as, H t = none := fun t ht => I.hok.fresh (Nat.le_of_lt (Nat.lt_of_le_of_lt hP (hG.above t ht)))
  have newS : H P = none := I.hok.fresh hP
  have atP := putT_at as (numV 0 xs) (upd H P (.lst (as.map V.ref))) (by rw [numV_len]; omega) nd
  have off : ∀ b, b ∉ as → b ≠ P → putT (upd H P (.lst (as.map V.ref))) as (numV 0 xs) b = H b := fun b h1 h2 => by rw [putT_off as _ _ h1, upd_ne h2]
  have low : ∀ b o, s.heap.get? b = some o → b ∉ as ∧ b ≠ P := fun b o e => ⟨fun z => absurd (Heap.lt_size e) (Nat.not_lt.mpr (Nat.le_of_lt (Nat.lt_of_le_of_lt hP (hG.above b z)))), Nat.ne_of_lt (Nat.lt_of_lt_of_le (Heap.lt_size e) hP)⟩
  have kp : ∀ b u, H b = some u → (putT (upd H P (.lst (as.map V.ref))) as (numV 0 xs)) b = some u := fun b u e => by
    rw [off b (fun z => by rw [new b z] at e; cases e) (fun z => by rw [z, newS] at e; cases e)]
    exact e
  have eS : putT (upd H P (.lst (as.map V.ref))) as (numV 0 xs) P = some (.lst (as.map V.ref)) := by rw [putT_off as _ _ hSn, upd_same]
  refine ⟨putT (upd H P (.lst (as.map V.ref))) as (numV 0 xs), kp, newS, new, hSn, eS, atP, ?_⟩
  refine I.call' (ch := []) rfl ⟨fun b o q _ _ _ => hk b o q, fun b o q _ _ _ => ⟨o.slots, hk b o q⟩, fun b o q n _ => ?_, fun b o q _ => ⟨o, hk b o q⟩, fun b xs q => kp b _ q, fun b o u q => kp b _ q, fun b ps q => ⟨#[], by rw [kp b _ q]; simp⟩⟩ (fun b u q => ?_) I.bare fun b z => by simp at z
  · obtain ⟨z1, z2⟩ := low b o q
    rw [off b z1 z2]
    exact n
  · by_cases hb : b ∈ as
    · obtain ⟨j, pk, e1, e2, e3⟩ := paired_ix atP hb
      rw [e3] at q
      cases q
      obtain ⟨t, x, f1, f3⟩ := hG.pairs j b e1
      obtain ⟨g1, g2⟩ := numV_get e2
      have f1 : its[j]? = some x := by simpa using f1
      obtain ⟨u, g3, g4⟩ := rv.get g2
      rw [f1] at g3
      cases g3
      have rk : RelV (kV pk.1) (.int (j : Nat) t) := by
        rw [g1, Nat.zero_add]
        exact ⟨_, rfl⟩
      exact ⟨by show 2 ≤ sizeLine; decide, [.int (j : Nat) t, x], .cons rk (.cons g4 .nil), ⟨_, f3, rfl, _, rfl⟩⟩
    · by_cases hb2 : b = P
      · rw [hb2] at q ⊢
        rw [eS] at q
        cases q
        refine ⟨by rw [List.length_map]; omega, acc.toList, c, by rw [hacc]; exact L2.vals_refs as, ?_⟩
        rw [Array.toArray_toList]
        exact hS
      · rw [off b hb hb2] at q
        exact (I.hok b u q).stay (fun d v _ y => hk d v y) (fun d y => kp d _ y) fun d xs y => kp d _ y
def tListEnum (K : PySem.W.Frag) (te : TE) : TE := fun σ H Q => te σ H fun v H1 => ∃ (a : Addr) (xs : List V), v = .ref a ∧ SqT K H1 a xs ∧
  ∀ (H' : Hp) (p : Addr) (ts : List Addr), (∀ b o, H1 b = some o → H' b = some o) → H1 p = none → (∀ t ∈ ts, H1 t = none) → p ∉ ts → H' p = some (.lst (ts.map V.ref)) → Paired (fun (t : Addr) (q : L2.Key × V) => H' t = some (.tup [kV q.1, q.2])) ts (numV 0 xs) → Q (.ref p) H'
theorem pe_listEnum {e : Expr} {te : TE} {p p2 pos pos2 : Pos} (hc : X.calm = true) (hg : Gl X "list") (hm : X.mg "list" = none) (hg2 : Gl X "enumerate") (hm2 : X.mg "enumerate" = none) (he : PE X e te)
    (hs : starEach [e] X.env = (false, eval e X.env) :: starEach [] X.env := by rfl)
    (hs2 : starEach [.Call (.Name "enumerate" p2) [e] [] pos2] X.env = (false, eval (.Call (.Name "enumerate" p2) [e] [] pos2) X.env) :: starEach [] X.env := by rfl) :
    PE X (.Call (.Name "list" p) [.Call (.Name "enumerate" p2) [e] [] pos2] [] pos) (tListEnum X.K te) := by
  refine ⟨fun pins s σ H Q I h => ?_⟩
  refine Call_ (ld_blt I hg hm boot_list (PyProof.Rows.callWith_type1 (args_cons (Call_ (ld_blt I hg2 hm2 boot_enumerate (PyProof.Rows.callWith_type1 (args_cons (thn (he.run pins s σ H _ I h) fun u s1 ⟨v, H1, I1, r1, q1⟩ => args_nil ?_) hs) hs rfl))) hs2) hs2 rfl))
  obtain ⟨a, xs, ev, hq, q⟩ := q1
  subst ev
  obtain rfl : u = Value.ref a := r1
  obtain ⟨its, rv, p', hz⟩ := I1.tuple hq
  have hal : a < s1.heap.objs.size := by
    obtain ⟨o, ho, _⟩ := (show s1.heap.IsTuple a its.toArray from p')
    exact Heap.lt_size ho
  have lv := rv.length
  refine enum1_begins (begins_tuple a its.toArray) p' fun h1 he1 hit1 hsz1 hk1 => args_nil ?_
  have ht1 : h1.IsTuple a its.toArray := (show s1.heap.IsTuple a its.toArray from p').at fun o z => hk1 a o z
  refine en_call (s := { s1 with heap := h1 }) (I1.ok.hd hc) (Nat.succ_ne_self _) (Nat.ne_of_lt (Nat.lt_succ_of_lt hal)) (Nat.ne_of_lt hal) ⟨_, he1⟩ ⟨_, hit1, rfl, rfl⟩ ht1 (by simp; omega) fun h2 tk acc c as hk hS hl hG hacc => ?_
  have hkk : ∀ b o, s1.heap.get? b = some o → h2.get? b = some o := fun b o z => hk b o (Nat.ne_of_lt (Nat.lt_succ_of_lt (Heap.lt_size z))) (Nat.ne_of_lt (Heap.lt_size z)) (hk1 b o z)
  obtain ⟨H', k1, k2, k3, k4, k5, k6, J⟩ := en_laid (tk := tk) I1 (by show s1.heap.objs.size ≤ h1.objs.size; rw [hsz1]; exact Nat.le_add_right _ _) hz rv hkk hS hl hG hacc
  exact ⟨.ref _, H', J, rfl, q H' _ as k1 k2 k3 k4 k5 k6⟩
end
section
variable {G : Gm} {E : WM} {X : Cx} {ρ : List Addr} {H H' : Hp} {h : Hm}
theorem enum_rel : ∀ {vs : List V} {ds : List D} {ts : List Addr} {k : Nat}, VRels G ρ H vs ds → Paired (fun (t : Addr) (q : L2.Key × V) => H t = some (.tup [kV q.1, q.2])) ts (numV k vs) → VRels G ρ H (ts.map V.ref) (numbered k ds)
  | _, _, _, _, .nil, .nil => .nil
  | _, _, _, _, .cons h t, .cons e es => .cons (.tup (SqT.of e) (.cons (.int _) (.cons h .nil))) (enum_rel t es)
theorem me_enumL {a : Expr} {ma : ME} {p p2 pos pos2 : Pos} (hK : X.K = G.K) (hc : X.calm = true) (hg : Gl X "list") (hm : X.mg "list" = none) (hg2 : Gl X "enumerate") (hm2 : X.mg "enumerate" = none) (ha : PE X a (rd G E ma))
    (hs : starEach [a] X.env = (false, eval a X.env) :: starEach [] X.env := by rfl)
    (hs2 : starEach [.Call (.Name "enumerate" p2) [a] [] pos2] X.env = (false, eval (.Call (.Name "enumerate" p2) [a] [] pos2) X.env) :: starEach [] X.env := by rfl) :
    PE X (.Call (.Name "list" p) [.Call (.Name "enumerate" p2) [a] [] pos2] [] pos) (rd G E (eEnumL ma)) :=
  pe_w (pe_frz (pe_listEnum hc hg hm hg2 hm2 ha hs hs2)) fun σ H Q ⟨ρ, env, h, hs, hr, w⟩ => ⟨ρ, env, h, hs, hr, w.seq fun x h1 ρ1 H1 v g1 r1 q1 w1 => by
    unfold enumL at w1
    split at w1 <;> first | exact False.elim w1 | skip
    obtain ⟨c, w1⟩ := Wp.ifR w1
    cases q1 with
    | @tup b vs _ hb n =>
      refine ⟨b, vs, rfl, by rw [hK]; exact hb, fun H' p ts k1 k2 k3 k4 k5 k6 => ⟨p, _, rfl, k5, fun o => ?_⟩⟩
      have kk : ∀ b o', H1 b = some o' → upd H' p (.frz o (.lst (ts.map V.ref))) b = some o' := fun b o' e' => by
        rw [upd_ne (ne_of_none e' k2)]
        exact k1 b o' e'
      have n2 : VRels G ρ1 (upd H' p (.frz o (.lst (ts.map V.ref)))) vs _ := n.grow (Grow.keeps kk)
      have k7 : Paired (fun (t : Addr) (q : L2.Key × V) => upd H' p (.frz o (.lst (ts.map V.ref))) t = some (.tup [kV q.1, q.2])) ts (numV 0 vs) := by
        have go : ∀ {ts : List Addr} {kvs : List (L2.Key × V)}, p ∉ ts → Paired (fun (t : Addr) (q : L2.Key × V) => H' t = some (.tup [kV q.1, q.2])) ts kvs → ∀ o xs, Paired (fun (t : Addr) (q : L2.Key × V) => upd H' p (.frz o (.lst xs)) t = some (.tup [kV q.1, q.2])) ts kvs := by
          intro ts kvs m q
          induction q with
          | nil => exact fun _ _ => .nil
          | @cons t q ts kvs e _ ih =>
            intro o xs
            refine .cons ?_ (ih (fun z => m (List.mem_cons_of_mem _ z)) o xs)
            rw [upd_ne (fun z => m (by rw [← z]; exact List.mem_cons_self))]
            exact e
        exact go k4 k6 o _
      exact w1 ρ1 _ _ (Grow.keeps kk) (r1.keeps kk) (.kl (.inl ⟨o, upd_same⟩) (enum_rel n2 k7))⟩
end
end Mo
end
section
/-! Readings: len(set(x)), x ints. -/
namespace Mo
open PySem L2 PyProof.Rows He
section
variable {G : Gm} {E : WM} {X : Cx} {a : Expr} {ma : ME} {x y : Str} {p p2 pos pos2 : Pos}
theorem call_setX (hc : X.calm = true) : CallR X (.type "set") (fun xs H Q => ∃ (l : Addr) (ns : List Int), xs = [V.ref l] ∧ (LX X.K H l (ns.map V.int) ∨ SqT X.K H l (ns.map V.int)) ∧ ns.length < MSET ∧ ∀ (a : Addr) (c : Nat), H a = none → Q (.ref a) (upd H a (SetO X.w a (fun j => decide (j ∈ ns)) c))) := by
  intro pins s σ H xs us Q I r h
  obtain ⟨l, ns, rfl, hl, hn, q⟩ := h
  rw [Vals.ref1 r]
  rcases hl with hl | hl
  · obtain ⟨_, its, n, rv, len, e⟩ := lx_at I hl
    refine set_of_list ns (I.ok.hd hc) e (ints_of_vals rv) (by unfold MSET at hn; unfold scanBound; omega) fun h' tk c R k => ?_
    refine ⟨.ref s.heap.objs.size, upd H s.heap.objs.size (SetO X.w s.heap.objs.size (fun j => decide (j ∈ ns)) c), ?_, rfl, q _ _ I.fresh⟩
    exact I.laid (t' := tk) k (Nat.le_refl _) (setO_new R)
  · obtain ⟨its, rv, pt, hz⟩ := I.tuple hl
    have hi : IntsAre its.toArray.toList ns := ints_of_vals rv
    refine call_set_tupI ns (I.ok.hd hc) (show s.heap.IsTuple l its.toArray from pt) hi (by unfold MSET at hn; unfold scanBound; omega) fun h' tk c R hcn k => ?_
    refine ⟨.ref s.heap.objs.size, upd H s.heap.objs.size (SetO X.w s.heap.objs.size (fun j => decide (j ∈ ns)) c), ?_, rfl, q _ _ I.fresh⟩
    exact I.laid (t' := tk) k (Nat.le_refl _) (setO_new R)
theorem cr_lenSet (hc : X.calm = true) : CallR X (.builtin "len") (fun vs H Q => ∃ (a : Addr) (S : Int → Bool) (n : Nat) (ks : List Int), vs = [V.ref a] ∧ H a = some (SetO X.w a S n) ∧ (∀ k, S k = true ↔ k ∈ ks) ∧ (sortU ks).length ≤ 4000 ∧ Q (.int ((sortU ks).length : Nat)) H) := by
  intro pins s σ H xs us Q I r h
  obtain ⟨a, S, n, ks, rfl, ha, m, l, q⟩ := h
  have R := setO_get I ha
  have en := setO_len R m
  rw [Vals.ref1 r]
  obtain ⟨o, es, ep, t, ho, hex, hd, _, _, _, _, hf, hn, _⟩ := R
  have ez : es.size = (sortU ks).length := by rw [hn, en]
  exact call_len_set ho hex hd hf (by rw [ez]; omega) ⟨.int ((sortU ks).length : Nat), H, I.tok _, ⟨_, by rw [ez]⟩, q⟩
theorem me_lenSet (hc : X.calm = true) (hK : X.K = G.K) (hg : Gl X x) (hm : X.mg x = none) (hv : bootBuiltins x = some (.builtin "len")) (hg2 : Gl X y) (hm2 : X.mg y = none) (hv2 : bootBuiltins y = some (.type "set")) (ha : PE X a (rd G E ma)) (hn : x ≠ "__name__" := by decide) (hdb : (x == ("__debug__" : Str)) = false := by decide) (hn2 : y ≠ "__name__" := by decide) (hdb2 : (y == ("__debug__" : Str)) = false := by decide)
    (hs : starEach [a] X.env = (false, eval a X.env) :: starEach [] X.env := by rfl) (hpl : (backTo pos2 (starEach [] X.env)).any (·.1) = false := by rfl)
    (hs2 : starEach [.Call (.Name y p2) [a] [] pos2] X.env = (false, eval (.Call (.Name y p2) [a] [] pos2) X.env) :: starEach [] X.env := by rfl) (hpl2 : (backTo pos (starEach [] X.env)).any (·.1) = false := by rfl) :
    PE X (.Call (.Name x p) [.Call (.Name y p2) [a] [] pos2] [] pos) (rd G E (eLenSet ma)) :=
  pe_w (pe_callB (cr_lenSet hc) hg hm hv (pa_cons (pe_callTy (call_setX hc) hg2 hm2 hv2 (pa_cons ha pa_nil hs) hn2 hdb2 hs hpl) pa_nil hs2) hn hdb hs2 hpl2) fun σ H Q ⟨ρ, env, h, hs, hr, w⟩ => ⟨ρ, env, h, hs, hr, w.seq fun d h1 ρ1 H1 v g1 r1 q1 w1 => by
    have key : ∃ (l : Addr) (ks : List Int), v = .ref l ∧ (LX X.K H1 l (ks.map V.int) ∨ SqT X.K H1 l (ks.map V.int)) ∧ ks.length < MSET ∧ Wp G (atW E σ) (VRel G) (.ok (.int ((sortU ks).length : Nat)) h1) ρ1 H1 Q := by
      rw [hK]
      by_cases ht : ∃ ds, d = .tup ds
      · obtain ⟨ds, rfl⟩ := ht
        have w1 : Wp G (atW E σ) (VRel G) (lenInts ds h1) ρ1 H1 Q := w1
        unfold lenInts at w1
        split at w1 <;> first | exact False.elim w1 | skip
        rename_i ks e2
        obtain ⟨c1, w1⟩ := Wp.ifR w1
        rw [intsOf_eq e2] at q1
        cases q1 with
        | tup k1 k2 =>
          rw [ints_rel k2] at k1
          exact ⟨_, ks, rfl, .inr k1, of_decide_eq_true c1, w1⟩
      · have w1 : Wp G (atW E σ) (VRel G) (match h1.seq d with | some xs => lenInts xs h1 | none => .bad) ρ1 H1 Q := by
          cases d <;> first | exact w1 | exact (ht ⟨_, rfl⟩).elim
        split at w1 <;> first | exact False.elim w1 | skip
        rename_i xs e
        unfold lenInts at w1
        split at w1 <;> first | exact False.elim w1 | skip
        rename_i ks e2
        obtain ⟨c1, w1⟩ := Wp.ifR w1
        obtain ⟨l, us, rfl, hl, qs⟩ := seq_lx r1 e q1
        rw [intsOf_eq e2] at qs
        rw [ints_rel qs] at hl
        exact ⟨l, ks, rfl, .inl hl, of_decide_eq_true c1, w1⟩
    obtain ⟨l, ks, rfl, hl, c1, w1⟩ := key
    refine ⟨l, ks, rfl, hl, c1, fun a n ha => ?_⟩
    refine ⟨a, _, n, ks, rfl, upd_same, fun k => by simp, ?_, ?_⟩
    · have := sortU_le ks
      unfold MSET at c1
      omega
    exact w1 ρ1 _ _ (Grow.tmp (ρ := ρ1) ha (SetO X.w a (fun j => decide (j ∈ ks)) n)) (r1.tmp ha _) (.int _)⟩
end
end Mo
end
section
set_option maxHeartbeats 1000000
/-! max(d, key=lambda x: ..): the lambda's call. -/
namespace Mo
open PySem L2 PyProof.Rows He
section
variable {X : Cx} {pins : List (Addr × Obj)} {σ : L2.St} {H : Hp} {s : Shared} {params : Arguments} {body : Expr} {scope : Scope} {p : Str} {pi k : Nat}
theorem lam_run {A : Around} {f c' : Addr} {pm ctv : Value} {v0 : V} {u0 : Value} {t : TE} {Q : VK} {E' : XK} (I : Inv X pins σ H s) (L : LamS1 X.env.scope scope p) (nd : X.N.Nodup) (ep : X.N[pi]? = some p) (hA : A.frames = X.A.frames) (rg : RG (k + 1) A)
    (ef : H f = some (fix1 (lamO X params body scope pm c' ctv))) (ec : ∃ o, H c' = some (fix1 o) ∧ Cod (X.env.qual ++ "<lambda>") o)
    (hbind : ∀ (q : Str) (cl : List (Str × Addr)) (pm cv ctv u : Value), bindArgs (PySem.W.kla_fn "<lambda>" q params body scope cl pm cv ctv) ⟨[u], []⟩ = pure [(p, u)])
    (rv : RelV v0 u0) (hbody : PE (LamX.lamCx X A X.stack s H E' scope f c') body t) (ht : t (σ.set pi (some v0)) H Q) :
    codeAny (model X.prog X.w) A (.call (.ref f) ⟨[u0], []⟩) (CR (L2.CX X.prog X.w) X.stack X.prog X.w H s Q E') s := by
  have of3 := (I.hok f _ ef).1
  obtain ⟨oc, ec1, vs, tt, ec2, ec3⟩ := ec
  have oc3 := (I.hok c' _ ec1).1
  have e0 : Env0 X.prog X.w X.K X.mg X.base A X.stack s H := ⟨by rw [hA]; exact I.env0.frames, I.env0.mod, I.env0.bs, I.env0.bsz, I.env0.funs, I.env0.frf, I.env0.hok, I.env0.bare⟩
  refine PySem.W.kla_callFunE rg.r.depth of3 rfl L.co L.gen rfl ⟨c', oc, vs, tt, rfl, oc3, ec2, ec3⟩ ?_
  rw [hbind]
  refine wpAny_pure (wpAny_newFunctionEnv (fun y hy => L.nocell y hy) (fun y hy => by rw [List.mem_singleton.mp hy]; exact L.par) (fun h₁ hns hsb => ⟨I.nolimit.fresh _ hsb, ?_⟩) L.kind)
  have J := lam_go1 (A := A) (outs := X.stack) (E := E') (f := f) (c' := c') (tk := s.toks + ([(p, u0)] : List (Str × Value)).length) I L nd ep e0 rg.r.hd (Un.kept fun _ _ e => e) rv hns
    (fun b o e => hsb.extBut b o (Nat.ne_of_lt (Heap.lt_size e)) (Heap.get?_push_of_some _ e))
  refine PySem.W.kla_codeExpr (wpAny_mono (hbody.run [] _ _ H Q J ht) (fun v s4 hq => ?_) fun e s4 hq => hq)
  obtain ⟨w', H', J', rv, q⟩ := hq
  exact ⟨w', H', J'.os, J'.bare, J'.base, J'.hok, rv, q⟩
end
end Mo
end
section
set_option maxHeartbeats 1000000
/-! max(d, key=lambda x: ..), d a locked dict of ints. -/
namespace Mo
open PySem L2 PyProof.Rows He PySem.W
/-- the key of the i-th entry -/
def pdK (is : List (Int × Int)) (i : Nat) : PyData := .tuple [.int (is.getD i (0, 0)).2, .int (0 - (is.getD i (0, 0)).1)]
def btK (is : List (Int × Int)) (i j : Nat) : Bool := dataLt (pdK is j) (pdK is i)
/-- the key of the entry that max chooses -/
def bestK (is : List (Int × Int)) : Int := (is.getD (argBest (btK is) (is.length - 1)) (0, 0)).1
def entK (is : List (Int × Int)) : List (L2.Key × V) := is.map fun q => (.inl q.1, .int q.2)
section
variable {X : Cx} {pins : List (Addr × Obj)} {σ : L2.St} {Hf : Hp} {S I0 : Addr}
/-- what stays while max goes -/
def JK (X : Cx) (pins : List (Addr × Obj)) (σ : L2.St) (Hf : Hp) (S I0 : Addr) (s : Shared) : Prop :=
  ∃ H', Inv X pins σ H' s ∧ (∀ b o, Hf b = some o → H' b = some o) ∧ (∀ b u, H' b = some u → Hf b = some u ∨ (Hf b = none ∧ ∃ a c : Int, u = .tup [.int a, .int c])) ∧ H' S = none ∧ H' I0 = none
/-- a key that was told -/
def VK_ (X : Cx) (Hf : Hp) (S I0 : Addr) (is : List (Int × Int)) (i : Nat) (u : Value) (s : Shared) : Prop :=
  ∃ T t1 t2, u = .ref T ∧ IsTup s.heap T #[.int (is.getD i (0, 0)).2 t1, .int (0 - (is.getD i (0, 0)).1) t2] ∧ Hf T = none ∧ T ∉ frs X.stack ∧ T ≠ S ∧ T ≠ I0
theorem IsTup.reads {h : Heap} {T : Addr} {a c : Int} {t1 t2 : Tok} (x : IsTup h T #[.int a t1, .int c t2]) : ∃ as, Reads h (.ref T) (.tuple [.int a, .int c]) as := by
  obtain ⟨o, e1, e2, n, e3⟩ := x
  exact ⟨_, .tuple e1 e2 e3 (.cons (.int _ _) (.cons (.int _ _) .nil))⟩
theorem btw {A : Around} {s : Shared} {is : List (Int × Int)} {i j : Nat} {ki kj : Value} (un : A.units + 5 < cLine) (vi : VK_ X Hf S I0 is i ki s) (vj : VK_ X Hf S I0 is j kj s) {prog : Program} {w : World} {Q E : Value → Shared → Prop} (q : Q (.bool (btK is i j)) s) : wpAny (model prog w) A (richCompare .Gt ki kj) Q E s := by
  obtain ⟨T, t1, t2, rfl, x, _⟩ := vi
  obtain ⟨T', t1', t2', rfl, x', _⟩ := vj
  obtain ⟨as, r1⟩ := IsTup.reads x
  obtain ⟨bs, r2⟩ := IsTup.reads x'
  exact rcGt_alike (pdK is i) (pdK is j) A s _ _ as bs r1 r2 rfl (fun z => nomatch z) (Nat.lt_of_le_of_lt (Nat.add_le_add_left (show min (pdK is i).depth (pdK is j).depth ≤ 5 from Nat.le_trans (Nat.min_le_left _ _) (by
    unfold pdK
    simp [PyData.depth, PyData.depthAll])) _) un) prog w E Q q
theorem JK.moved {s s' : Shared} (x : JK X pins σ Hf S I0 s) (fS : FpOk X pins Hf S) (fI : FpOk X pins Hf I0) (m : Moved [S, I0] (fun a b => b = a) s s') : JK X pins σ Hf S I0 s' := by
  obtain ⟨H', I, k1, k2, nS, nI⟩ := x
  have ne : ∀ b u, H' b = some u → b ∉ [S, I0] := fun b u e z => by
    rcases List.mem_cons.mp z with z | z
    · rw [z, nS] at e
      cases e
    · rw [List.mem_singleton.mp z, nI] at e
      cases e
  refine ⟨H', I.call' (ch := [S, I0]) m.os ⟨fun b o e _ _ h => m.heap b o h e, fun b o e _ _ h => ⟨o.slots, m.heap b o h e⟩, fun b o _ n _ => n, fun b o e h => ⟨o, m.heap b o h e⟩, fun _ _ e => e, fun _ _ _ e => e, fun b ps e => ⟨#[], by rw [e]; simp⟩⟩ (fun b u e => ?_) (by rw [m.gens]; exact I.bare) (fun b z => ?_), k1, k2, nS, nI⟩
  · refine (I.hok b u e).stay (fun c v hc q => m.heap c v ?_ q) (fun _ q => q) fun _ _ q => q
    rcases hc with z | z
    · rw [z]
      exact ne b u e
    · exact ne c _ z
  · rcases List.mem_cons.mp z with e | e
    · rw [e]
      obtain ⟨_, f1, _, f3, f4, f5⟩ := fS
      exact ⟨f3, f1, f4, f5⟩
    · rw [List.mem_singleton.mp e]
      obtain ⟨_, f1, _, f3, f4, f5⟩ := fI
      exact ⟨f3, f1, f4, f5⟩
theorem VK_.moved {s s' : Shared} {is : List (Int × Int)} {i : Nat} {u : Value} (x : VK_ X Hf S I0 is i u s) (m : Moved [S, I0] (fun a b => b = a) s s') : VK_ X Hf S I0 is i u s' := by
  obtain ⟨T, t1, t2, e, ⟨o, e1, e2⟩, n, f, a, b⟩ := x
  exact ⟨T, t1, t2, e, ⟨o, m.heap T o (by simp; exact ⟨a, b⟩) e1, e2⟩, n, f, a, b⟩
end
end Mo
end
section
set_option maxHeartbeats 1000000
/-! max(d, key=lambda x: ..), d a locked dict of ints: a turn. -/
namespace Mo
open PySem L2 PyProof.Rows He PySem.W
theorem vals2 {a c : Int} {its : List Value} (r : Vals [.int a, .int c] its) : ∃ t1 t2, its = [.int a t1, .int c t2] := by
  cases r with
  | cons r1 r2 =>
    cases r2 with
    | cons r3 r4 =>
      cases r4
      obtain ⟨t1, rfl⟩ := r1
      obtain ⟨t2, rfl⟩ := r3
      exact ⟨t1, t2, rfl⟩
theorem istup_inj {h : Heap} {T : Addr} {xs ys : Array Value} (x : IsTup h T xs) (y : IsTup h T ys) : xs = ys := by
  obtain ⟨o, e1, e2, n, e3⟩ := x
  obtain ⟨o', f1, f2, n', f3⟩ := y
  rw [e1] at f1
  cases f1
  rw [e3] at f3
  cases f3
  rfl
section
variable {X : Cx} {pins : List (Addr × Obj)} {σ : L2.St} {Hf : Hp} {S I0 d f c' : Addr} {od : Obj} {is : List (Int × Int)} {vs : List (L2.Key × Value)} {ep0 k pi : Nat} {p : Str} {params : Arguments} {body : Expr} {scope : Scope} {pm ctv : Value} {tb : TE}
theorem key_run (L : LamS1 X.env.scope scope p) (nd : X.N.Nodup) (ep : X.N[pi]? = some p) (rg : RG (k + 2) X.A) (hd : Hf d = some (.frz od (.dK (entK is)))) (kv : KV (entK is) vs)
    (ef : Hf f = some (fix1 (lamO X params body scope pm c' ctv))) (ec : ∃ o, Hf c' = some (fix1 o) ∧ Cod (X.env.qual ++ "<lambda>") o)
    (hbind : ∀ (q : Str) (cl : List (Str × Addr)) (pm cv ctv u : Value), bindArgs (PySem.W.kla_fn "<lambda>" q params body scope cl pm cv ctv) ⟨[u], []⟩ = pure [(p, u)])
    (hbody : ∀ (s : Shared) (H : Hp) (E' : XK), PE (LamX.lamCx X X.A.in1 X.stack s H E' scope f c') body tb)
    (htb : ∀ (i : Nat) (a c : Int) (H' : Hp) (Q' : VK), is[i]? = some (a, c) → H' d = some (.frz od (.dK (entK is))) → (∀ T, H' T = none → Q' (.ref T) (upd H' T (.tup [.int c, .int (0 - a)]))) → tb (σ.set pi (some (.int a))) H' Q')
    (fS : FpOk X pins Hf S) (fI : FpOk X pins Hf I0) :
    KeyRun X.prog X.w X.A.in1 (.ref f) .Gt S [I0] (fun a b => b = a) vs.length (fun i v => ∃ k x, vs[i]? = some (k, x) ∧ (mixKind X.prog X.w).is k v = true)
      (fun i s => s.heap.IsKeyIter I0 d i vs.length ep0 ∧ s.heap.DictAt (mixKind X.prog X.w) d vs ep0) (JK X pins σ Hf S I0) (VK_ X Hf S I0 is) (btK is) where
  keep := fun s s' x m => x.moved fS fI m
  keepV := fun i u s s' x m => x.moved m
  cmp := fun i j ki kj s Q E _ vi vj q => btw (A := X.A.in1) (by have := rg.r.un; show X.A.units + 1 + 5 < _; omega) vi vj q
  turn := by
    intro i v s o Q E hi hP hJ hSt hS q
    obtain ⟨H', I, k1, k2, nS, nI⟩ := hJ
    obtain ⟨kk, xx, ex, ek⟩ := hP
    have lis : (entK is).length = vs.length := Paired.length kv
    have li : i < is.length := by
      unfold entK at lis
      rw [List.length_map] at lis
      omega
    obtain ⟨⟨a, c⟩, e0⟩ : ∃ y, is[i]? = some y := ⟨is[i], List.getElem?_eq_getElem li⟩
    have e1 : (entK is)[i]? = some (.inl a, .int c) := by
      unfold entK
      rw [List.getElem?_map, e0]
      rfl
    obtain ⟨y, e2, e3, _⟩ := LiI.paired_get kv e1
    rw [ex] at e2
    cases e2
    have e3 : (Sum.inl a : L2.Key) = kk := e3
    subst e3
    have rv : RelV (.int a) v := relV_key (k := .inl a) ek
    have hd' := k1 _ _ hd
    have gd : is.getD i (0, 0) = (a, c) := by rw [List.getD_eq_getElem?_getD, e0]; rfl
    refine wpAny_call (codeAny_mono (lam_run (A := X.A.in1) (Q := fun v H'' => ∃ T, v = .ref T ∧ H' T = none ∧ H'' = upd H' T (.tup [.int c, .int (0 - a)])) (E' := fun _ _ _ => False) I L nd ep rfl (rg_in1 rg) (k1 _ _ ef) (let ⟨o, q1, q2⟩ := ec; ⟨o, k1 _ _ q1, q2⟩) hbind rv (hbody _ _ _) (htb i a c H' _ e0 hd' fun T nT => ⟨T, rfl, nT, rfl⟩)) fun r s3 hq => ?_)
    cases r with
    | error e =>
      obtain ⟨_, _, _, _, _, _, _, _, _, _, _, _, ff⟩ := hq
      exact ff.elim
    | ok fl =>
      cases fl with
      | ret u =>
        obtain ⟨w, H'', os, bare, un, hok, rv2, T, ew, nT, eH⟩ := hq
        subst ew eH
        obtain rfl : u = Value.ref T := rv2
        have I2 : Inv X pins σ (upd H' T (.tup [.int c, .int (0 - a)])) s3 := I.call' (ch := []) os un hok bare (fun b z => by simp at z)
        have nf : ∀ b, FpOk X pins Hf b → b ∉ frs X.stack := fun b fb z => by
          obtain ⟨_, f1, f2, _⟩ := fb
          exact (List.mem_cons.mp (I.stkSub b z)).elim f1 f2
        obtain ⟨oI, hoI, hI2⟩ := id hSt.1
        have hd2 : (upd H' T (.tup [.int c, .int (0 - a)])) d = some (.frz od (.dK (entK is))) := by rw [upd_ne (ne_of_none hd' nT)]; exact hd'
        have gd1 := (I.hok d _ hd').1
        have gd2 := (I2.hok d _ hd2).1
        have nS2 := un.free S o hS nS (by simp)
        have nI2 := un.free I0 oI hoI nI (by simp)
        have neT : ∀ b, (upd H' T (.tup [.int c, .int (0 - a)])) b = none → T ≠ b := fun b z e => by
          rw [← e, upd_same] at z
          cases z
        have Tfr : T ∉ frs X.stack := fun z => by
          have := I2.stkFree T z
          rw [upd_same] at this
          cases this
        have HfT : Hf T = none := by
          cases e : Hf T with
          | none => rfl
          | some u => rw [k1 _ _ e] at nT; cases nT
        refine q (.ref T) s3 ⟨_, I2, fun b u e => ?_, fun b u e => ?_, nS2, nI2⟩ ⟨hSt.1.at fun o' e => un.keep I0 o' e nI (nf _ fI) (by simp), hSt.2.at' fun o' e => ?_⟩ (un.keep S o hS nS (nf _ fS) (by simp)) ?_ fun j k' vj => ?_
        · rw [upd_ne (ne_of_none (k1 b u e) nT)]
          exact k1 b u e
        · by_cases hb : b = T
          · subst hb
            rw [upd_same] at e
            cases e
            exact .inr ⟨HfT, _, _, rfl⟩
          · rw [upd_ne hb] at e
            exact k2 b u e
        · rw [gd1] at e
          cases e
          exact gd2
        · obtain ⟨_, its, vals, tup⟩ := I2.hok T _ upd_same
          obtain ⟨t1, t2, rfl⟩ := vals2 vals
          refine ⟨T, t1, t2, rfl, ?_, HfT, Tfr, neT S nS2, neT I0 nI2⟩
          rw [gd]
          exact tup
        · obtain ⟨T', t1, t2, e, x, n, fr, a1, b1⟩ := vj
          refine ⟨T', ?_⟩
          cases eT : H' T' with
          | none =>
            obtain ⟨o', q1, q2⟩ := x
            exact ⟨t1, t2, e, ⟨o', un.keep T' o' q1 eT fr (by simp), q2⟩, n, fr, a1, b1⟩
          | some u =>
            rcases k2 T' u eT with z | ⟨_, a', c2, rfl⟩
            · rw [n] at z
              cases z
            · obtain ⟨_, its, vals, tup⟩ := I.hok T' _ eT
              obtain ⟨s1, s2, rfl⟩ := vals2 vals
              have ee := istup_inj x tup
              have eT2 : (upd H' T (.tup [.int c, .int (0 - a)])) T' = some (.tup [.int a', .int c2]) := by rw [upd_ne (ne_of_none eT nT)]; exact eT
              obtain ⟨_, its2, vals2', tup2⟩ := I2.hok T' _ eT2
              obtain ⟨r1, r2, rfl⟩ := vals2 vals2'
              have ee : (#[.int (is.getD j (0, 0)).2 t1, .int (0 - (is.getD j (0, 0)).1) t2] : Array Value) = #[.int a' s1, .int c2 s2] := ee
              simp only [Array.mk.injEq, List.cons.injEq, Value.int.injEq, and_true] at ee
              obtain ⟨⟨m1, _⟩, m2, _⟩ := ee
              refine ⟨r1, r2, e, ?_, n, fr, a1, b1⟩
              rw [m1, m2]
              exact tup2
      | _ => exact (hq : False).elim
end
end Mo
end
section
set_option maxHeartbeats 1000000
/-! max(d, key=lambda x: ..), d a locked dict of ints: the call. -/
namespace Mo
open PySem L2 PyProof.Rows He PySem.W
section
variable {X : Cx} {pins : List (Addr × Obj)} {σ : L2.St} {Hf : Hp} {s : Shared} {d f c' : Addr} {od : Obj} {is : List (Int × Int)} {k pi : Nat} {p : Str} {params : Arguments} {body : Expr} {scope : Scope} {pm ctv : Value} {tb : TE}
theorem max_frz {Q : VK} (hc : X.calm = true) (I : Inv X pins σ Hf s) (L : LamS1 X.env.scope scope p) (nd : X.N.Nodup) (ep : X.N[pi]? = some p) (rg : RG (k + 2) X.A) (hd : Hf d = some (.frz od (.dK (entK is)))) (hne : is ≠ [])
    (ef : Hf f = some (fix1 (lamO X params body scope pm c' ctv))) (ec : ∃ o, Hf c' = some (fix1 o) ∧ Cod (X.env.qual ++ "<lambda>") o)
    (hbind : ∀ (q : Str) (cl : List (Str × Addr)) (pm cv ctv u : Value), bindArgs (PySem.W.kla_fn "<lambda>" q params body scope cl pm cv ctv) ⟨[u], []⟩ = pure [(p, u)])
    (hbody : ∀ (s : Shared) (H : Hp) (E' : XK), PE (LamX.lamCx X X.A.in1 X.stack s H E' scope f c') body tb)
    (htb : ∀ (i : Nat) (a c : Int) (H' : Hp) (Q' : VK), is[i]? = some (a, c) → H' d = some (.frz od (.dK (entK is))) → (∀ T, H' T = none → Q' (.ref T) (upd H' T (.tup [.int c, .int (0 - a)]))) → tb (σ.set pi (some (.int a))) H' Q')
    (q : ∀ H', (∀ b o, Hf b = some o → H' b = some o) → Q (.int (bestK is)) H') :
    wpAny (model X.prog X.w) X.A (call (.builtin "max") [.ref d] [(Str.ofString "key", .ref f)]) (EP X pins σ Q) X.xe s := by
  obtain ⟨hs, hgd, hx, es, ep0, vs, hdt, hsz, kv, hm⟩ := I.frzK hd
  have lis : (entK is).length = vs.length := Paired.length kv
  have lis2 : (entK is).length = is.length := List.length_map _
  have npos : 0 < vs.length := by
    have : is.length ≠ 0 := fun z => hne (List.length_eq_zero_iff.mp z)
    omega
  have hdl : d < s.heap.objs.size := Heap.lt_size hgd
  refine call_max_walkK (iter_keys (A := X.A.in1) hs hgd hx hdt ?_)
  have I2 : Inv X pins σ Hf { s with heap := s.heap.push { cls := .type "dict_keyiterator", data := .fields #[.ref d, .int 0 0, .int es.size 0, .int ep0 0] } } := I.kept (t' := s.toks) fun b o e => Heap.get?_push_of_some _ e
  have fI : FpOk X pins Hf s.heap.objs.size := I.fpOk (Nat.le_refl _) (I.hok.fresh (Nat.le_refl _))
  have fS : FpOk X pins Hf (s.heap.push { cls := .type "dict_keyiterator", data := .fields #[.ref d, .int 0 0, .int es.size 0, .int ep0 0] }).objs.size := I2.fpOk (Nat.le_refl _) (I2.hok.fresh (Nat.le_refl _))
  refine ⟨s.heap.objs.size, [s.heap.objs.size, d], [s.heap.objs.size], (fun a b => b = a), vs.length, _, _, JK X pins σ Hf (s.heap.push { cls := .type "dict_keyiterator", data := .fields #[.ref d, .int 0 0, .int es.size 0, .int ep0 0] }).objs.size s.heap.objs.size, VK_ X Hf (s.heap.push { cls := .type "dict_keyiterator", data := .fields #[.ref d, .int 0 0, .int es.size 0, .int ep0 0] }).objs.size s.heap.objs.size is, btK is, rfl, (Walks.dictKeys (A := X.A.in1) (knd := mixKind X.prog X.w) (I.ok.hd hc) s.heap.objs.size d (Nat.ne_of_lt hdl) vs ep0).toS, ⟨⟨_, Heap.get?_push_size _ rfl, rfl, ?_⟩, hm.push _⟩, fun b hb => ?_, npos, key_run L nd ep rg hd kv ef ec hbind hbody htb fS fI, ⟨Hf, I2, fun _ _ e => e, fun _ _ e => .inl e, fS.1, fI.1⟩, fun v s' hP hJ => ?_⟩
  · rw [hsz, lis] <;> rfl
  · have hz : (s.heap.push { cls := .type "dict_keyiterator", data := .fields #[.ref d, .int 0 0, .int es.size 0, .int ep0 0] }).objs.size = s.heap.objs.size + 1 := Heap.size_push ..
    show b < (s.heap.push _).objs.size
    rw [hz]
    rcases List.mem_cons.mp hb with e | e
    · rw [e]
      exact Nat.lt_succ_self _
    · rw [List.mem_singleton.mp e]
      exact Nat.lt_succ_of_lt hdl
  · obtain ⟨kk, xx, ex, ek⟩ := hP
    obtain ⟨H', I', k1, _⟩ := hJ
    have lb := (List.getElem?_eq_some_iff.mp ex).1
    have li : argBest (btK is) (vs.length - 1) < is.length := by omega
    obtain ⟨⟨a, c⟩, e0⟩ : ∃ y, is[argBest (btK is) (vs.length - 1)]? = some y := ⟨is[argBest (btK is) (vs.length - 1)], List.getElem?_eq_getElem li⟩
    have e1 : (entK is)[argBest (btK is) (vs.length - 1)]? = some (.inl a, .int c) := by
      unfold entK
      rw [List.getElem?_map, e0]
      rfl
    obtain ⟨y, e2, e3, _⟩ := LiI.paired_get kv e1
    rw [ex] at e2
    cases e2
    have e3 : (Sum.inl a : L2.Key) = kk := e3
    subst e3
    have eb : bestK is = a := by
      unfold bestK
      rw [show is.length - 1 = vs.length - 1 by omega, List.getD_eq_getElem?_getD, e0]
      rfl
    have rv : RelV (.int (bestK is)) v := by
      rw [eb]
      exact relV_key (k := .inl a) ek
    exact ⟨.int (bestK is), H', I', rv, q H' k1⟩
end
end Mo
end
section
set_option maxHeartbeats 1000000
/-! Readings for M: max(d, key=lambda x: (d[x], 0 - x)). -/
namespace Mo
open PySem L2 PyProof.Rows He PySem.W
theorem pairLt (a b c d : Int) : dataLt (.tuple [.int a, .int b]) (.tuple [.int c, .int d]) = (decide (a < c) || (decide (a = c) && decide (b < d))) := by
  rw [dataLt_tuple]
  have e := dataLt_ints [a, b] [c, d]
  unfold rowLt at e
  have e2 : ([a, b] < [c, d]) ↔ (a < c ∨ (a = c ∧ b < d)) := by
    rw [List.cons_lt_cons_iff]
    refine or_congr Iff.rfl (and_congr Iff.rfl ?_)
    rw [List.cons_lt_cons_iff]
    constructor
    · rintro (h | ⟨_, h⟩)
      · exact h
      · exact absurd h (List.not_lt_nil _)
    · exact .inl
  rw [show (decide (a < c) || (decide (a = c) && decide (b < d))) = decide ([a, b] < [c, d]) by
    rw [Bool.eq_iff_iff]
    simp only [Bool.or_eq_true, Bool.and_eq_true, decide_eq_true_eq]
    exact e2.symm]
  exact e
theorem bestK_eq (q : Int × Int) (qs : List (Int × Int)) : bestK (q :: qs) = (bestP q qs).1 := by
  have e : btK (q :: qs) = fun i j => gtK ((q :: qs).getD i (0, 0)) ((q :: qs).getD j (0, 0)) := by
    funext i j
    unfold btK pdK
    rw [pairLt]
    rfl
  unfold bestK
  rw [e]
  have z := (argBest_fold gtK (0, 0) q qs qs.length (Nat.le_refl _)).2
  rw [List.take_length] at z
  exact congrArg Prod.fst z
theorem valV_at : ∀ {is : List (Int × Int)} {i : Nat} {a c : Int}, (is.map (·.1)).Nodup → is[i]? = some (a, c) → valV (entK is) (.inl a) = some (.int c)
  | [], i, a, c, _, e => by simp at e
  | (k, v) :: is, 0, a, c, _, e => by
    cases e
    unfold valV entK
    simp
  | (k, v) :: is, i + 1, a, c, nd, e => by
    have e : is[i]? = some (a, c) := e
    have nd := List.nodup_cons.mp nd
    have ne : k ≠ a := fun z => nd.1 (by
      rw [z]
      exact List.mem_map.mpr ⟨(a, c), List.mem_of_getElem? e, rfl⟩)
    have ih := valV_at nd.2 e
    have hn : ¬ ((Sum.inl k : L2.Key) = .inl a) := fun z => ne (Sum.inl.inj z)
    unfold valV entK at ih ⊢
    rw [List.map_cons, List.find?_cons_of_neg (by simp [ne])]
    exact ih
section
variable {G : Gm} {E : WM} {X : Cx} {ρ : List Addr} {H H' : Hp} {h : Hm}
theorem nrel_ints : ∀ {kvs : List (L2.Key × V)} {kds : List (Key × D)} {is : List (Int × Int)}, NRel G ρ H kvs kds → intsKV kds = some is → kvs = entK is
  | _, _, _, .nil, e => by
    cases (show some [] = some _ from e)
    rfl
  | _, _, _, .cons (a := (k1, v1)) (b := (k2, d2)) hh t, e => by
    obtain ⟨h1, h2⟩ := hh
    have h1 : k1 = k2 := h1
    subst h1
    have h2 : VRel G ρ H v1 d2 := h2
    cases k1 with
    | inr z => cases (show none = some _ from e)
    | inl z =>
      cases d2 with
      | int y =>
        obtain ⟨js, e1, rfl⟩ := Option.map_eq_some_iff.mp (show (intsKV _).map _ = some _ from e)
        rw [nrel_ints t e1]
        cases h2
        rfl
      | _ => cases (show none = some _ from e)
theorem HRel.stays (r : HRel G ρ H h) (st : Stays H H') (lv : ∀ b o, H b = some o → ∃ o', H' b = some o') (tb : Tbs G.T H') : Grow ρ H ρ H' ∧ HRel G ρ H' h := by
  have g : Grow ρ H ρ H' := ⟨⟨[], by simp⟩, fun b xs e => st b _ e (fun _ z => nomatch z), fun b o u e => st b _ e (fun _ z => nomatch z), fun b o e n k => ⟨st b o e k, n⟩⟩
  refine ⟨g, r.len, r.inj, fun a m => ?_, fun l o e => ?_, tb, fun q hq => (r.root q hq).trans g.ext⟩
  · obtain ⟨o, e⟩ := r.has a m
    exact lv a o e
  · obtain ⟨a, e1, q⟩ := r.obj l o e
    refine ⟨a, e1, ?_⟩
    cases o with
    | lst ds => exact let ⟨vs, k1, k2⟩ := q; ⟨vs, st _ _ k1 (fun _ z => nomatch z), k2.grow g⟩
    | dic kds => exact let ⟨kvs, k1, k2⟩ := q; ⟨kvs, st _ _ k1 (fun _ z => nomatch z), k2.grow g⟩
    | ins c fs => exact let ⟨dx, fvs, k1, k2⟩ := q; ⟨dx, fvs, st _ _ k1 (fun _ z => nomatch z), k2.grow g⟩
    | xd fs => exact let ⟨fvs, k1, k2⟩ := q; ⟨fvs, st _ _ k1 (fun _ z => nomatch z), k2.grow g⟩
    | xc c m => exact let ⟨d, k1, k2⟩ := q; ⟨d, k1, st _ _ k2 (fun _ z => nomatch z)⟩
    | odd => exact let ⟨kvs, k1⟩ := q; ⟨kvs, st _ _ k1 (fun _ z => nomatch z)⟩
    | xn c => exact st _ _ q (fun _ z => nomatch z)
    | dt kds => exact let ⟨kvs, k1, k2⟩ := q; ⟨kvs, st _ _ k1 (fun _ z => nomatch z), k2.grow g⟩
end
section
variable {G : Gm} {E : WM} {X : Cx} {tq : TqL} {dn0 : Defn} {q x dn p : Str} {params : Arguments} {scope : Scope} {di pi k kk j : Nat} {p1 p2 p3 p4 p5 p6 p7 p8 p9 lpos kpos pos : Pos}
/-- max(d, key=lambda x: (d[x], 0 - x)) -/
theorem me_maxK (B : TbL tq X.K X.mg X.base) (hT : G.T = tabT tq X.K) (hmem : (dn0, q) ∈ tq) (hcode : X.env.code = .ref (cT X.K dn0).1) (hc : X.calm = true) (rg : RG (k + 2) X.A) (hg : Gl X x) (hm : X.mg x = none) (hv : bootBuiltins x = some (.builtin "max")) (hq : q = X.env.qual ++ "<lambda>")
    (L : LamS1 X.env.scope scope p) (nd : X.N.Nodup) (ep : X.N[pi]? = some p) (hdef : defaultsOf params X.env = ([], []))
    (hbind : ∀ (q : Str) (cl : List (Str × Addr)) (pm cv ctv u : Value), bindArgs (PySem.W.kla_fn "<lambda>" q params (.Tuple [.Subscript (.Name dn p3) (.Name p p4) p5, .BinOp (.Constant (.int 0) j p6) .Sub (.Name p p7) p8] kk p9) scope cl pm cv ctv) ⟨[u], []⟩ = pure [(p, u)])
    (hND : X.N[di]? = some dn) (hvX : Vis X.env.scope dn) (hvF : Vis scope dn) (hvP : Vis scope p) (hne : di ≠ pi) (hn : x ≠ "__name__" := by decide) (hdb : (x == ("__debug__" : Str)) = false := by decide)
    (d1 : (dn == ("__debug__" : Str)) = false := by decide) (d2 : (dn == ("__classdict__" : Str)) = false := by decide) (d3 : (p == ("__debug__" : Str)) = false := by decide) (d4 : (p == ("__classdict__" : Str)) = false := by decide) :
    PE X (.Call (.Name x p1) [.Name dn p2] [⟨some "key", .Lambda params (.Tuple [.Subscript (.Name dn p3) (.Name p p4) p5, .BinOp (.Constant (.int 0) j p6) .Sub (.Name p p7) p8] kk p9) scope lpos, kpos⟩] pos) (rd G E (eMaxK di)) := by
  refine ⟨fun pins s σ H Q I ⟨ρ, env, h, hs, hr, w⟩ => ?_⟩
  unfold eMaxK at w
  split at w <;> first | exact False.elim w | skip
  rename_i d0 e0
  obtain ⟨v, e1, qv⟩ := hs.2 di _ e0
  unfold maxK at w
  split at w <;> first | exact False.elim w | skip
  split at w <;> first | exact False.elim w | skip
  rename_i l kds e2
  split at w <;> first | exact False.elim w | skip
  rename_i q0 qs e3
  obtain ⟨c1, w⟩ := Wp.ifR w
  have c1 := of_decide_eq_true c1
  cases qv with
  | @loc a _ ha =>
    obtain ⟨kvs, e4, n⟩ := hr.at e2 ha
    have ek := nrel_ints n e3
    subst ek
    obtain ⟨od, I1⟩ := I.lock e4 trivial
    have hT1 : Tbs (tabT tq X.K) (upd H a (.frz od (.dK (entK (q0 :: qs))))) := by
      rw [← hT]
      exact hr.tabs.put e4 trivial
    obtain ⟨b1, b2⟩ := B.one hmem
    refine wpAny_Call_Name_kw (ld_blt I1 hg hm hv ?_ hn hdb)
    have ha1 : PA X [.Name dn p2] (tCons (tVar di) tNil) := pa_cons (pe_var hND hvX d1 d2) pa_nil
    refine PyProof.Rows.callWith_kw (thn (ha1.run pos pins s σ _ (fun vs H1 => vs = [.ref a] ∧ H1 = upd H a (.frz od (.dK (entK (q0 :: qs))))) I1 ⟨_, e1, rfl, rfl⟩) fun us s1 ⟨vs, H1, I2, r1, q1, q2⟩ => ?_) rfl rfl rfl rfl
    subst q1 q2
    obtain rfl : us = [Value.ref a] := by
      cases r1 with
      | cons r rr =>
        cases rr
        cases r
        rfl
    refine kws_cons (lam_made I2 (B.tb _ hmem) hcode hT1 hq b1 b2 hdef (L.has I2.ok) fun f c' pm ctv H2 s' I3 st lv t2 nf ef ec => kws_nil ?_)
    have hd2 : H2 a = some (.frz od (.dK (entK (q0 :: qs)))) := st a _ upd_same (fun _ z => nomatch z)
    rw [hq] at ec
    have fin : ∀ H', (∀ b o, H2 b = some o → H' b = some o) → ∀ (_ : H' a = some (.frz od (.dK (entK (q0 :: qs))))), Grow ρ H ρ (upd H' a (.dK (entK (q0 :: qs)))) ∧ HRel G ρ (upd H' a (.dK (entK (q0 :: qs)))) h := fun H' kp ha' => by
      refine HRel.stays hr (fun b o e nt => ?_) (fun b o e => ?_) ?_
      · by_cases hb : b = a
        · subst hb
          rw [e4] at e
          cases e
          exact upd_same
        · rw [upd_ne hb]
          exact kp b o (st b o (by rw [upd_ne hb]; exact e) nt)
      · by_cases hb : b = a
        · rw [hb]
          exact ⟨_, upd_same⟩
        · rw [upd_ne hb]
          obtain ⟨o', e'⟩ := lv b o (by rw [upd_ne hb]; exact e)
          exact ⟨o', kp b o' e'⟩
      · rw [hT]
        have t3 : Tbs (tabT tq X.K) H' := t2.keep (fun b ps e => kp b _ e) fun b o u e => kp b _ e
        refine ⟨fun pp hp => ?_, ?_⟩
        · obtain ⟨ps, h1, h2, h3⟩ := t3.1 pp hp
          refine ⟨ps, ?_, h2, fun pos' cv e => ?_⟩
          · rw [upd_ne (fun z => by rw [z, ha'] at h1; cases h1)]
            exact h1
          · obtain ⟨c, o, g1, g2, g3⟩ := h3 pos' cv e
            refine ⟨c, o, g1, ?_, g3⟩
            rw [upd_ne (fun z => by rw [z, ha'] at g2; unfold fix1 at g2; cases g2)]
            exact g2
        · obtain ⟨o, e⟩ := t3.2
          refine ⟨o, ?_⟩
          rw [upd_ne (fun z => by rw [z, ha'] at e; unfold fix1 at e; cases e)]
          exact e
    show wpAny _ _ (call (.builtin "max") [.ref a] [(Str.ofString "key", .ref f)]) _ _ _
    have hbody : ∀ (s : Shared) (H : Hp) (E' : XK), PE (LamX.lamCx X X.A.in1 X.stack s H E' scope f c') (.Tuple [.Subscript (.Name dn p3) (.Name p p4) p5, .BinOp (.Constant (.int 0) j p6) .Sub (.Name p p7) p8] kk p9)
        (tTup (tCons (tDGet (tVar di) (tVar pi)) (tCons (tOp (rI0 fun i j => .int (i - j)) (tC (.int 0)) (tVar pi)) tNil))) := fun s H E' =>
      pe_tup (pa_cons (pe_dget (by have := rg.r.un; show X.A.units + 1 + 3 + 1 < _; omega) (pe_var hND hvF d1 d2) (pe_var ep hvP d3 d4) (fun _ _ => rfl)) (pa_cons (pe_op op_sub pe_int (pe_var ep hvP d3 d4)) pa_nil))
    have htb : ∀ (i : Nat) (a0 c0 : Int) (H' : Hp) (Q' : VK), (q0 :: qs)[i]? = some (a0, c0) → H' a = some (.frz od (.dK (entK (q0 :: qs)))) → (∀ T, H' T = none → Q' (.ref T) (upd H' T (.tup [.int c0, .int (0 - a0)]))) →
        (tTup (tCons (tDGet (tVar di) (tVar pi)) (tCons (tOp (rI0 fun i j => .int (i - j)) (tC (.int 0)) (tVar pi)) tNil))) (σ.set pi (some (.int a0))) H' Q' := fun i a0 c0 H' Q' e5 e6 q' => by
      have l1 : pi < σ.length := by
        rw [I.len]
        exact (List.getElem?_eq_some_iff.mp ep).1
      have v1 : (σ.set pi (some (.int a0)))[di]? = some (some (.ref a)) := by rw [List.getElem?_set_ne (Ne.symm hne)]; exact e1
      have v2 : (σ.set pi (some (.int a0)))[pi]? = some (some (.int a0)) := List.getElem?_set_self l1
      refine ⟨_, v1, _, v2, a, .int c0, rfl, .inl ⟨entK (q0 :: qs), .inl a0, .inr ⟨od, e6⟩, rfl, (valV_at c1 e5).symm⟩, _, v2, 0, a0, rfl, rfl, by show 2 ≤ sizeLine; decide, q'⟩
    refine wpAny_mono (max_frz (Q := fun v H' => v = .int (bestK (q0 :: qs)) ∧ ∀ b o, H2 b = some o → H' b = some o) hc I3 L nd ep rg hd2 (fun z => nomatch z) ef ec hbind hbody htb (fun H' kp => ⟨rfl, kp⟩)) (fun u s4 hu => ?_) fun _ _ z => z
    obtain ⟨v, H', I4, rv, ev, kp⟩ := hu
    subst ev
    have ha' := kp _ _ hd2
    obtain ⟨g, r⟩ := fin H' kp ha'
    exact ⟨_, upd H' a (.dK (entK (q0 :: qs))), I4.unlock ha' (I.nofrz e4 trivial), rv, w ρ _ _ g r (by rw [bestK_eq]; exact .int _)⟩
  | _ => exact False.elim w
end
end Mo
end
section
set_option maxHeartbeats 4000000
/-! A tuple times a whole number, of any size. -/
namespace Mo
open PySem L2 PyProof.Rows
theorem tuple_mul_one (l : Addr) (items : Array Value) (n : Nat) (dd : Option Addr) (sl : Array (Option Value)) (u : Tok) :
    Meets (Builtin.«tuple.__mul__» ⟨[.ref l, .int 1 u], []⟩) (fun _ R s => s.heap.get? l = some { cls := .type "tuple", dict := dd, data := .seq items n, slots := sl } ∧ R (.ok (.ret (Value.ref l))) s) :=
  .of_wp fun prog w A R s h => by
    obtain ⟨hp, g, d, tk, os⟩ := s
    obtain ⟨hl, h⟩ := h
    have f1 := AutoSeq1.idx_int
    wp_walk using wpAny_loadPart' hl
    repeat (first
      | (refine wpAny_ite_false (decide_eq_false (by decide)) ?_; wp_walk using wpAny_loadPart' hl)
      | (refine wpAny_ite_true (decide_eq_true (by simp)) ?_; wp_walk using wpAny_loadPart' hl))
    exact ⟨_, rfl, h⟩
theorem tuple_mul_nought (l : Addr) (items : Array Value) (n : Nat) (dd : Option Addr) (sl : Array (Option Value)) (x : Int) (u : Tok) (c0 : (decide (x < -(2 ^ 63)) || decide (x ≥ 2 ^ 63)) = false) (c1 : (items.isEmpty || x == 1) = false) (c2 : (decide (x ≤ 0) || items.isEmpty) = true) :
    Meets (Builtin.«tuple.__mul__» ⟨[.ref l, .int x u], []⟩) (fun _ R s => s.heap.get? l = some { cls := .type "tuple", dict := dd, data := .seq items n, slots := sl } ∧
      R (.ok (.ret (Value.ref s.heap.objs.size))) { s with heap := s.heap.push { cls := Value.type "tuple", data := Data.seq #[] }, toks := s.toks }) :=
  .of_wp fun prog w A R s h => by
    obtain ⟨hp, g, d, tk, os⟩ := s
    obtain ⟨hl, h⟩ := h
    have f1 := AutoSeq1.idx_int
    wp_walk using wpAny_loadPart' hl
    repeat (first
      | (refine wpAny_ite_false (decide_eq_false (by rw [c0]; exact Bool.false_ne_true)) ?_; wp_walk using wpAny_loadPart' hl)
      | (refine wpAny_ite_false (decide_eq_false (by rw [c1]; exact Bool.false_ne_true)) ?_; wp_walk using wpAny_loadPart' hl)
      | (refine wpAny_ite_true (decide_eq_true c2) ?_; wp_walk using wpAny_loadPart' hl))
    exact ⟨_, rfl, h⟩
end Mo
end
section
/-! A tuple times a whole number (pure). -/
namespace Mo
open PySem
def opRepT : D → D → Hm → R D
  | .tup xs, .int k, h => ifR (decide (xs ≠ [] ∧ -1000 ≤ k ∧ k ≤ 1000 ∧ xs.length ≤ 1000)) (.ok (.tup (List.replicate k.toNat xs).flatten) h)
  | _, _, _ => .bad
theorem ev_repT {E : XE} {h : Hm} {Q : D → Hm → Prop} {x : D} {xs : List D} {k : Int} (k0 : -1000 ≤ k ∧ k ≤ 1000) (l : xs.length < 1000) (q : Q (.tup (List.replicate k.toNat (x :: xs)).flatten) h) : Ev E (opRepT (.tup (x :: xs)) (.int k) h) Q :=
  ev_ifR (decide_eq_true ⟨(fun z => nomatch z), k0.1, k0.2, l⟩) q
theorem rep_one (n : Nat) (x : D) : (List.replicate n [x]).flatten = List.replicate n x := by
  induction n with
  | zero => rfl
  | succ n ih => rw [List.replicate_succ, List.flatten_cons, ih, List.replicate_succ]; rfl
end Mo
end
section
set_option maxHeartbeats 4000000
/-! Readings: a tuple times a whole number. -/
namespace Mo
open PySem L2 PyProof.Rows
def rRepA (K : PySem.W.Frag) : R2 := fun x y H Q => ∃ l k xs, x = .ref l ∧ y = .int k ∧ SqT K H l xs ∧ xs ≠ [] ∧ -1000 ≤ k ∧ k ≤ 1000 ∧ xs.length ≤ 1000 ∧ (k = 1 → Q (.ref l) H) ∧ (k ≠ 1 → ∀ p, H p = none → Q (.ref p) (upd H p (.tup (List.replicate k.toNat xs).flatten)))
section
variable {X : Cx}
theorem op_repA : OpR X (binaryOp .Mult) (rRepA X.K) := by
  intro pins s σ H x y v u Q I rx ry h
  obtain ⟨l, k, xs, rfl, rfl, hT, hne, h1, h2, hz, q1, q2⟩ := h
  by_cases c2 : 2 ≤ k
  · exact op_repT pins s σ H _ _ v u Q I rx ry ⟨l, k, xs, rfl, rfl, hT, hne, c2, h2, hz, q2 (by omega)⟩
  cases rx
  obtain ⟨t, rfl⟩ := ry
  obtain ⟨its, r, ⟨⟨cls, dd, data, sl⟩, ho, hc, n, hd⟩, hs⟩ := I.tuple hT
  simp only at hc hd
  subst hc hd
  have hle : its.length = xs.length := r.length.symm
  have hn : its ≠ [] := fun e => hne (by
    rw [e] at hle
    exact List.eq_nil_of_length_eq_zero hle.symm)
  have hi : its.toArray.isEmpty = false := by
    cases its with
    | nil => exact absurd rfl hn
    | cons a b => rfl
  by_cases c1 : k = 1
  · subst c1
    refine wpAny_binaryOp_repeat_ref (T := "tuple") (U := "int") (by decide) ⟨_, ho, rfl⟩ (fun s' => typeIs_int s' 1 t) noFill_tuple_mul F.fills_int_mul F.slot_int_rmul repeat_tuple F.slot_int_index.lookup
      (call_meets F.slot_int_rmul (typeIs_int s 1 t) F.entry_int_rmul (F.args_int_rmul_2 _ _) (int_rmul_tuple 1 t l its.toArray n dd sl)
        ⟨ho, rfl, ⟨_, ho, rfl⟩, call_meets F.slot_tuple_mul ⟨_, ho, rfl⟩ F.entry_tuple_mul (F.args_tuple_mul_2 _ _) (tuple_mul_one l its.toArray n dd sl t) ⟨ho, ?_⟩⟩)
    exact ⟨.ref l, _, I, rfl, q1 rfl⟩
  · have k0 : k ≤ 0 := by omega
    have d0 : (decide (k < -(2 ^ 63)) || decide (k ≥ 2 ^ 63)) = false := by
      rw [decide_eq_false (by omega), decide_eq_false (by omega)] <;> rfl
    have d1 : (its.toArray.isEmpty || k == 1) = false := by
      rw [hi, Bool.false_or]
      exact beq_eq_false_iff_ne.mpr c1
    have d2 : (decide (k ≤ 0) || its.toArray.isEmpty) = true := by
      rw [decide_eq_true k0]
      rfl
    refine wpAny_binaryOp_repeat_ref (T := "tuple") (U := "int") (by decide) ⟨_, ho, rfl⟩ (fun s' => typeIs_int s' k t) noFill_tuple_mul F.fills_int_mul F.slot_int_rmul repeat_tuple F.slot_int_index.lookup
      (call_meets F.slot_int_rmul (typeIs_int s k t) F.entry_int_rmul (F.args_int_rmul_2 _ _) (int_rmul_tuple k t l its.toArray n dd sl)
        ⟨ho, rfl, ⟨_, ho, rfl⟩, call_meets F.slot_tuple_mul ⟨_, ho, rfl⟩ F.entry_tuple_mul (F.args_tuple_mul_2 _ _) (tuple_mul_nought l its.toArray n dd sl k t d0 d1 d2) ⟨ho, ?_⟩⟩)
    have e0 : k.toNat = 0 := by omega
    have q3 := q2 c1
    rw [e0] at q3
    refine ⟨.ref s.heap.objs.size, _, I.laid (t' := s.toks) (o := .tup (List.replicate 0 xs).flatten) (fun b ob q => Heap.get?_push_of_some _ q) (Nat.le_refl _) ?_, rfl, q3 _ (I.hok.fresh (Nat.le_refl _))⟩
    exact ⟨Nat.zero_le _, _, r.rep 0, IsTup.new _ _⟩
end
section
variable {G : Gm} {E : WM} {X : Cx} {a b : Expr} {ma mb : ME} {pos : Pos}
theorem os_repT : OpS G E (rRepA G.K) opRepT := by
  intro τ ρ H h x y v u Q r q1 q2 w
  unfold opRepT at w
  split at w <;> first | exact False.elim w | skip
  rename_i xs k
  obtain ⟨c, w⟩ := Wp.ifR w
  obtain ⟨c1, c2, c3, c4⟩ := of_decide_eq_true c
  cases q1 with
  | tup h1 k1 =>
    cases q2 with
    | int _ =>
      refine ⟨_, k, _, rfl, rfl, h1, fun z => c1 ?_, c2, c3, by rw [k1.length]; exact c4, fun e => ?_, fun e p hp => ?_⟩
      · subst z
        cases k1
        rfl
      · subst e
        have e2 : (List.replicate (1 : Int).toNat xs).flatten = xs := by
          show xs ++ [] = xs
          rw [List.append_nil]
        rw [e2] at w
        exact w.val r (.tup h1 k1)
      · exact w ρ _ _ (Grow.tmp hp _) (r.tmp hp _) (.tup (SqT.of upd_same) ((k1.rep _).grow (Grow.tmp hp _)))
theorem me_repT (hK : X.K = G.K) (ha : PE X a (rd G E ma)) (hb : PE X b (rd G E mb)) : PE X (.BinOp a .Mult b pos) (rd G E (eOp opRepT ma mb)) := me_op op_repA (by rw [hK]; exact os_repT) ha hb
end
end Mo
end
section
/-! range(i, j, c) (pure). -/
namespace Mo
open PySem
def stepsFrom (lo c : Int) (n : Nat) : List D := (List.range n).map fun (i : Nat) => .int (lo + (i : Nat) * c)
def rng3 : List D → Hm → R It
  | [.int i, .int j, .int c], h => ifR (decide (c ≠ 0 ∧ c.natAbs < 1073741824 ∧ Builtin.Range.small i j c = true ∧ 0 ≤ Builtin.Range.rangeSize i j c)) (.ok ⟨stepsFrom i c (Builtin.Range.rangeSize i j c).toNat, fun _ => true⟩ h)
  | _, _ => .bad
def iRngC (as : MA) : MI := fun σ h => (as σ h).bind rng3
theorem ev_iRngC {E : XE} {σ : Env} {h : Hm} {as : MA} {QI : It → Hm → Prop} (q : Ev E (as σ h) fun ds h1 => Ev E (rng3 ds h1) QI) : Ev E (iRngC as σ h) QI := ev_bind q
theorem ev_rng3 {E : XE} {h : Hm} {QI : It → Hm → Prop} {i j c : Int} {n : Nat} (k : c ≠ 0 ∧ c.natAbs < 1073741824 ∧ Builtin.Range.small i j c = true) (e : Builtin.Range.rangeSize i j c = n) (q : QI ⟨stepsFrom i c n, fun _ => true⟩ h) : Ev E (rng3 [.int i, .int j, .int c] h) QI := by
  refine ev_ifR (decide_eq_true ⟨k.1, k.2.1, k.2.2, by omega⟩) ?_
  rw [e]
  exact q
theorem steps_at {lo c : Int} {n i : Nat} {d : D} (e : (stepsFrom lo c n)[i]? = some d) : d = .int (lo + (i : Nat) * c) ∧ i < n := by
  have hi := (List.getElem?_eq_some_iff.mp e).1
  unfold stepsFrom at hi e
  rw [List.length_map, List.length_range] at hi
  rw [List.getElem?_map, List.getElem?_range hi] at e
  exact ⟨(Option.some.inj e).symm, hi⟩
theorem steps_len {lo c : Int} {n : Nat} : (stepsFrom lo c n).length = n := by
  unfold stepsFrom
  rw [List.length_map, List.length_range]
end Mo
end
section
set_option maxHeartbeats 1000000
/-! Readings: range(i, j, c). -/
namespace Mo
open PySem L2 PyProof.Rows He
section
variable {G : Gm} {E : WM} {X : Cx} {ρ : List Addr} {H : Hp} {a b c tg : Expr} {p pos : Pos} {as : MA}
theorem yld_rngC {ρ : List Addr} {H : Hp} {lo c : Int} {n : Nat} : Yld G (Itc lo c n) ⟨stepsFrom lo c n, fun _ => true⟩ ρ H := by
  refine ⟨fun ρ' H' h i g r e hi => ?_, fun ρ' H' h i g r e hi => ?_, fun ρ' H' h i y H2 g r e yl d ed => ?_⟩
  · show i < n
    rw [← steps_len (lo := lo) (c := c) (n := n)]
    exact hi
  · show n ≤ i
    rw [← steps_len (lo := lo) (c := c) (n := n)]
    exact hi
  · obtain ⟨e2, e3⟩ := yl
    subst e2 e3
    have ed : (stepsFrom lo c n)[i]? = some d := ed
    obtain ⟨rfl, _⟩ := steps_at ed
    exact ⟨ρ', Grow.refl _ _, r, .int _⟩
theorem mi_rng3 (hg : Gl X "range") (hm : X.mg "range" = none) (ha : PA X [a, b, c] (rdA G E as)) (hs : starEach [a, b, c] X.env = (false, eval a X.env) :: starEach [b, c] X.env := by rfl) (hpl : (backTo pos (starEach [b, c] X.env)).any (·.1) = false := by rfl) :
    PI X tg (.Call (.Name "range" p) [a, b, c] [] pos) (rdI G E (iRngC as)) :=
  pi_w (pi_range3 hg hm ha hs hpl) fun σ H R ⟨ρ, env, h, hs, hr, w⟩ => by
    refine ⟨ρ, env, h, hs, hr, ?_⟩
    unfold iRngC at w
    cases e : as env h with
    | bad => rw [e] at w; exact False.elim w
    | exc c fs h1 => rw [e] at w; exact w
    | ok ds h2 =>
      rw [e] at w
      refine fun ρ1 H1 vs g1 r1 q1 => ?_
      have w : Wp G (atW E σ) (fun ρ' H' J it => Yld G J it ρ' H') (rng3 ds h2) ρ H R := w
      unfold rng3 at w
      split at w <;> first | exact False.elim w | skip
      cases q1 with
      | cons k1 q1 =>
        cases q1 with
        | cons k2 q1 =>
          cases q1 with
          | cons k3 q1 =>
            cases q1
            cases k1
            cases k2
            cases k3
            obtain ⟨k, w⟩ := Wp.ifR w
            obtain ⟨c1, c2, c3, c4⟩ := of_decide_eq_true k
            exact ⟨_, _, _, _, rfl, ⟨c1, c2, c3, by omega⟩, Wp.val (Wp.grow g1 w) r1 yld_rngC⟩
end
end Mo
end
section
/-! Exceptions made as values; a text times a whole number (pure). -/
namespace Mo
open PySem
/-- C(..), C an own exception class with an own __init__ -/
def eExc (c : Nat) (fsn : List Str) (as : MA) : ME := fun σ h => (as σ h).bind fun ds h1 => ifR (decide (ds.length = fsn.length)) (.ok (.loc (h1.n + 1)) ((h1.new (.xd (fsn.zip ds).reverse)).new (.xc c h1.n)))
/-- C(e), C an own exception class without one -/
def eXn (c : Nat) (a : ME) : ME := fun σ h => (a σ h).bind fun _ h1 => .ok (.loc h1.n) (h1.new (.xn c))
def mulSOk (x : Str) (k : Int) : Bool := decide (0 ≤ k ∧ k ≤ 1000 ∧ x.length ≤ 1000)
/-- a text times a whole number, too -/
def opMulS (x y : D) (h : Hm) : R D := match x, y with
  | .str z, .int k => ifR (mulSOk z k) (.ok (.str (Txt.mul z k)) h)
  | _, _ => .bad
section
variable {E : XE} {σ : Env} {h : Hm} {Q : D → Hm → Prop}
theorem ev_exc {c : Nat} {fsn : List Str} {as : MA} (q : Ev E (as σ h) fun ds h1 => ds.length = fsn.length ∧ Q (.loc (h1.n + 1)) ((h1.new (.xd (fsn.zip ds).reverse)).new (.xc c h1.n))) : Ev E (eExc c fsn as σ h) Q := ev_bind (q.mono fun ds h1 ⟨e, w⟩ => ev_ifR (decide_eq_true e) w)
theorem ev_xn {c : Nat} {a : ME} (q : Ev E (a σ h) fun _ h1 => Q (.loc h1.n) (h1.new (.xn c))) : Ev E (eXn c a σ h) Q := ev_bind q
theorem ev_mulS {z : Str} {k : Int} (c : 0 ≤ k ∧ k ≤ 1000 ∧ z.length ≤ 1000) (q : Q (.str (Txt.mul z k)) h) : Ev E (opMulS (.str z) (.int k) h) Q := ev_ifR (decide_eq_true c) q
end
end Mo
end
section
set_option maxHeartbeats 4000000
/-! Readings: exceptions made as values; those of two fields; a text times a whole number. -/
namespace Mo
open PySem L2 PyProof.Rows He
section
variable {B newId initId : String} {tl : List Value} {X : Cx} {o e : Expr} {es : List Expr} {ta : TA} {x : Str} {p pos : Pos}
def tMkV (C : Addr) (sp : Sp) (ta : TA) : TE := fun σ H Q => ta σ H fun vs H1 => vs.length ≤ 1000 ∧ ∀ a, H1 a = none → sp (.ref a :: vs) (upd H1 a (exo a C none))
  (fun v H2 => v = .non ∧ ∃ (d : Addr) (fs : List (Str × V)), H2 a = some (exo a C (some d)) ∧ H2 d = some (exd d fs) ∧ H1 d = none ∧ Q (.ref a) (upd (upd (del H2 a) d (.xd fs)) a (exv a C d))) (fun _ _ _ => False)
theorem exv_ok {P : Program} {w : World} {H : Hp} {h : Heap} {a C d : Addr} {vs : Array Value} {sl : Array (Option Value)} (he : h.get? a = some { cls := .ref C, dict := some d, data := .fields vs, slots := sl }) : ObjOk P w H h a (exv a C d) :=
  ⟨⟨vs, sl, he⟩, ⟨_, he⟩, fun h1 h2 ⟨vs', sl', z⟩ k => ⟨vs', sl', k _ z⟩⟩
theorem exn_ok {P : Program} {w : World} {H : Hp} {h : Heap} {a C : Addr} {vs : Array Value} {sl : Array (Option Value)} (he : h.get? a = some { cls := .ref C, dict := none, data := .fields vs, slots := sl }) : ObjOk P w H h a (exn a C) :=
  ⟨⟨vs, sl, he⟩, ⟨_, he⟩, fun h1 h2 ⟨vs', sl', z⟩ k => ⟨vs', sl', k _ z⟩⟩
/-- C(e, ..) as a value, C's own __init__ keeping sp -/
theorem pe_x {CX : CXT} {C fI : Addr} {k : Nat} {fd : FuncData} {ps : List Str} {sp : Sp} (Fb : BaF B newId initId tl) (T : ExT X.K C tl newId) (iC : PySem.W.findIn X.K (.ref C) "__init__" = some (some (.ref fI))) (tI : PySem.W.typeIn X.K (.ref fI) = some (.type "function"))
    (F1 : FnOk X.prog X.w X.K X.mg X.base CX k fI fd ps sp) (hr : Room (k + 1) X.A) (hb : Binds X.K fd ps []) (hx : Passes CX X (fun _ _ _ => False)) (hg : Gl X x) (hm : X.mg x = some (.ref C)) (ha : PA X (e :: es) ta)
    (hdb : (x == ("__debug__" : Str)) = false := by decide) (he : starEach (e :: es) X.env = (false, eval e X.env) :: starEach es X.env := by rfl) (hpl : (backTo pos (starEach es X.env)).any (·.1) = false := by rfl) :
    PE X (.Call (.Name x p) (e :: es) [] pos) (tMkV C sp ta) := by
  refine ⟨fun pins s σ H Q I h => ?_⟩
  obtain ⟨nm, q, N, bs, bm, sn, sub, ab, col, dd, k0, k1, k2, k3, k5, hC, hbm⟩ := T.cls
  refine wpAny_Call_Name_kw (ld_glob I hg hm (PySem.W.callWith_K (h₀ := X.base) I.ok.mod.kin T.kC (thn (ha.run pos pins s σ H _ I h) fun us s1 ⟨vs, H1, I1, r1, hz, q1⟩ => ⟨I1.kIn, ?_⟩) he hpl) hdb)
  show wpAny _ _ (call (.ref C) us) _ _ _
  obtain ⟨hp, g, dr, tk, os⟩ := s1
  have hsz : hp.objs.size ≤ hp.objs.size + 1 := Nat.le_succ _
  have hq := q1 (hp.objs.size + 1) (I1.hok.fresh hsz)
  have kk : ∀ b o, hp.get? b = some o → ((hp.push (PySem.W.kdv_tup us)).push (PySem.HandSPX.excO C hp.objs.size)).get? b = some o := fun b o z => Heap.get?_push_of_some _ (Heap.get?_push_of_some _ z)
  have hget : ((hp.push (PySem.W.kdv_tup us)).push (PySem.HandSPX.excO C hp.objs.size)).get? (hp.objs.size + 1) = some (PySem.HandSPX.excO C hp.objs.size) := by heap_get
  have I2 : Inv X pins σ (upd H1 (hp.objs.size + 1) (exo (hp.objs.size + 1) C none)) ⟨(hp.push (PySem.W.kdv_tup us)).push (PySem.HandSPX.excO C hp.objs.size), g, dr, tk, os⟩ := I1.laid (t' := tk) (a := hp.objs.size + 1) (o := exo (hp.objs.size + 1) C none) kk hsz (exo_ok hget)
  have r2 : Vals (V.ref (hp.objs.size + 1) :: (vs ++ [])) (Value.ref (hp.objs.size + 1) :: (us ++ [])) := .cons rfl (r1.append .nil)
  rw [← List.append_nil vs] at hq
  have hl : (Value.ref (hp.objs.size + 1) :: us ++ []).length = ps.length := by
    have z := r2.length
    rw [F1.len _ _ _ _ hq] at z
    exact z.symm
  have hus : us.length ≤ sizeLine := by rw [← Paired.length r1, sizeLine_eq]; omega
  refine wpAny_call (PySem.HandSPX.call_own Fb.ex (fun Y => PySem.W.excTail_contains Y bm hbm) (I1.kIn _ _ hC) (PySem.W.looks_findIn I1.kIn iC) (fun self => PySem.W.bind_fn I1.kIn self tI) hus
    (codeAny_mono (F1.run _ X.stack _ _ ⟨Value.ref (hp.objs.size + 1) :: us, []⟩ (Value.ref (hp.objs.size + 1) :: (us ++ [])) _ _ (fun _ _ _ => False) (hr.make C us []) (I2.env0.make C us []) (by have z := hb _ (Value.ref (hp.objs.size + 1) :: us) I2.kIn hl; rw [List.cons_append] at z; exact z) r2 hq) fun r s' hq' => ?_))
  cases r with
  | error er => exact hx pins σ _ _ er s' I2 hq'
  | ok fl =>
    cases fl with
    | ret u =>
      obtain ⟨v, H2, os2, bare2, un2, hok2, rv, ev, d, fs, ea, ed, hd1, q2⟩ := hq'
      subst ev
      obtain ⟨h2, g2, d2, t2, os'⟩ := s'
      obtain ⟨t0, G', J, kG, ge, hoe, na⟩ := mk_end0 (d2 := d2) (t2 := t2) I1 hsz kk un2 hok2 os2 bare2 ea ed hd1
      exact ⟨rv, .ref _, _, J.laidN (h' := h2) (t' := t2) kG ge na (exv_ok hoe), rfl, q2⟩
    | _ => exact False.elim hq'
/-- C(e) as a value, C without an own __init__ -/
theorem pe_xn {C : Addr} {bmB : List Value} {te : TE} (F : ExcBaseFacts B newId initId bmB) (q : PySem.W.excIn X.K C bmB newId = true) (gC : X.mg x = some (.ref C)) (kC : PySem.W.keepIn X.K (.ref C) = true) (hg : Gl X x)
    (he : PE X e te) (hs : starEach [e] X.env = (false, eval e X.env) :: starEach [] X.env := by rfl) (hdb : (x == ("__debug__" : Str)) = false := by decide) :
    PE X (.Call (.Name x p) [e] [] pos) (fun σ H Q => te σ H fun _ H1 => ∀ a, H1 a = none → Q (.ref a) (upd H1 a (exn a C))) := by
  refine ⟨fun pins s σ H Q I h => ?_⟩
  refine wpAny_Call_Name_kw (ld_glob I hg gC ?_ hdb)
  refine PySem.W.callWith_K (h₀ := X.base) I.ok.mod.kin kC ?_ hs (by rfl)
  rw [hs]
  show wpAny _ _ (spliced ((false, eval e X.env) :: backTo pos (starEach [] X.env))) _ _ s
  refine Calls.spliced_cons (thn (he.run pins s σ H _ I h) fun u s1 ⟨v, H1, I1, r1, q1⟩ => ?_)
  refine Calls.spliced_nil ⟨I1.kIn, ?_⟩
  show wpAny _ _ (call (.ref C) [u]) _ _ _
  obtain ⟨bm, N, nm, qn, bs, hdct, sn, sub, ab, col, dd, k0, k1, k2, k3, k5, mN, hC, hN, hni, T⟩ := exc_obj I1.kIn q
  refine wpAny_call_exc_subT F T hC hN hni (fun h' a hm => ?_) (by show 1 ≤ sizeLine; rw [sizeLine_eq]; omega)
  have hn : H1 a = none := I1.hok.gone hm.new
  obtain ⟨t, ht, _, _⟩ := hm.there
  exact ⟨.ref a, upd H1 a (exn a C), I1.laidN hm.keeps hm.new hn (exn_ok ht), rfl, q1 a hn⟩
end
section
variable {G : Gm} {E : WM} {X : Cx} {e : Expr} {es : List Expr} {p pos : Pos} {as : MA} {ma : ME} {x : Str} {c : Nat} {fsn : List Str} {k : Nat}
theorem me_exc (Y : XC X.prog X.w X.K X.mg X.base (G.cA c) fsn) (rg : RG k X.A) (hk : 2 ≤ k) (hg : Gl X x) (hm : X.mg x = some (.ref (G.cA c))) (ha : PA X (e :: es) (rdA G E as)) (hs : fsn.length ≤ 1000)
    (hdb : (x == ("__debug__" : Str)) = false := by decide) (he : starEach (e :: es) X.env = (false, eval e X.env) :: starEach es X.env := by rfl) (hpl : (backTo pos (starEach es X.env)).any (·.1) = false := by rfl) :
    PE X (.Call (.Name x p) (e :: es) [] pos) (rd G E (eExc c fsn as)) := by
  obtain ⟨B, newId, initId, tl, fI, fd, ps, Fb, T, iC, tI, F1, hb⟩ := Y.go
  refine pe_w (pe_x (k := 1) Fb T iC tI F1 (rg.r.mono hk) hb passL hg hm ha hdb he hpl) fun σ H Q ⟨ρ, env, h, hs', hr, w⟩ => ⟨ρ, env, h, hs', hr, w.seq fun ds h1 ρ1 H1 vs g1 r1 q1 w1 => ?_⟩
  obtain ⟨c1, w1⟩ := Wp.ifR w1
  have kl := of_decide_eq_true c1
  have lv : vs.length = fsn.length := by rw [q1.length, kl]
  refine ⟨by rw [lv]; exact hs, fun a na => ⟨a, vs, rfl, lv, upd_same, fun d nd ne => ?_⟩⟩
  have nd1 : H1 d = none := by rw [upd_ne ne] at nd; exact nd
  refine ⟨rfl, d, (fsn.zip vs).reverse, upd_same, by rw [upd_ne ne]; exact upd_same, nd1, ?_⟩
  rw [del_exc na ne]
  have gg := Grow.new r1 nd1 (.xd (fsn.zip vs).reverse)
  have r2 : HRel G (ρ1 ++ [d]) (upd H1 d (.xd (fsn.zip vs).reverse)) (h1.new (.xd (fsn.zip ds).reverse)) := r1.new nd1 (ho := .xd (fsn.zip vs).reverse) (o := .xd (fsn.zip ds).reverse) ⟨_, upd_same, paired_rev (nzip (q1.grow gg))⟩
  have na2 : upd H1 d (.xd (fsn.zip vs).reverse) a = none := by rw [upd_ne (Ne.symm ne)]; exact na
  have g2 := Grow.new r2 na2 (exv a (G.cA c) d)
  have at1 : (ρ1 ++ [d])[h1.n]? = some d := by
    rw [← r1.len]
    simp
  have r3 : HRel G ((ρ1 ++ [d]) ++ [a]) (upd (upd H1 d (.xd (fsn.zip vs).reverse)) a (exv a (G.cA c) d)) ((h1.new (.xd (fsn.zip ds).reverse)).new (.xc c h1.n)) := r2.new na2 (ho := exv a (G.cA c) d) (o := .xc c h1.n) ⟨d, g2.at at1, upd_same⟩
  refine w1 _ _ _ (gg.trans g2) r3 (.loc ?_)
  rw [← r1.len]
  simp
theorem me_xn {B newId initId : String} {tl : List Value} {C : Addr} (Fb : BaF B newId initId tl) (q : PySem.W.excIn X.K C tl newId = true) (kC : PySem.W.keepIn X.K (.ref C) = true) (hC : C = G.cA c) (hg : Gl X x) (hm : X.mg x = some (.ref C)) (ha : PE X e (rd G E ma))
    (hs : starEach [e] X.env = (false, eval e X.env) :: starEach [] X.env := by rfl) (hdb : (x == ("__debug__" : Str)) = false := by decide) : PE X (.Call (.Name x p) [e] [] pos) (rd G E (eXn c ma)) :=
  pe_w (pe_xn Fb.ex q hm kC hg ha hs hdb) fun σ H Q ⟨ρ, env, h, hs, hr, w⟩ => ⟨ρ, env, h, hs, hr, w.seq fun d h1 ρ1 H1 v g1 r1 q1 w1 => fun a na => by
    subst hC
    refine w1 (ρ1 ++ [a]) _ _ (Grow.new r1 na _) (r1.new na (ho := exn a (G.cA c)) (o := .xn c) upd_same) (.loc ?_)
    rw [← r1.len]
    simp⟩
end
/-- what making C(e) asks -/
def xnB (K : PySem.W.Frag) (x : Str) (tl : List Value) (newId : String) : Bool := PySem.W.excIn K (ga K x) tl newId && PySem.W.keepIn K (.ref (ga K x))
theorem xnB_ok {K : PySem.W.Frag} {x : Str} {tl : List Value} {newId : String} (h : xnB K x tl newId = true) : PySem.W.excIn K (ga K x) tl newId = true ∧ PySem.W.keepIn K (.ref (ga K x)) = true := ba h
section
variable {X : Cx} {B newId initId : String} {tl : List Value} {x f f' g g' n0 n1 n2 : Str} {p1 p2 pos pos2 p3 p4 p5 p6 p7 p8 p9 pa pb pc pd : Pos}
/-- self.f = y, self.g = z of an own exception of two fields -/
theorem xb2 (Fb : BaF B newId initId tl) (b : BIn X tl newId x) (h0 : X.N[0]? = some n0) (h1 : X.N[1]? = some n1) (h2 : X.N[2]? = some n2) (v0 : Vis X.env.scope n0) (v1 : Vis X.env.scope n1) (v2 : Vis X.env.scope n2) (hf : f = f') (hf2 : g = g')
    (hd0 : (n0 == ("__debug__" : Str)) = false := by decide) (hd1 : (n1 == ("__debug__" : Str)) = false := by decide) (hd2 : (n2 == ("__debug__" : Str)) = false := by decide) (hc0 : (n0 == ("__classdict__" : Str)) = false := by decide) (hc1 : (n1 == ("__classdict__" : Str)) = false := by decide) (hc2 : (n2 == ("__classdict__" : Str)) = false := by decide) (hdb : (x == ("__debug__" : Str)) = false := by decide)
    {pl : Sem Bool} (hc : eval (.Call (.Attribute (.Name x p1) "__init__" p2) [.Name n0 p3, .Name n1 p4, .Name n2 p9] [] pos) X.env = (do
      let ov ← eval (.Name x p1) X.env
      standAt p2.atName
      let (f, first) ← holding [ov] (getMethod ov "__init__" pl)
      callWith pos f first (backTo pos (starEach [.Name n0 p3, .Name n1 p4, .Name n2 p9] X.env)) (backToKw pos (keywordEach [] X.env))) := by rfl)
    (hs0 : swapsWith (.Call (.Attribute (.Name x p1) "__init__" p2) [.Name n0 p3, .Name n1 p4, .Name n2 p9] [] pos) none pos2.line X.env = pure false := by rfl) (hs : swapsWith (.Name n1 p6) (some (.Attribute (.Name n0 p5) f pb)) pa.line X.env = pure false := by rfl) (hs2 : swapsWith (.Name n2 p7) (some (.Attribute (.Name n0 p8) g pd)) pc.line X.env = pure false := by rfl) :
    PSs X [.Expr (.Call (.Attribute (.Name x p1) "__init__" p2) [.Name n0 p3, .Name n1 p4, .Name n2 p9] [] pos) pos2, .Assign [.Attribute (.Name n0 p5) f pb] (.Name n1 p6) pa, .Assign [.Attribute (.Name n0 p8) g pd] (.Name n2 p7) pc] (xB2 X.K tl newId f' g') := by
  subst hf hf2
  have e0 : ∀ {p : Pos}, PE X (.Name n0 p) (tVar 0) := pe_var h0 v0 hd0 hc0
  have e1 : ∀ {p : Pos}, PE X (.Name n1 p) (tVar 1) := pe_var h1 v1 hd1 hc1
  have e2 : ∀ {p : Pos}, PE X (.Name n2 p) (tVar 2) := pe_var h2 v2 hd2 hc2
  exact pss_cons (ps_expr (b.go (pa_cons e0 (pa_cons e1 (pa_cons e2 pa_nil))) hdb hc rfl rfl) hs0) (pss_cons (ps_xst Fb e0 e1 hs) (pss_one (ps_xst Fb e0 e2 hs2)))
/-- an own exception class of two fields -/
theorem xc2 {P : Program} {w : World} {K : PySem.W.Frag} {mg : Str → Option Value} {base : Heap} {C : Str} {d : DefD} {N ps : List Str} {f g : Str} (Fb : BaF B newId initId tl) (h : excB K C tl newId [f, g] = true) (fd : ∃ fd, FunD K d.name d.qual d.params d.body d.scope [] (d.kws K) (ma K (ga K C) "__init__") fd) (S : FnScope N ps d.scope) (hN : N.length = 3) (hps : ps.length = 3) (hk : d.kws K = [])
    (hb : ∀ (cdv : Value) (A : Around) (outer : List PySem.Env) (s : Shared) (H : Hp) (E : XK), PSs (cxOf (L2.CX P w) P w K mg base N d.qual d.scope (ma K (ga K C) "__init__") cdv A outer s H E) d.body (xB2 K tl newId f g))
    (hbd : ∀ (kV doc pm : Value) (an : Option Addr) (cdv ct : Value) (us : List Value), us.length = ps.length → bindArgs (PySem.W.fnOf d.name d.qual d.params d.body d.scope .none kV doc pm an cdv ct) ⟨us, []⟩ = pure (ps.zip us)) : XC P w K mg base (ga K C) [f, g] := by
  obtain ⟨fd, FD⟩ := fd
  have x := excB_ok h
  rw [hk] at FD
  exact ⟨B, newId, initId, tl, _, fd, ps, Fb, x.t, x.i, x.f, xok2 x.t (x.n f (by simp)) (x.n g (by simp)) FD hN hps S hb, FD.bindsN hbd⟩
end
section
variable {X : Cx} {G : Gm} {E : WM}
def rMulS : R2 := fun x y H Q => ∃ z k, x = .str z ∧ y = .int k ∧ mulSOk z k = true ∧ Q (.str (Txt.mul z k)) H
theorem mul_ok {z : Str} {k : Int} (h : mulSOk z k = true) : MulOk z k := by
  have h := of_decide_eq_true h
  have hl : ∀ n m : Nat, n ≤ 1000 → m ≤ 1000 → n * m ≤ 1000000 := fun n m a b => Nat.le_trans (Nat.mul_le_mul a b) (by decide)
  refine ⟨?_, fun h1 _ => ?_, fun h1 _ => ?_⟩
  · rw [decide_eq_false (by omega), decide_eq_false (by omega)]
    rfl
  · intro z2
    have c : (1000 : Int) ≤ (2 ^ 63 - 1) / k := by
      refine Int.le_ediv_of_mul_le (by omega) ?_
      have : 1000 * k ≤ 1000 * 1000 := Int.mul_le_mul_of_nonneg_left h.2.1 (by omega)
      omega
    have := h.2.2
    omega
  · have c := hl z.length k.toNat h.2.2 (by omega)
    exact decide_eq_false (by unfold sizeLine; omega)
theorem op_mulS : OpR X (binaryOp .Mult) rMulS := by
  intro pins s σ H x y v u Q I rx ry h
  obtain ⟨z, k, rfl, rfl, hk, q⟩ := h
  obtain ⟨t, rfl⟩ := rx
  obtain ⟨t2, rfl⟩ := ry
  exact SB.mul (mul_ok hk) fun t' tk => ⟨.str (Txt.mul z k), H, I.tok tk, ⟨t', rfl⟩, q⟩
theorem os_mulS : OpS G E rMulS opMulS := by
  intro τ ρ H h x y v u Q r q1 q2 w
  unfold opMulS at w
  split at w <;> first | exact False.elim w | skip
  cases q1
  cases q2
  obtain ⟨c, w⟩ := Wp.ifR w
  exact ⟨_, _, rfl, rfl, c, Wp.val w r (.str _)⟩
end
end Mo
end
section
/-! What the defs that law_k02_families_of_refusals reaches do, as terms of M. -/
namespace Lw
open PySem Mo
def q_row : Str := ⟨#[114, 111, 119]⟩
theorem ok_q_row : PyData.strOk q_row = true := by decide +kernel
def q_at : Str := ⟨#[97, 116]⟩
theorem ok_q_at : PyData.strOk q_at = true := by decide +kernel
def q_word : Str := ⟨#[119, 111, 114, 100]⟩
theorem ok_q_word : PyData.strOk q_word = true := by decide +kernel
def q_name : Str := ⟨#[110, 97, 109, 101]⟩
theorem ok_q_name : PyData.strOk q_name = true := by decide +kernel
def q_most : Str := ⟨#[109, 111, 115, 116]⟩
theorem ok_q_most : PyData.strOk q_most = true := by decide +kernel
def q_wanted : Str := ⟨#[119, 97, 110, 116, 101, 100]⟩
theorem ok_q_wanted : PyData.strOk q_wanted = true := by decide +kernel
def q_abcdefghij : Str := ⟨#[97, 98, 99, 100, 101, 102, 103, 104, 105, 106]⟩
theorem ok_q_abcdefghij : PyData.strOk q_abcdefghij = true := by decide +kernel
def q_mill : Str := ⟨#[109, 105, 108, 108]⟩
theorem ok_q_mill : PyData.strOk q_mill = true := by decide +kernel
def q_value : Str := ⟨#[118, 97, 108, 117, 101]⟩
theorem ok_q_value : PyData.strOk q_value = true := by decide +kernel
def q_lack : Str := ⟨#[108, 97, 99, 107]⟩
theorem ok_q_lack : PyData.strOk q_lack = true := by decide +kernel
def q_lookup : Str := ⟨#[108, 111, 111, 107, 117, 112]⟩
theorem ok_q_lookup : PyData.strOk q_lookup = true := by decide +kernel
def q_cant : Str := ⟨#[99, 97, 110, 116]⟩
theorem ok_q_cant : PyData.strOk q_cant = true := by decide +kernel
def q_run : Str := ⟨#[114, 117, 110]⟩
theorem ok_q_run : PyData.strOk q_run = true := by decide +kernel
def q_program : Str := ⟨#[112, 114, 111, 103, 114, 97, 109]⟩
theorem ok_q_program : PyData.strOk q_program = true := by decide +kernel
def q_code : Str := ⟨#[99, 111, 100, 101]⟩
theorem ok_q_code : PyData.strOk q_code = true := by decide +kernel
def q_given : Str := ⟨#[103, 105, 118, 101, 110]⟩
theorem ok_q_given : PyData.strOk q_given = true := by decide +kernel
def q_paper : Str := ⟨#[112, 97, 112, 101, 114]⟩
theorem ok_q_paper : PyData.strOk q_paper = true := by decide +kernel
def q_line : Str := ⟨#[108, 105, 110, 101]⟩
theorem ok_q_line : PyData.strOk q_line = true := by decide +kernel
def q_state : Str := ⟨#[115, 116, 97, 116, 101]⟩
theorem ok_q_state : PyData.strOk q_state = true := by decide +kernel
def q_such : Str := ⟨#[115, 117, 99, 104]⟩
theorem ok_q_such : PyData.strOk q_such = true := by decide +kernel
def q_a : Str := ⟨#[97]⟩
theorem ok_q_a : PyData.strOk q_a = true := by decide +kernel
def q_gone : Str := ⟨#[103, 111, 110, 101]⟩
theorem ok_q_gone : PyData.strOk q_gone = true := by decide +kernel
def q_busy : Str := ⟨#[98, 117, 115, 121]⟩
theorem ok_q_busy : PyData.strOk q_busy = true := by decide +kernel
def q_full : Str := ⟨#[102, 117, 108, 108]⟩
theorem ok_q_full : PyData.strOk q_full = true := by decide +kernel
def q_kind : Str := ⟨#[107, 105, 110, 100]⟩
theorem ok_q_kind : PyData.strOk q_kind = true := by decide +kernel
def q_sort : Str := ⟨#[115, 111, 114, 116]⟩
theorem ok_q_sort : PyData.strOk q_sort = true := by decide +kernel
def q_number : Str := ⟨#[110, 117, 109, 98, 101, 114]⟩
theorem ok_q_number : PyData.strOk q_number = true := by decide +kernel
def q_index : Str := ⟨#[105, 110, 100, 101, 120]⟩
theorem ok_q_index : PyData.strOk q_index = true := by decide +kernel
def q_trap : Str := ⟨#[116, 114, 97, 112]⟩
theorem ok_q_trap : PyData.strOk q_trap = true := by decide +kernel
def q_arithmetic : Str := ⟨#[97, 114, 105, 116, 104, 109, 101, 116, 105, 99]⟩
theorem ok_q_arithmetic : PyData.strOk q_arithmetic = true := by decide +kernel
def q_key : Str := ⟨#[107, 101, 121]⟩
theorem ok_q_key : PyData.strOk q_key = true := by decide +kernel
def q_over : Str := ⟨#[111, 118, 101, 114]⟩
theorem ok_q_over : PyData.strOk q_over = true := by decide +kernel
def q_nought : Str := ⟨#[110, 111, 117, 103, 104, 116]⟩
theorem ok_q_nought : PyData.strOk q_nought = true := by decide +kernel
/- _law_mixed: 0 _law_drawn, 1 _law_k -/
/- _law_take: 0 _law_stream, 1 _law_many, 2 _law_cell, 3 _law_drawn -/
/- _law_of: 0 _law_stream, 1 _law_some -/
/- _law_thing_by: 0 _law_stream, 1 _law_name -/
/- _law_lines: 0 _law_first, 1 _law_second, 2 _law_found, 3 _law_mill, 4 _law_lack, 5 _law_cant -/
/- _law_words: 0 _law_e, 1 _law_found, 2 _law_words_here, 3 _law_good, 4 _law_word -/
/- _law_kinds: 0 _law_e, 1 _law_found, 2 _law_words_here, 3 _law_good, 4 _law_word -/
/- _law_fields: 0 _law_made, 1 _law_found -/
/- law: 0 _law_script, 1 _law_stream, 2 _law_turn, 3 _law_lines_here, 4 _law_first, 5 _law_second, 6 _law_e, 7 _law_word, 8 _law_kinds_here, 9 _law_made, 10 _law_due, 11 _law_line -/
def b_mixed : MS := sSeq (sAsg (eOp opMod (eOp opPow (eOp opAddK (eOp opAddK (eOp opAddK (eOp opMod (eV 0) (eC (.int 2147483647))) (eOp opMulK (eOp opMulK (eC (.int 7919)) (eV 1)) (eV 1))) (eOp opMulK (eC (.int 31)) (eV 1))) (eC (.int 5))) (eC (.int 5))) (eC (.int 2147483629))) (gN 0))
  (sRet (eOp opFDiv (eOp opMod (eOp opMulK (eV 0) (eOp opAddK (eC (.int 69621)) (eOp opMulK (eC (.int 2)) (eV 1)))) (eC (.int 2147483587))) (eC (.int 7))))
def f_mixed : Fn := fnOf 2 (b_mixed)
theorem u_mixed {E : XE} {Q : D → Hm → Prop} {h : Hm} {d0 d1 : D} (w : EvS (fun c l _ h => E c l h) (b_mixed [some d0, some d1] h) (poF Q)) : Ev E (f_mixed [d0, d1] h) Q := ev_fn w
def b_take : MS := sSeq (sAsg (eOp opAddM (eOp opIx (eV 0) (eC (.int 2))) (eC (.int 1))) (gIx (eV 0) (eC (.int 2))))
  (sSeq (sIf (tAnd (tB (eOp opLt (eOp opIx (eV 0) (eC (.int 1))) (eC (.int 2)))) (tB (eOp opNe (eOp opIx (eV 0) (eC (.int 0))) (eLstK (aNil))))) (sSeq (sAsg (eBM "list" mPopAt (eOp opIx (eV 0) (eC (.int 0))) (aCons (eC (.int 0)) (aNil))) (gN 2))
  (sSeq (sAsg (eIf (tB (eOp opGe (eV 2) (eOp opPow (eC (.int 10)) (eC (.int 18))))) (eV 2) (eC (.int 0))) (gIx (eV 0) (eC (.int 1))))
  (sAsg (eCall (callP 2 0 (fun ds _ => ds) f_mixed) (aCons (eOp opAddK (eOp opIx (eV 0) (eC (.int 3))) (eV 2)) (aCons (eOp opIx (eV 0) (eC (.int 2))) (aNil))) (aNil)) (gIx (eV 0) (eC (.int 3)))))) (sNext))
  (sSeq (sIf (tB (eOp opGt (eOp opIx (eV 0) (eC (.int 1))) (eC (.int 1)))) (sSeq (sAsg (eOp opMod (eOp opIx (eV 0) (eC (.int 1))) (eV 1)) (gN 3))
  (sSeq (sAsg (eOp opFDiv (eOp opIx (eV 0) (eC (.int 1))) (eV 1)) (gIx (eV 0) (eC (.int 1))))
  (sRet (eV 3)))) (sNext))
  (sRet (eOp opMod (eOp opFDiv (eCall (callP 2 0 (fun ds _ => ds) f_mixed) (aCons (eOp opAddK (eOp opIx (eV 0) (eC (.int 3))) (eOp opMulK (eC (.int 104729)) (eOp opIx (eV 0) (eC (.int 2))))) (aCons (eOp opIx (eV 0) (eC (.int 2))) (aNil))) (aNil)) (eC (.int 11))) (eV 1)))))
def f_take : Fn := fnOf 4 (b_take)
theorem u_take {E : XE} {Q : D → Hm → Prop} {h : Hm} {d0 d1 : D} (w : EvS (fun c l _ h => E c l h) (b_take [some d0, some d1, none, none] h) (poF Q)) : Ev E (f_take [d0, d1] h) Q := ev_fn w
def b_of : MS := sRet (eOp opIx (eV 1) (eCall (callP 2 0 (fun ds _ => ds) f_take) (aCons (eV 0) (aCons (eBi bLen (aCons (eV 1) (aNil))) (aNil))) (aNil)))
def f_of : Fn := fnOf 2 (b_of)
theorem u_of {E : XE} {Q : D → Hm → Prop} {h : Hm} {d0 d1 : D} (w : EvS (fun c l _ h => E c l h) (b_of [some d0, some d1] h) (poF Q)) : Ev E (f_of [d0, d1] h) Q := ev_fn w
def b_thing_by : MS := sSeq (sAsg (eOp opMulS (eOp opIxA (eC (.str q_abcdefghij)) (eCall (callP 2 0 (fun ds _ => ds) f_take) (aCons (eV 0) (aCons (eC (.int 10)) (aNil))) (aNil))) (eCall (callP 2 0 (fun ds _ => ds) f_take) (aCons (eV 0) (aCons (eC (.int 4)) (aNil))) (aNil))) (gN 1))
  (sRet (eCall (callP 2 0 (fun ds _ => ds) f_of) (aCons (eV 0) (aCons (eLstK (aCons (eV 1) (aCons (eCall (callP 2 0 (fun ds _ => ds) f_take) (aCons (eV 0) (aCons (eC (.int 100)) (aNil))) (aNil)) (aCons (eC .non) (aCons (eTup (aCons (eV 1) (aCons (eC (.int 3)) (aNil)))) (aCons (eLstK (aCons (eV 1) (aNil))) (aCons (eUn opNeg (eC (.int 1))) (aCons (eC (.bl true)) (aCons (eDict [(eC (.int 1), eV 1)]) (aCons (eC (.int 1)) (aNil))))))))))) (aNil))) (aNil)))
def f_thing_by : Fn := fnOf 2 (b_thing_by)
theorem u_thing_by {E : XE} {Q : D → Hm → Prop} {h : Hm} {d0 : D} (w : EvS (fun c l _ h => E c l h) (b_thing_by [some d0, none] h) (poF Q)) : Ev E (f_thing_by [d0] h) Q := ev_fn w
def b_lines : MS := sSeq (sPar [3, 4, 5] (aCons (eLstK (aCons (eC (.str q_mill)) (aCons (eC (.str q_value)) (aNil)))) (aCons (eLstK (aCons (eC (.str q_lack)) (aCons (eC (.str q_lookup)) (aNil)))) (aCons (eLstK (aCons (eC (.str q_cant)) (aCons (eC (.str q_run)) (aNil)))) (aNil)))))
  (sSeq (sAsg (eLst (aCons (eTup (aCons (eExc 0 [q_row] (aCons (eV 0) (aNil))) (aCons (eC (.str q_program)) (aCons (eV 3) (aNil))))) (aCons (eTup (aCons (eExc 1 [q_row] (aCons (eV 0) (aNil))) (aCons (eC (.str q_code)) (aCons (eV 3) (aNil))))) (aCons (eTup (aCons (eExc 2 [q_at] (aCons (eV 0) (aNil))) (aCons (eC (.str q_given)) (aCons (eV 3) (aNil))))) (aNil))))) (gN 2))
  (sSeq (sAsg (eOp opAddM (eV 2) (eLstK (aCons (eTup (aCons (eExc 3 [q_at] (aCons (eV 0) (aNil))) (aCons (eC (.str q_paper)) (aCons (eV 3) (aNil))))) (aCons (eTup (aCons (eExc 4 [q_row, q_word] (aCons (eV 0) (aCons (eV 1) (aNil)))) (aCons (eC (.str q_line)) (aCons (eV 3) (aNil))))) (aNil))))) (gN 2))
  (sSeq (sAsg (eOp opAddM (eV 2) (eLstK (aCons (eTup (aCons (eExc 5 [q_at] (aCons (eV 0) (aNil))) (aCons (eC (.str q_state)) (aCons (eV 3) (aNil))))) (aCons (eTup (aCons (eExc 6 [q_name] (aCons (eV 0) (aNil))) (aCons (eC (.str q_such)) (aCons (eV 4) (aNil))))) (aCons (eTup (aCons (eXn 7 (eC (.str q_a))) (aCons (eC (.str q_gone)) (aCons (eV 4) (aNil))))) (aNil)))))) (gN 2))
  (sSeq (sAsg (eOp opAddM (eV 2) (eLstK (aCons (eTup (aCons (eXn 8 (eC (.str q_a))) (aCons (eC (.str q_busy)) (aCons (eV 5) (aNil))))) (aCons (eTup (aCons (eExc 9 [q_most] (aCons (eV 0) (aNil))) (aCons (eC (.str q_full)) (aCons (eV 5) (aNil))))) (aCons (eTup (aCons (eExc 10 [q_wanted] (aCons (eV 0) (aNil))) (aCons (eC (.str q_kind)) (aCons (eLstK (aCons (eC (.str q_sort)) (aNil))) (aNil))))) (aNil)))))) (gN 2))
  (sSeq (sExpr (eBM "list" mAppend (eV 2) (aCons (eTup (aCons (eExc 11 [q_at] (aCons (eV 0) (aNil))) (aCons (eC (.str q_number)) (aCons (eLstK (aCons (eC (.str q_lookup)) (aCons (eC (.str q_index)) (aNil)))) (aNil))))) (aNil))))
  (sRet (eOp opAddK (eV 2) (eLstK (aCons (eTup (aCons (eExc 12 [q_word] (aCons (eV 0) (aNil))) (aCons (eC (.str q_trap)) (aCons (eLstK (aCons (eC (.str q_arithmetic)) (aNil))) (aNil))))) (aNil))))))))))
def f_lines : Fn := fnOf 6 (b_lines)
theorem u_lines {E : XE} {Q : D → Hm → Prop} {h : Hm} {d0 d1 : D} (w : EvS (fun c l _ h => E c l h) (b_lines [some d0, some d1, none, none, none, none] h) (poF Q)) : Ev E (f_lines [d0, d1] h) Q := ev_fn w
def c_words_1 : ME := eV 4
def b_words : MS := sSeq (sAsg (eLstK (aCons (eIs [] [] [(0, true), (1, false), (2, false), (3, false), (4, false), (5, false), (6, false), (7, false), (8, false), (9, false), (10, false), (11, false), (12, false)] (eV 0)) (aCons (eIs [] [] [(0, false), (1, true), (2, false), (3, false), (4, false), (5, false), (6, false), (7, false), (8, false), (9, false), (10, false), (11, false), (12, false)] (eV 0)) (aCons (eIs [] [] [(0, false), (1, false), (2, true), (3, false), (4, false), (5, false), (6, false), (7, false), (8, false), (9, false), (10, false), (11, false), (12, false)] (eV 0)) (aCons (eIs [] [] [(0, false), (1, false), (2, false), (3, true), (4, false), (5, false), (6, false), (7, false), (8, false), (9, false), (10, false), (11, false), (12, false)] (eV 0)) (aNil)))))) (gN 1))
  (sSeq (sAsg (eOp opAddK (eV 1) (eLstK (aCons (eIs [] [] [(0, false), (1, false), (2, false), (3, false), (4, true), (5, false), (6, false), (7, false), (8, false), (9, false), (10, false), (11, false), (12, false)] (eV 0)) (aCons (eIs [] [] [(0, false), (1, false), (2, false), (3, false), (4, false), (5, true), (6, false), (7, false), (8, false), (9, false), (10, false), (11, false), (12, false)] (eV 0)) (aCons (eIs [] [] [(0, false), (1, false), (2, false), (3, false), (4, false), (5, false), (6, true), (7, false), (8, false), (9, false), (10, false), (11, false), (12, false)] (eV 0)) (aCons (eIs [] [] [(0, false), (1, false), (2, false), (3, false), (4, false), (5, false), (6, false), (7, true), (8, false), (9, false), (10, false), (11, false), (12, false)] (eV 0)) (aNil))))))) (gN 1))
  (sSeq (sAsg (eOp opAddK (eV 1) (eLstK (aCons (eIs [] [] [(0, false), (1, false), (2, false), (3, false), (4, false), (5, false), (6, false), (7, false), (8, true), (9, false), (10, false), (11, false), (12, false)] (eV 0)) (aCons (eIs [] [] [(0, false), (1, false), (2, false), (3, false), (4, false), (5, false), (6, false), (7, false), (8, false), (9, true), (10, false), (11, false), (12, false)] (eV 0)) (aCons (eIs [] [] [(0, false), (1, false), (2, false), (3, false), (4, false), (5, false), (6, false), (7, false), (8, false), (9, false), (10, true), (11, false), (12, false)] (eV 0)) (aCons (eIs [] [] [(0, false), (1, false), (2, false), (3, false), (4, false), (5, false), (6, false), (7, false), (8, false), (9, false), (10, false), (11, true), (12, false)] (eV 0)) (aNil))))))) (gN 1))
  (sSeq (sAsg (eOp opAddK (eV 1) (eLstK (aCons (eIs [] [] [(0, false), (1, false), (2, false), (3, false), (4, false), (5, false), (6, false), (7, false), (8, false), (9, false), (10, false), (11, false), (12, true)] (eV 0)) (aNil)))) (gN 1))
  (sSeq (sAsg (eLstK (aCons (eC (.str q_program)) (aCons (eC (.str q_code)) (aCons (eC (.str q_given)) (aCons (eC (.str q_paper)) (aCons (eC (.str q_line)) (aCons (eC (.str q_state)) (aCons (eC (.str q_such)) (aCons (eC (.str q_gone)) (aCons (eC (.str q_busy)) (aCons (eC (.str q_full)) (aCons (eC (.str q_kind)) (aCons (eC (.str q_number)) (aNil)))))))))))))) (gN 2))
  (sRet (eCompK (iZip (aCons (eOp opAddK (eV 2) (eLstK (aCons (eC (.str q_trap)) (aNil)))) (aCons (eV 1) (aNil)))) [4, 3] false [4, 3] (tB (eV 3)) c_words_1))))))
def f_words : Fn := fnOf 5 (b_words)
theorem u_words {E : XE} {Q : D → Hm → Prop} {h : Hm} {d0 : D} (w : EvS (fun c l _ h => E c l h) (b_words [some d0, none, none, none, none] h) (poF Q)) : Ev E (f_words [d0] h) Q := ev_fn w
def c_kinds_1 : ME := eV 4
def b_kinds : MS := sSeq (sAsg (eLstK (aCons (eIs [] [] [(0, true), (1, true), (2, true), (3, true), (4, true), (5, true), (6, false), (7, false), (8, false), (9, false), (10, false), (11, false), (12, false)] (eV 0)) (aCons (eIs [] [] [(0, false), (1, false), (2, false), (3, false), (4, false), (5, false), (6, true), (7, true), (8, false), (9, false), (10, false), (11, false), (12, false)] (eV 0)) (aCons (eIs [] [] [(0, false), (1, false), (2, false), (3, false), (4, false), (5, false), (6, false), (7, false), (8, true), (9, true), (10, false), (11, false), (12, false)] (eV 0)) (aCons (eIs [] [] [(0, false), (1, false), (2, false), (3, false), (4, false), (5, false), (6, false), (7, false), (8, false), (9, false), (10, true), (11, false), (12, false)] (eV 0)) (aNil)))))) (gN 1))
  (sSeq (sAsg (eOp opAddK (eV 1) (eLstK (aCons (eIs [] [] [(0, true), (1, true), (2, true), (3, true), (4, true), (5, true), (6, false), (7, false), (8, false), (9, false), (10, false), (11, false), (12, false)] (eV 0)) (aCons (eIs [] [] [(0, false), (1, false), (2, false), (3, false), (4, false), (5, false), (6, true), (7, true), (8, false), (9, false), (10, false), (11, true), (12, false)] (eV 0)) (aCons (eIs [] [] [(0, false), (1, false), (2, false), (3, false), (4, false), (5, false), (6, false), (7, false), (8, false), (9, false), (10, false), (11, true), (12, false)] (eV 0)) (aNil)))))) (gN 1))
  (sSeq (sAsg (eOp opAddK (eV 1) (eLstK (aCons (eIs [] [] [(0, false), (1, false), (2, false), (3, false), (4, false), (5, false), (6, false), (7, false), (8, false), (9, false), (10, false), (11, false), (12, false)] (eV 0)) (aCons (eIs [] [] [(0, false), (1, false), (2, false), (3, false), (4, false), (5, false), (6, false), (7, false), (8, true), (9, true), (10, false), (11, false), (12, false)] (eV 0)) (aCons (eIs [] [] [(0, false), (1, false), (2, false), (3, false), (4, false), (5, false), (6, false), (7, false), (8, false), (9, false), (10, false), (11, false), (12, true)] (eV 0)) (aNil)))))) (gN 1))
  (sSeq (sAsg (eOp opAddK (eV 1) (eLstK (aCons (eIs [] [] [(0, false), (1, false), (2, false), (3, false), (4, false), (5, false), (6, false), (7, false), (8, false), (9, false), (10, false), (11, false), (12, false)] (eV 0)) (aCons (eIs [] [] [(0, false), (1, false), (2, false), (3, false), (4, false), (5, false), (6, false), (7, false), (8, false), (9, false), (10, false), (11, false), (12, false)] (eV 0)) (aNil))))) (gN 1))
  (sSeq (sAsg (eLstK (aCons (eC (.str q_mill)) (aCons (eC (.str q_lack)) (aCons (eC (.str q_cant)) (aCons (eC (.str q_sort)) (aCons (eC (.str q_value)) (aCons (eC (.str q_lookup)) (aCons (eC (.str q_index)) (aCons (eC (.str q_key)) (aCons (eC (.str q_run)) (aCons (eC (.str q_arithmetic)) (aCons (eC (.str q_over)) (aCons (eC (.str q_nought)) (aNil)))))))))))))) (gN 2))
  (sRet (eCompK (iZip (aCons (eV 2) (aCons (eV 1) (aNil)))) [4, 3] false [4, 3] (tB (eV 3)) c_kinds_1))))))
def f_kinds : Fn := fnOf 5 (b_kinds)
theorem u_kinds {E : XE} {Q : D → Hm → Prop} {h : Hm} {d0 : D} (w : EvS (fun c l _ h => E c l h) (b_kinds [some d0, none, none, none, none] h) (poF Q)) : Ev E (f_kinds [d0] h) Q := ev_fn w
def b_fields : MS := sSeq (sAsg (eLstK (aCons (eXf (eOp opIx (eV 0) (eC (.int 0))) [0, 1, 4] q_row) (aCons (eXf (eOp opIx (eV 0) (eC (.int 1))) [0, 1, 4] q_row) (aCons (eXf (eOp opIx (eV 0) (eC (.int 2))) [2, 3, 5, 11] q_at) (aCons (eXf (eOp opIx (eV 0) (eC (.int 3))) [2, 3, 5, 11] q_at) (aCons (eXf (eOp opIx (eV 0) (eC (.int 4))) [0, 1, 4] q_row) (aCons (eXf (eOp opIx (eV 0) (eC (.int 4))) [4, 12] q_word) (aCons (eXf (eOp opIx (eV 0) (eC (.int 5))) [2, 3, 5, 11] q_at) (aCons (eXf (eOp opIx (eV 0) (eC (.int 6))) [6] q_name) (aNil)))))))))) (gN 1))
  (sRet (eOp opAddK (eV 1) (eLstK (aCons (eXf (eOp opIx (eV 0) (eC (.int 9))) [9] q_most) (aCons (eXf (eOp opIx (eV 0) (eC (.int 10))) [10] q_wanted) (aCons (eXf (eOp opIx (eV 0) (eC (.int 11))) [2, 3, 5, 11] q_at) (aCons (eXf (eOp opIx (eV 0) (eC (.int 12))) [4, 12] q_word) (aNil))))))))
def f_fields : Fn := fnOf 2 (b_fields)
theorem u_fields {E : XE} {Q : D → Hm → Prop} {h : Hm} {d0 : D} (w : EvS (fun c l _ h => E c l h) (b_fields [some d0, none] h) (poF Q)) : Ev E (f_fields [d0] h) Q := ev_fn w
def l_law_1 : MS := sIf (tOr (tB (eOp opNe (eCall (callP 1 0 (fun ds _ => ds) f_words) (aCons (eV 6) (aNil)) (aNil)) (eLstK (aCons (eV 7) (aNil))))) (tOr (tB (eOp opNe (eCall (callP 1 0 (fun ds _ => ds) f_kinds) (aCons (eV 6) (aNil)) (aNil)) (eV 8))) (tNot (tB (eIs [] [] [(0, true), (1, true), (2, true), (3, true), (4, true), (5, true), (6, true), (7, true), (8, true), (9, true), (10, true), (11, true), (12, true)] (eV 6)))))) (sRet (eC (.bl false))) (sNext)
def c_law_2 : ME := eOp opIx (eV 11) (eC (.int 0))
def c_law_3 : ME := eOp opIx (eV 11) (eC (.int 0))
def l_law_4 : MS := sSeq (sPar [4, 5] (aCons (eCall (callP 1 0 (fun ds _ => ds) f_thing_by) (aCons (eV 1) (aNil)) (aNil)) (aCons (eCall (callP 1 0 (fun ds _ => ds) f_thing_by) (aCons (eV 1) (aNil)) (aNil)) (aNil))))
  (sSeq (sAsg (eCall (callP 2 0 (fun ds _ => ds) f_lines) (aCons (eV 4) (aCons (eV 5) (aNil))) (aNil)) (gN 3))
  (sSeq (sFor (iSeq (eOp opAddK (eV 3) (eCall (callP 2 0 (fun ds _ => ds) f_lines) (aCons (eV 5) (aCons (eV 4) (aNil))) (aNil)))) (gT 3 [gN 6, gN 7, gN 8]) l_law_1)
  (sSeq (sPar [9, 10] (aCons (eCompK (iSeq (eV 3)) [11] true [11] (tYes) c_law_2) (aCons (eOp opAddK (eOp opAddK (eOp opMulK (eLst (aCons (eV 4) (aNil))) (eC (.int 5))) (eLstK (aCons (eV 5) (aNil)))) (eOp opMulK (eLst (aCons (eV 4) (aNil))) (eC (.int 6)))) (aNil))))
  (sSeq (sIf (tB (eOp opNe (eBi bReprR (aCons (eCall (callP 1 0 (fun ds _ => ds) f_fields) (aCons (eV 9) (aNil)) (aNil)) (aNil))) (eBi bReprR (aCons (eV 10) (aNil))))) (sRet (eC (.bl false))) (sNext))
  (sIf (tB (eOp opNe (eBi bReprR (aCons (eCall (callP 1 0 (fun ds _ => ds) f_fields) (aCons (eCompK (iSeq (eCall (callP 2 0 (fun ds _ => ds) f_lines) (aCons (eV 4) (aCons (eV 5) (aNil))) (aNil))) [11] true [11] (tYes) c_law_3) (aNil)) (aNil)) (aNil))) (eBi bReprR (aCons (eV 10) (aNil))))) (sRet (eC (.bl false))) (sNext))))))
def b_law : MS := sSeq (sAsg (eLst (aCons (eSl (eOp opAddK (eV 0) (eLstK (aCons (eC (.int 0)) (aNil)))) oNone (oSome (eC (.int 63)))) (aCons (eC (.int 0)) (aCons (eC (.int 0)) (aCons (eC (.int 7)) (aCons (eC (.int 0)) (aNil))))))) (gN 1))
  (sSeq (sFor (iRng (aCons (eOp opAddK (eC (.int 2)) (eBi bMin2 (aCons (eC (.int 38)) (aCons (eBi bLen (aCons (eV 0) (aNil))) (aNil))))) (aNil))) (gN 2) l_law_4)
  (sRet (eC (.bl true))))
def f_law : Fn := fnOf 12 (b_law)
theorem u_law {E : XE} {Q : D → Hm → Prop} {h : Hm} {d0 : D} (w : EvS (fun c l _ h => E c l h) (b_law [some d0, none, none, none, none, none, none, none, none, none, none, none] h) (poF Q)) : Ev E (f_law [d0] h) Q := ev_fn w
end Lw
end
section
/-! The defs keep what M says of them. -/
namespace Lw
open PySem L2 PyProof.Rows Mo He
def topS (i : Nat) : Stmt := PySem.Challenge.pw_tagmill_k02_families_of_refusals.main.body.getD i (.Pass ⟨0, 0, 0, 0⟩)
abbrev s_BadProgram_init : Stmt := inClass (topS 2) 0
abbrev s_BadCode_init : Stmt := inClass (topS 3) 0
abbrev s_BadGiven_init : Stmt := inClass (topS 4) 0
abbrev s_BadPaper_init : Stmt := inClass (topS 5) 0
abbrev s_BadLine_init : Stmt := inClass (topS 6) 0
abbrev s_BadState_init : Stmt := inClass (topS 7) 0
abbrev s_NoSuch_init : Stmt := inClass (topS 9) 0
abbrev s_Full_init : Stmt := inClass (topS 13) 0
abbrev s_BadKind_init : Stmt := inClass (topS 14) 0
abbrev s_BadNumber_init : Stmt := inClass (topS 15) 0
abbrev s_Trap_init : Stmt := inClass (topS 16) 0
abbrev s_mixed : Stmt := topS 18
abbrev s_take : Stmt := topS 19
abbrev s_of : Stmt := topS 20
abbrev s_thing_by : Stmt := topS 23
abbrev s_lines : Stmt := topS 24
abbrev s_words : Stmt := topS 21
abbrev s_kinds : Stmt := topS 22
abbrev s_fields : Stmt := topS 25
abbrev s_law : Stmt := topS 26
abbrev dd_BadProgram_init : DefD := ⟨("BadProgram", some "__init__"), "__init__", "BadProgram.__init__", defArgs s_BadProgram_init, defBody s_BadProgram_init, defScope s_BadProgram_init, [], []⟩
abbrev dd_BadCode_init : DefD := ⟨("BadCode", some "__init__"), "__init__", "BadCode.__init__", defArgs s_BadCode_init, defBody s_BadCode_init, defScope s_BadCode_init, [], []⟩
abbrev dd_BadGiven_init : DefD := ⟨("BadGiven", some "__init__"), "__init__", "BadGiven.__init__", defArgs s_BadGiven_init, defBody s_BadGiven_init, defScope s_BadGiven_init, [], []⟩
abbrev dd_BadPaper_init : DefD := ⟨("BadPaper", some "__init__"), "__init__", "BadPaper.__init__", defArgs s_BadPaper_init, defBody s_BadPaper_init, defScope s_BadPaper_init, [], []⟩
abbrev dd_BadLine_init : DefD := ⟨("BadLine", some "__init__"), "__init__", "BadLine.__init__", defArgs s_BadLine_init, defBody s_BadLine_init, defScope s_BadLine_init, [], []⟩
abbrev dd_BadState_init : DefD := ⟨("BadState", some "__init__"), "__init__", "BadState.__init__", defArgs s_BadState_init, defBody s_BadState_init, defScope s_BadState_init, [], []⟩
abbrev dd_NoSuch_init : DefD := ⟨("NoSuch", some "__init__"), "__init__", "NoSuch.__init__", defArgs s_NoSuch_init, defBody s_NoSuch_init, defScope s_NoSuch_init, [], []⟩
abbrev dd_Full_init : DefD := ⟨("Full", some "__init__"), "__init__", "Full.__init__", defArgs s_Full_init, defBody s_Full_init, defScope s_Full_init, [], []⟩
abbrev dd_BadKind_init : DefD := ⟨("BadKind", some "__init__"), "__init__", "BadKind.__init__", defArgs s_BadKind_init, defBody s_BadKind_init, defScope s_BadKind_init, [], []⟩
abbrev dd_BadNumber_init : DefD := ⟨("BadNumber", some "__init__"), "__init__", "BadNumber.__init__", defArgs s_BadNumber_init, defBody s_BadNumber_init, defScope s_BadNumber_init, [], []⟩
abbrev dd_Trap_init : DefD := ⟨("Trap", some "__init__"), "__init__", "Trap.__init__", defArgs s_Trap_init, defBody s_Trap_init, defScope s_Trap_init, [], []⟩
abbrev dd_mixed : DefD := ⟨("_law_mixed", none), "_law_mixed", "_law_mixed", defArgs s_mixed, defBody s_mixed, defScope s_mixed, [], []⟩
abbrev dd_take : DefD := ⟨("_law_take", none), "_law_take", "_law_take", defArgs s_take, defBody s_take, defScope s_take, [], []⟩
abbrev dd_of : DefD := ⟨("_law_of", none), "_law_of", "_law_of", defArgs s_of, defBody s_of, defScope s_of, [], []⟩
abbrev dd_thing_by : DefD := ⟨("_law_thing_by", none), "_law_thing_by", "_law_thing_by", defArgs s_thing_by, defBody s_thing_by, defScope s_thing_by, [], []⟩
abbrev dd_lines : DefD := ⟨("_law_lines", none), "_law_lines", "_law_lines", defArgs s_lines, defBody s_lines, defScope s_lines, [], []⟩
abbrev dd_words : DefD := ⟨("_law_words", none), "_law_words", "_law_words", defArgs s_words, defBody s_words, defScope s_words, [], []⟩
abbrev dd_kinds : DefD := ⟨("_law_kinds", none), "_law_kinds", "_law_kinds", defArgs s_kinds, defBody s_kinds, defScope s_kinds, [], []⟩
abbrev dd_fields : DefD := ⟨("_law_fields", none), "_law_fields", "_law_fields", defArgs s_fields, defBody s_fields, defScope s_fields, [], []⟩
abbrev dd_law : DefD := ⟨("law", none), "law", "law", defArgs s_law, defBody s_law, defScope s_law, [], []⟩
abbrev fn_ : List DefD := [dd_BadProgram_init, dd_BadCode_init, dd_BadGiven_init, dd_BadPaper_init, dd_BadLine_init, dd_BadState_init, dd_NoSuch_init, dd_Full_init, dd_BadKind_init, dd_BadNumber_init, dd_Trap_init, dd_mixed, dd_take, dd_of, dd_thing_by, dd_lines, dd_words, dd_kinds, dd_fields, dd_law]
abbrev fa_ : List Fa := [.glo "BadProgram", .glo "MillError", .glo "BadCode", .glo "BadGiven", .glo "BadPaper", .glo "BadLine", .glo "BadState", .glo "NoSuch", .glo "Lack", .glo "Gone", .glo "Busy", .glo "Full", .glo "Cant", .glo "BadKind", .free "TypeError", .glo "BadNumber", .free "IndexError", .glo "Trap", .free "ArithmeticError", .free "min", .free "len", .free "range", .glo "_law_mixed", .glo "_law_take", .glo "_law_of", .glo "_law_thing_by", .glo "_law_lines", .free "isinstance", .free "zip", .glo "_law_words", .free "ValueError", .free "LookupError", .free "KeyError", .free "RuntimeError", .free "OverflowError", .free "ZeroDivisionError", .glo "_law_kinds", .free "Exception", .free "repr", .glo "_law_fields", .glo "law"]
def cA_ (K : PySem.W.Frag) : Nat → Addr := fun c => match c with | 0 => ga K "BadProgram" | 1 => ga K "BadCode" | 2 => ga K "BadGiven" | 3 => ga K "BadPaper" | 4 => ga K "BadLine" | 5 => ga K "BadState" | 6 => ga K "NoSuch" | 7 => ga K "Gone" | 8 => ga K "Busy" | 9 => ga K "Full" | 10 => ga K "BadKind" | 11 => ga K "BadNumber" | 12 => ga K "Trap" | _ => 0
def ex_ (K : PySem.W.Frag) : Bool := ciB K "MillError" "ValueError.__init__" && (excB K "BadProgram" [.type "ValueError", .type "Exception", .type "BaseException", .type "object"] "ValueError.__new__" [q_row] && (excB K "BadCode" [.type "ValueError", .type "Exception", .type "BaseException", .type "object"] "ValueError.__new__" [q_row] && (excB K "BadGiven" [.type "ValueError", .type "Exception", .type "BaseException", .type "object"] "ValueError.__new__" [q_at] && (excB K "BadPaper" [.type "ValueError", .type "Exception", .type "BaseException", .type "object"] "ValueError.__new__" [q_at] && (excB K "BadLine" [.type "ValueError", .type "Exception", .type "BaseException", .type "object"] "ValueError.__new__" [q_row, q_word] && (excB K "BadState" [.type "ValueError", .type "Exception", .type "BaseException", .type "object"] "ValueError.__new__" [q_at] && (ciB K "Lack" "LookupError.__init__" && (excB K "NoSuch" [.type "LookupError", .type "Exception", .type "BaseException", .type "object"] "LookupError.__new__" [q_name] && (ciB K "Cant" "RuntimeError.__init__" && (excB K "Full" [.type "RuntimeError", .type "Exception", .type "BaseException", .type "object"] "RuntimeError.__new__" [q_most] && (biB K "TypeError" "TypeError.__init__" && (excB K "BadKind" [.type "TypeError", .type "Exception", .type "BaseException", .type "object"] "TypeError.__new__" [q_wanted] && (biB K "IndexError" "IndexError.__init__" && (excB K "BadNumber" [.type "IndexError", .type "LookupError", .type "Exception", .type "BaseException", .type "object"] "IndexError.__new__" [q_at] && (biB K "ArithmeticError" "ArithmeticError.__init__" && (excB K "Trap" [.type "ArithmeticError", .type "Exception", .type "BaseException", .type "object"] "ArithmeticError.__new__" [q_word] && (xnB K "Gone" [.type "LookupError", .type "Exception", .type "BaseException", .type "object"] "LookupError.__new__" && (xnB K "Busy" [.type "RuntimeError", .type "Exception", .type "BaseException", .type "object"] "RuntimeError.__new__" && (isB K (cA_ K) [.own "BadProgram"] [] [] [(0, true), (1, false), (2, false), (3, false), (4, false), (5, false), (6, false), (7, false), (8, false), (9, false), (10, false), (11, false), (12, false)] && (isB K (cA_ K) [.own "BadCode"] [] [] [(0, false), (1, true), (2, false), (3, false), (4, false), (5, false), (6, false), (7, false), (8, false), (9, false), (10, false), (11, false), (12, false)] && (isB K (cA_ K) [.own "BadGiven"] [] [] [(0, false), (1, false), (2, true), (3, false), (4, false), (5, false), (6, false), (7, false), (8, false), (9, false), (10, false), (11, false), (12, false)] && (isB K (cA_ K) [.own "BadPaper"] [] [] [(0, false), (1, false), (2, false), (3, true), (4, false), (5, false), (6, false), (7, false), (8, false), (9, false), (10, false), (11, false), (12, false)] && (isB K (cA_ K) [.own "BadLine"] [] [] [(0, false), (1, false), (2, false), (3, false), (4, true), (5, false), (6, false), (7, false), (8, false), (9, false), (10, false), (11, false), (12, false)] && (isB K (cA_ K) [.own "BadState"] [] [] [(0, false), (1, false), (2, false), (3, false), (4, false), (5, true), (6, false), (7, false), (8, false), (9, false), (10, false), (11, false), (12, false)] && (isB K (cA_ K) [.own "NoSuch"] [] [] [(0, false), (1, false), (2, false), (3, false), (4, false), (5, false), (6, true), (7, false), (8, false), (9, false), (10, false), (11, false), (12, false)] && (isB K (cA_ K) [.own "Gone"] [] [] [(0, false), (1, false), (2, false), (3, false), (4, false), (5, false), (6, false), (7, true), (8, false), (9, false), (10, false), (11, false), (12, false)] && (isB K (cA_ K) [.own "Busy"] [] [] [(0, false), (1, false), (2, false), (3, false), (4, false), (5, false), (6, false), (7, false), (8, true), (9, false), (10, false), (11, false), (12, false)] && (isB K (cA_ K) [.own "Full"] [] [] [(0, false), (1, false), (2, false), (3, false), (4, false), (5, false), (6, false), (7, false), (8, false), (9, true), (10, false), (11, false), (12, false)] && (isB K (cA_ K) [.own "BadKind"] [] [] [(0, false), (1, false), (2, false), (3, false), (4, false), (5, false), (6, false), (7, false), (8, false), (9, false), (10, true), (11, false), (12, false)] && (isB K (cA_ K) [.own "BadNumber"] [] [] [(0, false), (1, false), (2, false), (3, false), (4, false), (5, false), (6, false), (7, false), (8, false), (9, false), (10, false), (11, true), (12, false)] && (isB K (cA_ K) [.own "Trap"] [] [] [(0, false), (1, false), (2, false), (3, false), (4, false), (5, false), (6, false), (7, false), (8, false), (9, false), (10, false), (11, false), (12, true)] && (isB K (cA_ K) [.own "MillError"] [] [] [(0, true), (1, true), (2, true), (3, true), (4, true), (5, true), (6, false), (7, false), (8, false), (9, false), (10, false), (11, false), (12, false)] && (isB K (cA_ K) [.own "Lack"] [] [] [(0, false), (1, false), (2, false), (3, false), (4, false), (5, false), (6, true), (7, true), (8, false), (9, false), (10, false), (11, false), (12, false)] && (isB K (cA_ K) [.own "Cant"] [] [] [(0, false), (1, false), (2, false), (3, false), (4, false), (5, false), (6, false), (7, false), (8, true), (9, true), (10, false), (11, false), (12, false)] && (isB K (cA_ K) [.ty "TypeError"] [] [] [(0, false), (1, false), (2, false), (3, false), (4, false), (5, false), (6, false), (7, false), (8, false), (9, false), (10, true), (11, false), (12, false)] && (isB K (cA_ K) [.ty "ValueError"] [] [] [(0, true), (1, true), (2, true), (3, true), (4, true), (5, true), (6, false), (7, false), (8, false), (9, false), (10, false), (11, false), (12, false)] && (isB K (cA_ K) [.ty "LookupError"] [] [] [(0, false), (1, false), (2, false), (3, false), (4, false), (5, false), (6, true), (7, true), (8, false), (9, false), (10, false), (11, true), (12, false)] && (isB K (cA_ K) [.ty "IndexError"] [] [] [(0, false), (1, false), (2, false), (3, false), (4, false), (5, false), (6, false), (7, false), (8, false), (9, false), (10, false), (11, true), (12, false)] && (isB K (cA_ K) [.ty "KeyError"] [] [] [(0, false), (1, false), (2, false), (3, false), (4, false), (5, false), (6, false), (7, false), (8, false), (9, false), (10, false), (11, false), (12, false)] && (isB K (cA_ K) [.ty "RuntimeError"] [] [] [(0, false), (1, false), (2, false), (3, false), (4, false), (5, false), (6, false), (7, false), (8, true), (9, true), (10, false), (11, false), (12, false)] && (isB K (cA_ K) [.ty "ArithmeticError"] [] [] [(0, false), (1, false), (2, false), (3, false), (4, false), (5, false), (6, false), (7, false), (8, false), (9, false), (10, false), (11, false), (12, true)] && (isB K (cA_ K) [.ty "OverflowError"] [] [] [(0, false), (1, false), (2, false), (3, false), (4, false), (5, false), (6, false), (7, false), (8, false), (9, false), (10, false), (11, false), (12, false)] && (isB K (cA_ K) [.ty "ZeroDivisionError"] [] [] [(0, false), (1, false), (2, false), (3, false), (4, false), (5, false), (6, false), (7, false), (8, false), (9, false), (10, false), (11, false), (12, false)] && (isB K (cA_ K) [.ty "Exception"] [] [] [(0, true), (1, true), (2, true), (3, true), (4, true), (5, true), (6, true), (7, true), (8, true), (9, true), (10, true), (11, true), (12, true)] && (true)))))))))))))))))))))))))))))))))))))))))))))
abbrev Tt (K : PySem.W.Frag) (mg : Str → Option Value) : Prop := Tp fa_ fn_ ex_ K mg
theorem exb_0 {K : PySem.W.Frag} {mg : Str → Option Value} (T : Tt K mg) : ciB K "MillError" "ValueError.__init__" = true := (ba T.c.e).1
theorem exb_1 {K : PySem.W.Frag} {mg : Str → Option Value} (T : Tt K mg) : excB K "BadProgram" [.type "ValueError", .type "Exception", .type "BaseException", .type "object"] "ValueError.__new__" [q_row] = true := (ba (ba T.c.e).2).1
theorem exb_2 {K : PySem.W.Frag} {mg : Str → Option Value} (T : Tt K mg) : excB K "BadCode" [.type "ValueError", .type "Exception", .type "BaseException", .type "object"] "ValueError.__new__" [q_row] = true := (ba (ba (ba T.c.e).2).2).1
theorem exb_3 {K : PySem.W.Frag} {mg : Str → Option Value} (T : Tt K mg) : excB K "BadGiven" [.type "ValueError", .type "Exception", .type "BaseException", .type "object"] "ValueError.__new__" [q_at] = true := (ba (ba (ba (ba T.c.e).2).2).2).1
theorem exb_4 {K : PySem.W.Frag} {mg : Str → Option Value} (T : Tt K mg) : excB K "BadPaper" [.type "ValueError", .type "Exception", .type "BaseException", .type "object"] "ValueError.__new__" [q_at] = true := (ba (ba (ba (ba (ba T.c.e).2).2).2).2).1
theorem exb_5 {K : PySem.W.Frag} {mg : Str → Option Value} (T : Tt K mg) : excB K "BadLine" [.type "ValueError", .type "Exception", .type "BaseException", .type "object"] "ValueError.__new__" [q_row, q_word] = true := (ba (ba (ba (ba (ba (ba T.c.e).2).2).2).2).2).1
theorem exb_6 {K : PySem.W.Frag} {mg : Str → Option Value} (T : Tt K mg) : excB K "BadState" [.type "ValueError", .type "Exception", .type "BaseException", .type "object"] "ValueError.__new__" [q_at] = true := (ba (ba (ba (ba (ba (ba (ba T.c.e).2).2).2).2).2).2).1
theorem exb_7 {K : PySem.W.Frag} {mg : Str → Option Value} (T : Tt K mg) : ciB K "Lack" "LookupError.__init__" = true := (ba (ba (ba (ba (ba (ba (ba (ba T.c.e).2).2).2).2).2).2).2).1
theorem exb_8 {K : PySem.W.Frag} {mg : Str → Option Value} (T : Tt K mg) : excB K "NoSuch" [.type "LookupError", .type "Exception", .type "BaseException", .type "object"] "LookupError.__new__" [q_name] = true := (ba (ba (ba (ba (ba (ba (ba (ba (ba T.c.e).2).2).2).2).2).2).2).2).1
theorem exb_9 {K : PySem.W.Frag} {mg : Str → Option Value} (T : Tt K mg) : ciB K "Cant" "RuntimeError.__init__" = true := (ba (ba (ba (ba (ba (ba (ba (ba (ba (ba T.c.e).2).2).2).2).2).2).2).2).2).1
theorem exb_10 {K : PySem.W.Frag} {mg : Str → Option Value} (T : Tt K mg) : excB K "Full" [.type "RuntimeError", .type "Exception", .type "BaseException", .type "object"] "RuntimeError.__new__" [q_most] = true := (ba (ba (ba (ba (ba (ba (ba (ba (ba (ba (ba T.c.e).2).2).2).2).2).2).2).2).2).2).1
theorem exb_11 {K : PySem.W.Frag} {mg : Str → Option Value} (T : Tt K mg) : biB K "TypeError" "TypeError.__init__" = true := (ba (ba (ba (ba (ba (ba (ba (ba (ba (ba (ba (ba T.c.e).2).2).2).2).2).2).2).2).2).2).2).1
theorem exb_12 {K : PySem.W.Frag} {mg : Str → Option Value} (T : Tt K mg) : excB K "BadKind" [.type "TypeError", .type "Exception", .type "BaseException", .type "object"] "TypeError.__new__" [q_wanted] = true := (ba (ba (ba (ba (ba (ba (ba (ba (ba (ba (ba (ba (ba T.c.e).2).2).2).2).2).2).2).2).2).2).2).2).1
theorem exb_13 {K : PySem.W.Frag} {mg : Str → Option Value} (T : Tt K mg) : biB K "IndexError" "IndexError.__init__" = true := (ba (ba (ba (ba (ba (ba (ba (ba (ba (ba (ba (ba (ba (ba T.c.e).2).2).2).2).2).2).2).2).2).2).2).2).2).1
theorem exb_14 {K : PySem.W.Frag} {mg : Str → Option Value} (T : Tt K mg) : excB K "BadNumber" [.type "IndexError", .type "LookupError", .type "Exception", .type "BaseException", .type "object"] "IndexError.__new__" [q_at] = true := (ba (ba (ba (ba (ba (ba (ba (ba (ba (ba (ba (ba (ba (ba (ba T.c.e).2).2).2).2).2).2).2).2).2).2).2).2).2).2).1
theorem exb_15 {K : PySem.W.Frag} {mg : Str → Option Value} (T : Tt K mg) : biB K "ArithmeticError" "ArithmeticError.__init__" = true := (ba (ba (ba (ba (ba (ba (ba (ba (ba (ba (ba (ba (ba (ba (ba (ba T.c.e).2).2).2).2).2).2).2).2).2).2).2).2).2).2).2).1
theorem exb_16 {K : PySem.W.Frag} {mg : Str → Option Value} (T : Tt K mg) : excB K "Trap" [.type "ArithmeticError", .type "Exception", .type "BaseException", .type "object"] "ArithmeticError.__new__" [q_word] = true := (ba (ba (ba (ba (ba (ba (ba (ba (ba (ba (ba (ba (ba (ba (ba (ba (ba T.c.e).2).2).2).2).2).2).2).2).2).2).2).2).2).2).2).2).1
theorem exb_17 {K : PySem.W.Frag} {mg : Str → Option Value} (T : Tt K mg) : xnB K "Gone" [.type "LookupError", .type "Exception", .type "BaseException", .type "object"] "LookupError.__new__" = true := (ba (ba (ba (ba (ba (ba (ba (ba (ba (ba (ba (ba (ba (ba (ba (ba (ba (ba T.c.e).2).2).2).2).2).2).2).2).2).2).2).2).2).2).2).2).2).1
theorem exb_18 {K : PySem.W.Frag} {mg : Str → Option Value} (T : Tt K mg) : xnB K "Busy" [.type "RuntimeError", .type "Exception", .type "BaseException", .type "object"] "RuntimeError.__new__" = true := (ba (ba (ba (ba (ba (ba (ba (ba (ba (ba (ba (ba (ba (ba (ba (ba (ba (ba (ba T.c.e).2).2).2).2).2).2).2).2).2).2).2).2).2).2).2).2).2).2).1
theorem exb_19 {K : PySem.W.Frag} {mg : Str → Option Value} (T : Tt K mg) : isB K (cA_ K) [.own "BadProgram"] [] [] [(0, true), (1, false), (2, false), (3, false), (4, false), (5, false), (6, false), (7, false), (8, false), (9, false), (10, false), (11, false), (12, false)] = true := (ba (ba (ba (ba (ba (ba (ba (ba (ba (ba (ba (ba (ba (ba (ba (ba (ba (ba (ba (ba T.c.e).2).2).2).2).2).2).2).2).2).2).2).2).2).2).2).2).2).2).2).1
theorem exb_20 {K : PySem.W.Frag} {mg : Str → Option Value} (T : Tt K mg) : isB K (cA_ K) [.own "BadCode"] [] [] [(0, false), (1, true), (2, false), (3, false), (4, false), (5, false), (6, false), (7, false), (8, false), (9, false), (10, false), (11, false), (12, false)] = true := (ba (ba (ba (ba (ba (ba (ba (ba (ba (ba (ba (ba (ba (ba (ba (ba (ba (ba (ba (ba (ba T.c.e).2).2).2).2).2).2).2).2).2).2).2).2).2).2).2).2).2).2).2).2).1
theorem exb_21 {K : PySem.W.Frag} {mg : Str → Option Value} (T : Tt K mg) : isB K (cA_ K) [.own "BadGiven"] [] [] [(0, false), (1, false), (2, true), (3, false), (4, false), (5, false), (6, false), (7, false), (8, false), (9, false), (10, false), (11, false), (12, false)] = true := (ba (ba (ba (ba (ba (ba (ba (ba (ba (ba (ba (ba (ba (ba (ba (ba (ba (ba (ba (ba (ba (ba T.c.e).2).2).2).2).2).2).2).2).2).2).2).2).2).2).2).2).2).2).2).2).2).1
theorem exb_22 {K : PySem.W.Frag} {mg : Str → Option Value} (T : Tt K mg) : isB K (cA_ K) [.own "BadPaper"] [] [] [(0, false), (1, false), (2, false), (3, true), (4, false), (5, false), (6, false), (7, false), (8, false), (9, false), (10, false), (11, false), (12, false)] = true := (ba (ba (ba (ba (ba (ba (ba (ba (ba (ba (ba (ba (ba (ba (ba (ba (ba (ba (ba (ba (ba (ba (ba T.c.e).2).2).2).2).2).2).2).2).2).2).2).2).2).2).2).2).2).2).2).2).2).2).1
theorem exb_23 {K : PySem.W.Frag} {mg : Str → Option Value} (T : Tt K mg) : isB K (cA_ K) [.own "BadLine"] [] [] [(0, false), (1, false), (2, false), (3, false), (4, true), (5, false), (6, false), (7, false), (8, false), (9, false), (10, false), (11, false), (12, false)] = true := (ba (ba (ba (ba (ba (ba (ba (ba (ba (ba (ba (ba (ba (ba (ba (ba (ba (ba (ba (ba (ba (ba (ba (ba T.c.e).2).2).2).2).2).2).2).2).2).2).2).2).2).2).2).2).2).2).2).2).2).2).2).1
theorem exb_24 {K : PySem.W.Frag} {mg : Str → Option Value} (T : Tt K mg) : isB K (cA_ K) [.own "BadState"] [] [] [(0, false), (1, false), (2, false), (3, false), (4, false), (5, true), (6, false), (7, false), (8, false), (9, false), (10, false), (11, false), (12, false)] = true := (ba (ba (ba (ba (ba (ba (ba (ba (ba (ba (ba (ba (ba (ba (ba (ba (ba (ba (ba (ba (ba (ba (ba (ba (ba T.c.e).2).2).2).2).2).2).2).2).2).2).2).2).2).2).2).2).2).2).2).2).2).2).2).2).1
theorem exb_25 {K : PySem.W.Frag} {mg : Str → Option Value} (T : Tt K mg) : isB K (cA_ K) [.own "NoSuch"] [] [] [(0, false), (1, false), (2, false), (3, false), (4, false), (5, false), (6, true), (7, false), (8, false), (9, false), (10, false), (11, false), (12, false)] = true := (ba (ba (ba (ba (ba (ba (ba (ba (ba (ba (ba (ba (ba (ba (ba (ba (ba (ba (ba (ba (ba (ba (ba (ba (ba (ba T.c.e).2).2).2).2).2).2).2).2).2).2).2).2).2).2).2).2).2).2).2).2).2).2).2).2).2).1
theorem exb_26 {K : PySem.W.Frag} {mg : Str → Option Value} (T : Tt K mg) : isB K (cA_ K) [.own "Gone"] [] [] [(0, false), (1, false), (2, false), (3, false), (4, false), (5, false), (6, false), (7, true), (8, false), (9, false), (10, false), (11, false), (12, false)] = true := (ba (ba (ba (ba (ba (ba (ba (ba (ba (ba (ba (ba (ba (ba (ba (ba (ba (ba (ba (ba (ba (ba (ba (ba (ba (ba (ba T.c.e).2).2).2).2).2).2).2).2).2).2).2).2).2).2).2).2).2).2).2).2).2).2).2).2).2).2).1
theorem exb_27 {K : PySem.W.Frag} {mg : Str → Option Value} (T : Tt K mg) : isB K (cA_ K) [.own "Busy"] [] [] [(0, false), (1, false), (2, false), (3, false), (4, false), (5, false), (6, false), (7, false), (8, true), (9, false), (10, false), (11, false), (12, false)] = true := (ba (ba (ba (ba (ba (ba (ba (ba (ba (ba (ba (ba (ba (ba (ba (ba (ba (ba (ba (ba (ba (ba (ba (ba (ba (ba (ba (ba T.c.e).2).2).2).2).2).2).2).2).2).2).2).2).2).2).2).2).2).2).2).2).2).2).2).2).2).2).2).1
theorem exb_28 {K : PySem.W.Frag} {mg : Str → Option Value} (T : Tt K mg) : isB K (cA_ K) [.own "Full"] [] [] [(0, false), (1, false), (2, false), (3, false), (4, false), (5, false), (6, false), (7, false), (8, false), (9, true), (10, false), (11, false), (12, false)] = true := (ba (ba (ba (ba (ba (ba (ba (ba (ba (ba (ba (ba (ba (ba (ba (ba (ba (ba (ba (ba (ba (ba (ba (ba (ba (ba (ba (ba (ba T.c.e).2).2).2).2).2).2).2).2).2).2).2).2).2).2).2).2).2).2).2).2).2).2).2).2).2).2).2).2).1
theorem exb_29 {K : PySem.W.Frag} {mg : Str → Option Value} (T : Tt K mg) : isB K (cA_ K) [.own "BadKind"] [] [] [(0, false), (1, false), (2, false), (3, false), (4, false), (5, false), (6, false), (7, false), (8, false), (9, false), (10, true), (11, false), (12, false)] = true := (ba (ba (ba (ba (ba (ba (ba (ba (ba (ba (ba (ba (ba (ba (ba (ba (ba (ba (ba (ba (ba (ba (ba (ba (ba (ba (ba (ba (ba (ba T.c.e).2).2).2).2).2).2).2).2).2).2).2).2).2).2).2).2).2).2).2).2).2).2).2).2).2).2).2).2).2).1
theorem exb_30 {K : PySem.W.Frag} {mg : Str → Option Value} (T : Tt K mg) : isB K (cA_ K) [.own "BadNumber"] [] [] [(0, false), (1, false), (2, false), (3, false), (4, false), (5, false), (6, false), (7, false), (8, false), (9, false), (10, false), (11, true), (12, false)] = true := (ba (ba (ba (ba (ba (ba (ba (ba (ba (ba (ba (ba (ba (ba (ba (ba (ba (ba (ba (ba (ba (ba (ba (ba (ba (ba (ba (ba (ba (ba (ba T.c.e).2).2).2).2).2).2).2).2).2).2).2).2).2).2).2).2).2).2).2).2).2).2).2).2).2).2).2).2).2).2).1
theorem exb_31 {K : PySem.W.Frag} {mg : Str → Option Value} (T : Tt K mg) : isB K (cA_ K) [.own "Trap"] [] [] [(0, false), (1, false), (2, false), (3, false), (4, false), (5, false), (6, false), (7, false), (8, false), (9, false), (10, false), (11, false), (12, true)] = true := (ba (ba (ba (ba (ba (ba (ba (ba (ba (ba (ba (ba (ba (ba (ba (ba (ba (ba (ba (ba (ba (ba (ba (ba (ba (ba (ba (ba (ba (ba (ba (ba T.c.e).2).2).2).2).2).2).2).2).2).2).2).2).2).2).2).2).2).2).2).2).2).2).2).2).2).2).2).2).2).2).2).1
theorem exb_32 {K : PySem.W.Frag} {mg : Str → Option Value} (T : Tt K mg) : isB K (cA_ K) [.own "MillError"] [] [] [(0, true), (1, true), (2, true), (3, true), (4, true), (5, true), (6, false), (7, false), (8, false), (9, false), (10, false), (11, false), (12, false)] = true := (ba (ba (ba (ba (ba (ba (ba (ba (ba (ba (ba (ba (ba (ba (ba (ba (ba (ba (ba (ba (ba (ba (ba (ba (ba (ba (ba (ba (ba (ba (ba (ba (ba T.c.e).2).2).2).2).2).2).2).2).2).2).2).2).2).2).2).2).2).2).2).2).2).2).2).2).2).2).2).2).2).2).2).2).1
theorem exb_33 {K : PySem.W.Frag} {mg : Str → Option Value} (T : Tt K mg) : isB K (cA_ K) [.own "Lack"] [] [] [(0, false), (1, false), (2, false), (3, false), (4, false), (5, false), (6, true), (7, true), (8, false), (9, false), (10, false), (11, false), (12, false)] = true := (ba (ba (ba (ba (ba (ba (ba (ba (ba (ba (ba (ba (ba (ba (ba (ba (ba (ba (ba (ba (ba (ba (ba (ba (ba (ba (ba (ba (ba (ba (ba (ba (ba (ba T.c.e).2).2).2).2).2).2).2).2).2).2).2).2).2).2).2).2).2).2).2).2).2).2).2).2).2).2).2).2).2).2).2).2).2).1
theorem exb_34 {K : PySem.W.Frag} {mg : Str → Option Value} (T : Tt K mg) : isB K (cA_ K) [.own "Cant"] [] [] [(0, false), (1, false), (2, false), (3, false), (4, false), (5, false), (6, false), (7, false), (8, true), (9, true), (10, false), (11, false), (12, false)] = true := (ba (ba (ba (ba (ba (ba (ba (ba (ba (ba (ba (ba (ba (ba (ba (ba (ba (ba (ba (ba (ba (ba (ba (ba (ba (ba (ba (ba (ba (ba (ba (ba (ba (ba (ba T.c.e).2).2).2).2).2).2).2).2).2).2).2).2).2).2).2).2).2).2).2).2).2).2).2).2).2).2).2).2).2).2).2).2).2).2).1
theorem exb_35 {K : PySem.W.Frag} {mg : Str → Option Value} (T : Tt K mg) : isB K (cA_ K) [.ty "TypeError"] [] [] [(0, false), (1, false), (2, false), (3, false), (4, false), (5, false), (6, false), (7, false), (8, false), (9, false), (10, true), (11, false), (12, false)] = true := (ba (ba (ba (ba (ba (ba (ba (ba (ba (ba (ba (ba (ba (ba (ba (ba (ba (ba (ba (ba (ba (ba (ba (ba (ba (ba (ba (ba (ba (ba (ba (ba (ba (ba (ba (ba T.c.e).2).2).2).2).2).2).2).2).2).2).2).2).2).2).2).2).2).2).2).2).2).2).2).2).2).2).2).2).2).2).2).2).2).2).2).1
theorem exb_36 {K : PySem.W.Frag} {mg : Str → Option Value} (T : Tt K mg) : isB K (cA_ K) [.ty "ValueError"] [] [] [(0, true), (1, true), (2, true), (3, true), (4, true), (5, true), (6, false), (7, false), (8, false), (9, false), (10, false), (11, false), (12, false)] = true := (ba (ba (ba (ba (ba (ba (ba (ba (ba (ba (ba (ba (ba (ba (ba (ba (ba (ba (ba (ba (ba (ba (ba (ba (ba (ba (ba (ba (ba (ba (ba (ba (ba (ba (ba (ba (ba T.c.e).2).2).2).2).2).2).2).2).2).2).2).2).2).2).2).2).2).2).2).2).2).2).2).2).2).2).2).2).2).2).2).2).2).2).2).2).1
theorem exb_37 {K : PySem.W.Frag} {mg : Str → Option Value} (T : Tt K mg) : isB K (cA_ K) [.ty "LookupError"] [] [] [(0, false), (1, false), (2, false), (3, false), (4, false), (5, false), (6, true), (7, true), (8, false), (9, false), (10, false), (11, true), (12, false)] = true := (ba (ba (ba (ba (ba (ba (ba (ba (ba (ba (ba (ba (ba (ba (ba (ba (ba (ba (ba (ba (ba (ba (ba (ba (ba (ba (ba (ba (ba (ba (ba (ba (ba (ba (ba (ba (ba (ba T.c.e).2).2).2).2).2).2).2).2).2).2).2).2).2).2).2).2).2).2).2).2).2).2).2).2).2).2).2).2).2).2).2).2).2).2).2).2).2).1
theorem exb_38 {K : PySem.W.Frag} {mg : Str → Option Value} (T : Tt K mg) : isB K (cA_ K) [.ty "IndexError"] [] [] [(0, false), (1, false), (2, false), (3, false), (4, false), (5, false), (6, false), (7, false), (8, false), (9, false), (10, false), (11, true), (12, false)] = true := (ba (ba (ba (ba (ba (ba (ba (ba (ba (ba (ba (ba (ba (ba (ba (ba (ba (ba (ba (ba (ba (ba (ba (ba (ba (ba (ba (ba (ba (ba (ba (ba (ba (ba (ba (ba (ba (ba (ba T.c.e).2).2).2).2).2).2).2).2).2).2).2).2).2).2).2).2).2).2).2).2).2).2).2).2).2).2).2).2).2).2).2).2).2).2).2).2).2).2).1
theorem exb_39 {K : PySem.W.Frag} {mg : Str → Option Value} (T : Tt K mg) : isB K (cA_ K) [.ty "KeyError"] [] [] [(0, false), (1, false), (2, false), (3, false), (4, false), (5, false), (6, false), (7, false), (8, false), (9, false), (10, false), (11, false), (12, false)] = true := (ba (ba (ba (ba (ba (ba (ba (ba (ba (ba (ba (ba (ba (ba (ba (ba (ba (ba (ba (ba (ba (ba (ba (ba (ba (ba (ba (ba (ba (ba (ba (ba (ba (ba (ba (ba (ba (ba (ba (ba T.c.e).2).2).2).2).2).2).2).2).2).2).2).2).2).2).2).2).2).2).2).2).2).2).2).2).2).2).2).2).2).2).2).2).2).2).2).2).2).2).2).1
theorem exb_40 {K : PySem.W.Frag} {mg : Str → Option Value} (T : Tt K mg) : isB K (cA_ K) [.ty "RuntimeError"] [] [] [(0, false), (1, false), (2, false), (3, false), (4, false), (5, false), (6, false), (7, false), (8, true), (9, true), (10, false), (11, false), (12, false)] = true := (ba (ba (ba (ba (ba (ba (ba (ba (ba (ba (ba (ba (ba (ba (ba (ba (ba (ba (ba (ba (ba (ba (ba (ba (ba (ba (ba (ba (ba (ba (ba (ba (ba (ba (ba (ba (ba (ba (ba (ba (ba T.c.e).2).2).2).2).2).2).2).2).2).2).2).2).2).2).2).2).2).2).2).2).2).2).2).2).2).2).2).2).2).2).2).2).2).2).2).2).2).2).2).2).1
theorem exb_41 {K : PySem.W.Frag} {mg : Str → Option Value} (T : Tt K mg) : isB K (cA_ K) [.ty "ArithmeticError"] [] [] [(0, false), (1, false), (2, false), (3, false), (4, false), (5, false), (6, false), (7, false), (8, false), (9, false), (10, false), (11, false), (12, true)] = true := (ba (ba (ba (ba (ba (ba (ba (ba (ba (ba (ba (ba (ba (ba (ba (ba (ba (ba (ba (ba (ba (ba (ba (ba (ba (ba (ba (ba (ba (ba (ba (ba (ba (ba (ba (ba (ba (ba (ba (ba (ba (ba T.c.e).2).2).2).2).2).2).2).2).2).2).2).2).2).2).2).2).2).2).2).2).2).2).2).2).2).2).2).2).2).2).2).2).2).2).2).2).2).2).2).2).2).1
theorem exb_42 {K : PySem.W.Frag} {mg : Str → Option Value} (T : Tt K mg) : isB K (cA_ K) [.ty "OverflowError"] [] [] [(0, false), (1, false), (2, false), (3, false), (4, false), (5, false), (6, false), (7, false), (8, false), (9, false), (10, false), (11, false), (12, false)] = true := (ba (ba (ba (ba (ba (ba (ba (ba (ba (ba (ba (ba (ba (ba (ba (ba (ba (ba (ba (ba (ba (ba (ba (ba (ba (ba (ba (ba (ba (ba (ba (ba (ba (ba (ba (ba (ba (ba (ba (ba (ba (ba (ba T.c.e).2).2).2).2).2).2).2).2).2).2).2).2).2).2).2).2).2).2).2).2).2).2).2).2).2).2).2).2).2).2).2).2).2).2).2).2).2).2).2).2).2).2).1
theorem exb_43 {K : PySem.W.Frag} {mg : Str → Option Value} (T : Tt K mg) : isB K (cA_ K) [.ty "ZeroDivisionError"] [] [] [(0, false), (1, false), (2, false), (3, false), (4, false), (5, false), (6, false), (7, false), (8, false), (9, false), (10, false), (11, false), (12, false)] = true := (ba (ba (ba (ba (ba (ba (ba (ba (ba (ba (ba (ba (ba (ba (ba (ba (ba (ba (ba (ba (ba (ba (ba (ba (ba (ba (ba (ba (ba (ba (ba (ba (ba (ba (ba (ba (ba (ba (ba (ba (ba (ba (ba (ba T.c.e).2).2).2).2).2).2).2).2).2).2).2).2).2).2).2).2).2).2).2).2).2).2).2).2).2).2).2).2).2).2).2).2).2).2).2).2).2).2).2).2).2).2).2).1
theorem exb_44 {K : PySem.W.Frag} {mg : Str → Option Value} (T : Tt K mg) : isB K (cA_ K) [.ty "Exception"] [] [] [(0, true), (1, true), (2, true), (3, true), (4, true), (5, true), (6, true), (7, true), (8, true), (9, true), (10, true), (11, true), (12, true)] = true := (ba (ba (ba (ba (ba (ba (ba (ba (ba (ba (ba (ba (ba (ba (ba (ba (ba (ba (ba (ba (ba (ba (ba (ba (ba (ba (ba (ba (ba (ba (ba (ba (ba (ba (ba (ba (ba (ba (ba (ba (ba (ba (ba (ba (ba T.c.e).2).2).2).2).2).2).2).2).2).2).2).2).2).2).2).2).2).2).2).2).2).2).2).2).2).2).2).2).2).2).2).2).2).2).2).2).2).2).2).2).2).2).2).2).1
abbrev tq_ : TqL := []
abbrev Gk (K : PySem.W.Frag) (rts : List (List Addr × Hp)) : Gm := ⟨K, cA_ K, fun _ => 0, tabT tq_ K, rts⟩
theorem gk_ok {K : PySem.W.Frag} : GfOk (Gk K) := ⟨fun _ _ => rfl, fun _ _ => rfl, fun _ _ => rfl, fun _ _ => rfl, fun _ => rfl⟩
section
variable {P : Program} {w : World} {K : PySem.W.Frag} {mg : Str → Option Value} {base : Heap} {rts : List (List Addr × Hp)}
theorem sc_BadProgram_init : FnScope ["self", "row"] ["self", "row"] (defScope s_BadProgram_init) := ⟨rfl, rfl, rfl, by decide +kernel, rfl, by decide +kernel, by decide +kernel⟩
theorem xc_BadProgram (T : Tt K mg) : XC P w K mg base (ga K "BadProgram") [q_row] := xc1 (d := dd_BadProgram_init) (N := ["self", "row"]) ba_VE (exb_1 T) (T.fd 0 rfl) sc_BadProgram_init rfl rfl rfl (fun cdv A outer s H E => xb1 ba_VE (bin_c ba_VE rfl (T.glo 1) (exb_0 T)) rfl rfl (Or.inl rfl) (Or.inl rfl) (by decide +kernel)) (fun _ _ _ _ _ _ us hl => match us, hl with | [_, _], _ => rfl)
theorem sc_BadCode_init : FnScope ["self", "row"] ["self", "row"] (defScope s_BadCode_init) := ⟨rfl, rfl, rfl, by decide +kernel, rfl, by decide +kernel, by decide +kernel⟩
theorem xc_BadCode (T : Tt K mg) : XC P w K mg base (ga K "BadCode") [q_row] := xc1 (d := dd_BadCode_init) (N := ["self", "row"]) ba_VE (exb_2 T) (T.fd 1 rfl) sc_BadCode_init rfl rfl rfl (fun cdv A outer s H E => xb1 ba_VE (bin_c ba_VE rfl (T.glo 1) (exb_0 T)) rfl rfl (Or.inl rfl) (Or.inl rfl) (by decide +kernel)) (fun _ _ _ _ _ _ us hl => match us, hl with | [_, _], _ => rfl)
theorem sc_BadGiven_init : FnScope ["self", "at"] ["self", "at"] (defScope s_BadGiven_init) := ⟨rfl, rfl, rfl, by decide +kernel, rfl, by decide +kernel, by decide +kernel⟩
theorem xc_BadGiven (T : Tt K mg) : XC P w K mg base (ga K "BadGiven") [q_at] := xc1 (d := dd_BadGiven_init) (N := ["self", "at"]) ba_VE (exb_3 T) (T.fd 2 rfl) sc_BadGiven_init rfl rfl rfl (fun cdv A outer s H E => xb1 ba_VE (bin_c ba_VE rfl (T.glo 1) (exb_0 T)) rfl rfl (Or.inl rfl) (Or.inl rfl) (by decide +kernel)) (fun _ _ _ _ _ _ us hl => match us, hl with | [_, _], _ => rfl)
theorem sc_BadPaper_init : FnScope ["self", "at"] ["self", "at"] (defScope s_BadPaper_init) := ⟨rfl, rfl, rfl, by decide +kernel, rfl, by decide +kernel, by decide +kernel⟩
theorem xc_BadPaper (T : Tt K mg) : XC P w K mg base (ga K "BadPaper") [q_at] := xc1 (d := dd_BadPaper_init) (N := ["self", "at"]) ba_VE (exb_4 T) (T.fd 3 rfl) sc_BadPaper_init rfl rfl rfl (fun cdv A outer s H E => xb1 ba_VE (bin_c ba_VE rfl (T.glo 1) (exb_0 T)) rfl rfl (Or.inl rfl) (Or.inl rfl) (by decide +kernel)) (fun _ _ _ _ _ _ us hl => match us, hl with | [_, _], _ => rfl)
theorem sc_BadLine_init : FnScope ["self", "row", "word"] ["self", "row", "word"] (defScope s_BadLine_init) := ⟨rfl, rfl, rfl, by decide +kernel, rfl, by decide +kernel, by decide +kernel⟩
theorem xc_BadLine (T : Tt K mg) : XC P w K mg base (ga K "BadLine") [q_row, q_word] := xc2 (d := dd_BadLine_init) (N := ["self", "row", "word"]) ba_VE (exb_5 T) (T.fd 4 rfl) sc_BadLine_init rfl rfl rfl (fun cdv A outer s H E => xb2 ba_VE (bin_c ba_VE rfl (T.glo 1) (exb_0 T)) rfl rfl rfl (Or.inl rfl) (Or.inl rfl) (Or.inl rfl) (by decide +kernel) (by decide +kernel)) (fun _ _ _ _ _ _ us hl => match us, hl with | [_, _, _], _ => rfl)
theorem sc_BadState_init : FnScope ["self", "at"] ["self", "at"] (defScope s_BadState_init) := ⟨rfl, rfl, rfl, by decide +kernel, rfl, by decide +kernel, by decide +kernel⟩
theorem xc_BadState (T : Tt K mg) : XC P w K mg base (ga K "BadState") [q_at] := xc1 (d := dd_BadState_init) (N := ["self", "at"]) ba_VE (exb_6 T) (T.fd 5 rfl) sc_BadState_init rfl rfl rfl (fun cdv A outer s H E => xb1 ba_VE (bin_c ba_VE rfl (T.glo 1) (exb_0 T)) rfl rfl (Or.inl rfl) (Or.inl rfl) (by decide +kernel)) (fun _ _ _ _ _ _ us hl => match us, hl with | [_, _], _ => rfl)
theorem sc_NoSuch_init : FnScope ["self", "name"] ["self", "name"] (defScope s_NoSuch_init) := ⟨rfl, rfl, rfl, by decide +kernel, rfl, by decide +kernel, by decide +kernel⟩
theorem xc_NoSuch (T : Tt K mg) : XC P w K mg base (ga K "NoSuch") [q_name] := xc1 (d := dd_NoSuch_init) (N := ["self", "name"]) ba_LE (exb_8 T) (T.fd 6 rfl) sc_NoSuch_init rfl rfl rfl (fun cdv A outer s H E => xb1 ba_LE (bin_c ba_LE rfl (T.glo 8) (exb_7 T)) rfl rfl (Or.inl rfl) (Or.inl rfl) (by decide +kernel)) (fun _ _ _ _ _ _ us hl => match us, hl with | [_, _], _ => rfl)
theorem sc_Full_init : FnScope ["self", "most"] ["self", "most"] (defScope s_Full_init) := ⟨rfl, rfl, rfl, by decide +kernel, rfl, by decide +kernel, by decide +kernel⟩
theorem xc_Full (T : Tt K mg) : XC P w K mg base (ga K "Full") [q_most] := xc1 (d := dd_Full_init) (N := ["self", "most"]) ba_RE (exb_10 T) (T.fd 7 rfl) sc_Full_init rfl rfl rfl (fun cdv A outer s H E => xb1 ba_RE (bin_c ba_RE rfl (T.glo 12) (exb_9 T)) rfl rfl (Or.inl rfl) (Or.inl rfl) (by decide +kernel)) (fun _ _ _ _ _ _ us hl => match us, hl with | [_, _], _ => rfl)
theorem sc_BadKind_init : FnScope ["self", "wanted"] ["self", "wanted"] (defScope s_BadKind_init) := ⟨rfl, rfl, rfl, by decide +kernel, rfl, by decide +kernel, by decide +kernel⟩
theorem xc_BadKind (T : Tt K mg) : XC P w K mg base (ga K "BadKind") [q_wanted] := xc1 (d := dd_BadKind_init) (N := ["self", "wanted"]) ba_TE (exb_12 T) (T.fd 8 rfl) sc_BadKind_init rfl rfl rfl (fun cdv A outer s H E => xb1 ba_TE (bin_b ba_TE rfl (T.free 14) rfl (exb_11 T)) rfl rfl (Or.inl rfl) (Or.inl rfl) (by decide +kernel)) (fun _ _ _ _ _ _ us hl => match us, hl with | [_, _], _ => rfl)
theorem sc_BadNumber_init : FnScope ["self", "at"] ["self", "at"] (defScope s_BadNumber_init) := ⟨rfl, rfl, rfl, by decide +kernel, rfl, by decide +kernel, by decide +kernel⟩
theorem xc_BadNumber (T : Tt K mg) : XC P w K mg base (ga K "BadNumber") [q_at] := xc1 (d := dd_BadNumber_init) (N := ["self", "at"]) ba_IE (exb_14 T) (T.fd 9 rfl) sc_BadNumber_init rfl rfl rfl (fun cdv A outer s H E => xb1 ba_IE (bin_b ba_IE rfl (T.free 16) rfl (exb_13 T)) rfl rfl (Or.inl rfl) (Or.inl rfl) (by decide +kernel)) (fun _ _ _ _ _ _ us hl => match us, hl with | [_, _], _ => rfl)
theorem sc_Trap_init : FnScope ["self", "word"] ["self", "word"] (defScope s_Trap_init) := ⟨rfl, rfl, rfl, by decide +kernel, rfl, by decide +kernel, by decide +kernel⟩
theorem xc_Trap (T : Tt K mg) : XC P w K mg base (ga K "Trap") [q_word] := xc1 (d := dd_Trap_init) (N := ["self", "word"]) ba_AE (exb_16 T) (T.fd 10 rfl) sc_Trap_init rfl rfl rfl (fun cdv A outer s H E => xb1 ba_AE (bin_b ba_AE rfl (T.free 18) rfl (exb_15 T)) rfl rfl (Or.inl rfl) (Or.inl rfl) (by decide +kernel)) (fun _ _ _ _ _ _ us hl => match us, hl with | [_, _], _ => rfl)
theorem form_mixed_2 {K : PySem.W.Frag} {rts : List (List Addr × Hp)} : Form K (Gk K rts) dd_mixed ["_law_drawn", "_law_k"] 2 [] (fun ds _ => ds) := form_pos (ps := ["_law_drawn", "_law_k"]) rfl fun _ _ _ _ _ _ us hl => match us, hl with | [_, _], _ => rfl
theorem form_take_2 {K : PySem.W.Frag} {rts : List (List Addr × Hp)} : Form K (Gk K rts) dd_take ["_law_stream", "_law_many"] 2 [] (fun ds _ => ds) := form_pos (ps := ["_law_stream", "_law_many"]) rfl fun _ _ _ _ _ _ us hl => match us, hl with | [_, _], _ => rfl
theorem form_of_2 {K : PySem.W.Frag} {rts : List (List Addr × Hp)} : Form K (Gk K rts) dd_of ["_law_stream", "_law_some"] 2 [] (fun ds _ => ds) := form_pos (ps := ["_law_stream", "_law_some"]) rfl fun _ _ _ _ _ _ us hl => match us, hl with | [_, _], _ => rfl
theorem form_thing_by_1 {K : PySem.W.Frag} {rts : List (List Addr × Hp)} : Form K (Gk K rts) dd_thing_by ["_law_stream"] 1 [] (fun ds _ => ds) := form_pos (ps := ["_law_stream"]) rfl fun _ _ _ _ _ _ us hl => match us, hl with | [_], _ => rfl
theorem form_lines_2 {K : PySem.W.Frag} {rts : List (List Addr × Hp)} : Form K (Gk K rts) dd_lines ["_law_first", "_law_second"] 2 [] (fun ds _ => ds) := form_pos (ps := ["_law_first", "_law_second"]) rfl fun _ _ _ _ _ _ us hl => match us, hl with | [_, _], _ => rfl
theorem form_words_1 {K : PySem.W.Frag} {rts : List (List Addr × Hp)} : Form K (Gk K rts) dd_words ["_law_e"] 1 [] (fun ds _ => ds) := form_pos (ps := ["_law_e"]) rfl fun _ _ _ _ _ _ us hl => match us, hl with | [_], _ => rfl
theorem form_kinds_1 {K : PySem.W.Frag} {rts : List (List Addr × Hp)} : Form K (Gk K rts) dd_kinds ["_law_e"] 1 [] (fun ds _ => ds) := form_pos (ps := ["_law_e"]) rfl fun _ _ _ _ _ _ us hl => match us, hl with | [_], _ => rfl
theorem form_fields_1 {K : PySem.W.Frag} {rts : List (List Addr × Hp)} : Form K (Gk K rts) dd_fields ["_law_made"] 1 [] (fun ds _ => ds) := form_pos (ps := ["_law_made"]) rfl fun _ _ _ _ _ _ us hl => match us, hl with | [_], _ => rfl
theorem sc_mixed : FnScope ["_law_drawn", "_law_k"] ["_law_drawn", "_law_k"] (defScope s_mixed) := ⟨rfl, rfl, rfl, by decide +kernel, rfl, by decide +kernel, by decide +kernel⟩
theorem ok_mixed (T : Tt K mg) (B : TbL tq_ K mg base) : OkD P w K mg base 1 dd_mixed ["_law_drawn", "_law_k"] f_mixed (Gk K rts) := okD_of (N := ["_law_drawn", "_law_k"]) (ps := ["_law_drawn", "_law_k"]) (m := b_mixed) (d := dd_mixed) (G := Gk K rts) T 11 sc_mixed fun cdv A outer s H E rg =>
   (ms_cons (ms_set 0 sc_mixed.nd rfl (Or.inl rfl) (me_op op_mod os_mod (me_op op_pow os_pow (me_addK rfl (me_addK rfl (me_addK rfl (me_op op_mod os_mod (me_var 0) (me_int)) (me_mulK (me_mulK (me_int) (me_var 1)) (me_var 1))) (me_mulK (me_int) (me_var 1))) (me_int)) (me_int)) (me_int)))
    (ms_one (ms_ret (me_op op_fdiv os_fdiv (me_op op_mod os_mod (me_mulK (me_var 0) (me_addK rfl (me_int) (me_mulK (me_int) (me_var 1)))) (me_int)) (me_int)))))
theorem sc_take : FnScope ["_law_stream", "_law_many", "_law_cell", "_law_drawn"] ["_law_stream", "_law_many"] (defScope s_take) := ⟨rfl, rfl, rfl, by decide +kernel, rfl, by decide +kernel, by decide +kernel⟩
theorem ok_take (T : Tt K mg) (B : TbL tq_ K mg base) : OkD P w K mg base 2 dd_take ["_law_stream", "_law_many"] f_take (Gk K rts) := okD_of (N := ["_law_stream", "_law_many", "_law_cell", "_law_drawn"]) (ps := ["_law_stream", "_law_many"]) (m := b_take) (d := dd_take) (G := Gk K rts) T 12 sc_take fun cdv A outer s H E rg =>
   (ms_cons (ms_asg (me_addM rfl (me_ix rfl (me_var 0) (me_int)) (me_int)) (mg_ix (me_var 0) (me_int)))
    (ms_cons (ms_if (PW.pt (mw_and (mt_cmp op_lt os_cmp (me_ix rfl (me_var 0) (me_int)) (me_int)) (mw_and1 (mt_cmp (op_neU rg.r.units) os_ne (me_ix rfl (me_var 0) (me_int)) (me_lstK (ma_nil)))))) (ms_cons (ms_set 2 sc_take.nd rfl (Or.inl rfl) (me_bm rfl PySem.F.plainAttrs_list PySem.F.slot_list_pop PySem.F.type_list_pop mt_popAt bs_popAt (.inl rfl) (me_ix rfl (me_var 0) (me_int)) (ma_cons (me_int) (ma_nil))))
    (ms_cons (ms_asg (me_if (mt_cmp op_ge os_cmp (me_var 2) (me_op op_pow os_pow (me_int) (me_int))) (me_var 2) (me_int)) (mg_ix (me_var 0) (me_int)))
    (ms_one (ms_asg (me_call (OkD.calls (ok_mixed T B) form_mixed_2 hx_of rg) rfl (T.glo 22) (T.kp 11) (ma_cons (me_addK rfl (me_ix rfl (me_var 0) (me_int)) (me_var 2)) (ma_cons (me_ix rfl (me_var 0) (me_int)) (ma_nil)))) (mg_ix (me_var 0) (me_int)))))) (ms_nil))
    (ms_cons (ms_if (mt_cmp op_gt os_cmp (me_ix rfl (me_var 0) (me_int)) (me_int)) (ms_cons (ms_set 3 sc_take.nd rfl (Or.inl rfl) (me_op op_mod os_mod (me_ix rfl (me_var 0) (me_int)) (me_var 1)))
    (ms_cons (ms_asg (me_op op_fdiv os_fdiv (me_ix rfl (me_var 0) (me_int)) (me_var 1)) (mg_ix (me_var 0) (me_int)))
    (ms_one (ms_ret (me_var 3))))) (ms_nil))
    (ms_one (ms_ret (me_op op_mod os_mod (me_op op_fdiv os_fdiv (me_call (OkD.calls (ok_mixed T B) form_mixed_2 hx_of rg) rfl (T.glo 22) (T.kp 11) (ma_cons (me_addK rfl (me_ix rfl (me_var 0) (me_int)) (me_mulK (me_int) (me_ix rfl (me_var 0) (me_int)))) (ma_cons (me_ix rfl (me_var 0) (me_int)) (ma_nil)))) (me_int)) (me_var 1)))))))
theorem sc_of : FnScope ["_law_stream", "_law_some"] ["_law_stream", "_law_some"] (defScope s_of) := ⟨rfl, rfl, rfl, by decide +kernel, rfl, by decide +kernel, by decide +kernel⟩
theorem ok_of (T : Tt K mg) (B : TbL tq_ K mg base) : OkD P w K mg base 3 dd_of ["_law_stream", "_law_some"] f_of (Gk K rts) := okD_of (N := ["_law_stream", "_law_some"]) (ps := ["_law_stream", "_law_some"]) (m := b_of) (d := dd_of) (G := Gk K rts) T 13 sc_of fun cdv A outer s H E rg =>
   (ms_one (ms_ret (me_ix rfl (me_var 1) (me_call (OkD.calls (ok_take T B) form_take_2 hx_of rg) rfl (T.glo 23) (T.kp 12) (ma_cons (me_var 0) (ma_cons (me_bi cl_len bs_len rfl (T.free 20) rfl (ma_cons (me_var 1) (ma_nil))) (ma_nil)))))))
theorem sc_thing_by : FnScope ["_law_stream", "_law_name"] ["_law_stream"] (defScope s_thing_by) := ⟨rfl, rfl, rfl, by decide +kernel, rfl, by decide +kernel, by decide +kernel⟩
theorem ok_thing_by (T : Tt K mg) (B : TbL tq_ K mg base) : OkD P w K mg base 4 dd_thing_by ["_law_stream"] f_thing_by (Gk K rts) := okD_of (N := ["_law_stream", "_law_name"]) (ps := ["_law_stream"]) (m := b_thing_by) (d := dd_thing_by) (G := Gk K rts) T 14 sc_thing_by fun cdv A outer s H E rg =>
   (ms_cons (ms_set 1 sc_thing_by.nd rfl (Or.inl rfl) (me_op op_mulS os_mulS (me_ixA rfl (me_str) (me_call (OkD.calls (ok_take T B) form_take_2 hx_of rg) rfl (T.glo 23) (T.kp 12) (ma_cons (me_var 0) (ma_cons (me_int) (ma_nil))))) (me_call (OkD.calls (ok_take T B) form_take_2 hx_of rg) rfl (T.glo 23) (T.kp 12) (ma_cons (me_var 0) (ma_cons (me_int) (ma_nil))))))
    (ms_one (ms_ret (me_call (OkD.calls (ok_of T B) form_of_2 hx_of rg) rfl (T.glo 24) (T.kp 13) (ma_cons (me_var 0) (ma_cons (me_lstK (ma_cons (me_var 1) (ma_cons (me_call (OkD.calls (ok_take T B) form_take_2 hx_of rg) rfl (T.glo 23) (T.kp 12) (ma_cons (me_var 0) (ma_cons (me_int) (ma_nil)))) (ma_cons (me_non) (ma_cons (me_tup (ma_cons (me_var 1) (ma_cons (me_int) (ma_nil)))) (ma_cons (me_lstK (ma_cons (me_var 1) (ma_nil))) (ma_cons (me_un un_neg us_neg (me_int)) (ma_cons (me_bl) (ma_cons (me_dict (mp_cons (me_int) (me_var 1) (mp_nil))) (ma_cons (me_int) (ma_nil))))))))))) (ma_nil)))))))
theorem sc_lines : FnScope ["_law_first", "_law_second", "_law_found", "_law_mill", "_law_lack", "_law_cant"] ["_law_first", "_law_second"] (defScope s_lines) := ⟨rfl, rfl, rfl, by decide +kernel, rfl, by decide +kernel, by decide +kernel⟩
theorem ok_lines (T : Tt K mg) (B : TbL tq_ K mg base) : OkD P w K mg base 3 dd_lines ["_law_first", "_law_second"] f_lines (Gk K rts) := okD_of (N := ["_law_first", "_law_second", "_law_found", "_law_mill", "_law_lack", "_law_cant"]) (ps := ["_law_first", "_law_second"]) (m := b_lines) (d := dd_lines) (G := Gk K rts) T 15 sc_lines fun cdv A outer s H E rg =>
   (ms_cons (ms_par3 (i := 3) (j := 4) (l := 5) rfl sc_lines.nd rfl rfl rfl (by decide) (by decide) (by decide) rfl rfl rfl (ma_cons (me_lstK (ma_cons (me_str) (ma_cons (me_str) (ma_nil)))) (ma_cons (me_lstK (ma_cons (me_str) (ma_cons (me_str) (ma_nil)))) (ma_cons (me_lstK (ma_cons (me_str) (ma_cons (me_str) (ma_nil)))) (ma_nil)))))
    (ms_cons (ms_set 2 sc_lines.nd rfl (Or.inl rfl) (me_lst (ma_cons (me_tup (ma_cons (me_exc (c := 0) (xc_BadProgram T) rg (by decide) rfl (T.glo 0) (ma_cons (me_var 0) (ma_nil)) (by decide)) (ma_cons (me_str) (ma_cons (me_var 3) (ma_nil))))) (ma_cons (me_tup (ma_cons (me_exc (c := 1) (xc_BadCode T) rg (by decide) rfl (T.glo 2) (ma_cons (me_var 0) (ma_nil)) (by decide)) (ma_cons (me_str) (ma_cons (me_var 3) (ma_nil))))) (ma_cons (me_tup (ma_cons (me_exc (c := 2) (xc_BadGiven T) rg (by decide) rfl (T.glo 3) (ma_cons (me_var 0) (ma_nil)) (by decide)) (ma_cons (me_str) (ma_cons (me_var 3) (ma_nil))))) (ma_nil))))))
    (ms_cons (ms_set 2 sc_lines.nd rfl (Or.inl rfl) (me_addM rfl (me_var 2) (me_lstK (ma_cons (me_tup (ma_cons (me_exc (c := 3) (xc_BadPaper T) rg (by decide) rfl (T.glo 4) (ma_cons (me_var 0) (ma_nil)) (by decide)) (ma_cons (me_str) (ma_cons (me_var 3) (ma_nil))))) (ma_cons (me_tup (ma_cons (me_exc (c := 4) (xc_BadLine T) rg (by decide) rfl (T.glo 5) (ma_cons (me_var 0) (ma_cons (me_var 1) (ma_nil))) (by decide)) (ma_cons (me_str) (ma_cons (me_var 3) (ma_nil))))) (ma_nil))))))
    (ms_cons (ms_set 2 sc_lines.nd rfl (Or.inl rfl) (me_addM rfl (me_var 2) (me_lstK (ma_cons (me_tup (ma_cons (me_exc (c := 5) (xc_BadState T) rg (by decide) rfl (T.glo 6) (ma_cons (me_var 0) (ma_nil)) (by decide)) (ma_cons (me_str) (ma_cons (me_var 3) (ma_nil))))) (ma_cons (me_tup (ma_cons (me_exc (c := 6) (xc_NoSuch T) rg (by decide) rfl (T.glo 7) (ma_cons (me_var 0) (ma_nil)) (by decide)) (ma_cons (me_str) (ma_cons (me_var 4) (ma_nil))))) (ma_cons (me_tup (ma_cons (me_xn (c := 7) ba_LE (xnB_ok (exb_17 T)).1 (xnB_ok (exb_17 T)).2 rfl rfl (T.glo 9) (me_str)) (ma_cons (me_str) (ma_cons (me_var 4) (ma_nil))))) (ma_nil)))))))
    (ms_cons (ms_set 2 sc_lines.nd rfl (Or.inl rfl) (me_addM rfl (me_var 2) (me_lstK (ma_cons (me_tup (ma_cons (me_xn (c := 8) ba_RE (xnB_ok (exb_18 T)).1 (xnB_ok (exb_18 T)).2 rfl rfl (T.glo 10) (me_str)) (ma_cons (me_str) (ma_cons (me_var 5) (ma_nil))))) (ma_cons (me_tup (ma_cons (me_exc (c := 9) (xc_Full T) rg (by decide) rfl (T.glo 11) (ma_cons (me_var 0) (ma_nil)) (by decide)) (ma_cons (me_str) (ma_cons (me_var 5) (ma_nil))))) (ma_cons (me_tup (ma_cons (me_exc (c := 10) (xc_BadKind T) rg (by decide) rfl (T.glo 13) (ma_cons (me_var 0) (ma_nil)) (by decide)) (ma_cons (me_str) (ma_cons (me_lstK (ma_cons (me_str) (ma_nil))) (ma_nil))))) (ma_nil)))))))
    (ms_cons (ms_expr (me_bm rfl PySem.F.plainAttrs_list PySem.F.slot_list_append PySem.F.type_list_append mt_append bs_append (.inl rfl) (me_var 2) (ma_cons (me_tup (ma_cons (me_exc (c := 11) (xc_BadNumber T) rg (by decide) rfl (T.glo 15) (ma_cons (me_var 0) (ma_nil)) (by decide)) (ma_cons (me_str) (ma_cons (me_lstK (ma_cons (me_str) (ma_cons (me_str) (ma_nil)))) (ma_nil))))) (ma_nil))))
    (ms_one (ms_ret (me_addK rfl (me_var 2) (me_lstK (ma_cons (me_tup (ma_cons (me_exc (c := 12) (xc_Trap T) rg (by decide) rfl (T.glo 17) (ma_cons (me_var 0) (ma_nil)) (by decide)) (ma_cons (me_str) (ma_cons (me_lstK (ma_cons (me_str) (ma_nil))) (ma_nil))))) (ma_nil))))))))))))
theorem sc_words : FnScope ["_law_e", "_law_found", "_law_words_here", "_law_good", "_law_word"] ["_law_e"] (defScope s_words) := ⟨rfl, rfl, rfl, by decide +kernel, rfl, by decide +kernel, by decide +kernel⟩
theorem ok_words (T : Tt K mg) (B : TbL tq_ K mg base) : OkD P w K mg base 1 dd_words ["_law_e"] f_words (Gk K rts) := okD_of (N := ["_law_e", "_law_found", "_law_words_here", "_law_good", "_law_word"]) (ps := ["_law_e"]) (m := b_words) (d := dd_words) (G := Gk K rts) T 16 sc_words fun cdv A outer s H E rg =>
   (ms_cons (ms_set 1 sc_words.nd rfl (Or.inl rfl) (me_lstK (ma_cons (me_is1 (c0 := .own "BadProgram") rfl (exb_19 T) (isC_nil) (.own rfl (T.glo 0)) rfl (T.free 27) rfl (me_var 0)) (ma_cons (me_is1 (c0 := .own "BadCode") rfl (exb_20 T) (isC_nil) (.own rfl (T.glo 2)) rfl (T.free 27) rfl (me_var 0)) (ma_cons (me_is1 (c0 := .own "BadGiven") rfl (exb_21 T) (isC_nil) (.own rfl (T.glo 3)) rfl (T.free 27) rfl (me_var 0)) (ma_cons (me_is1 (c0 := .own "BadPaper") rfl (exb_22 T) (isC_nil) (.own rfl (T.glo 4)) rfl (T.free 27) rfl (me_var 0)) (ma_nil)))))))
    (ms_cons (ms_set 1 sc_words.nd rfl (Or.inl rfl) (me_addK rfl (me_var 1) (me_lstK (ma_cons (me_is1 (c0 := .own "BadLine") rfl (exb_23 T) (isC_nil) (.own rfl (T.glo 5)) rfl (T.free 27) rfl (me_var 0)) (ma_cons (me_is1 (c0 := .own "BadState") rfl (exb_24 T) (isC_nil) (.own rfl (T.glo 6)) rfl (T.free 27) rfl (me_var 0)) (ma_cons (me_is1 (c0 := .own "NoSuch") rfl (exb_25 T) (isC_nil) (.own rfl (T.glo 7)) rfl (T.free 27) rfl (me_var 0)) (ma_cons (me_is1 (c0 := .own "Gone") rfl (exb_26 T) (isC_nil) (.own rfl (T.glo 9)) rfl (T.free 27) rfl (me_var 0)) (ma_nil))))))))
    (ms_cons (ms_set 1 sc_words.nd rfl (Or.inl rfl) (me_addK rfl (me_var 1) (me_lstK (ma_cons (me_is1 (c0 := .own "Busy") rfl (exb_27 T) (isC_nil) (.own rfl (T.glo 10)) rfl (T.free 27) rfl (me_var 0)) (ma_cons (me_is1 (c0 := .own "Full") rfl (exb_28 T) (isC_nil) (.own rfl (T.glo 11)) rfl (T.free 27) rfl (me_var 0)) (ma_cons (me_is1 (c0 := .own "BadKind") rfl (exb_29 T) (isC_nil) (.own rfl (T.glo 13)) rfl (T.free 27) rfl (me_var 0)) (ma_cons (me_is1 (c0 := .own "BadNumber") rfl (exb_30 T) (isC_nil) (.own rfl (T.glo 15)) rfl (T.free 27) rfl (me_var 0)) (ma_nil))))))))
    (ms_cons (ms_set 1 sc_words.nd rfl (Or.inl rfl) (me_addK rfl (me_var 1) (me_lstK (ma_cons (me_is1 (c0 := .own "Trap") rfl (exb_31 T) (isC_nil) (.own rfl (T.glo 17)) rfl (T.free 27) rfl (me_var 0)) (ma_nil)))))
    (ms_cons (ms_set 2 sc_words.nd rfl (Or.inl rfl) (me_lstK (ma_cons (me_str) (ma_cons (me_str) (ma_cons (me_str) (ma_cons (me_str) (ma_cons (me_str) (ma_cons (me_str) (ma_cons (me_str) (ma_cons (me_str) (ma_cons (me_str) (ma_cons (me_str) (ma_cons (me_str) (ma_cons (me_str) (ma_nil)))))))))))))))
    (ms_one (ms_ret (me_compK (own := [("_law_word", 4), ("_law_good", 3)]) (one := false) (is := [4, 3]) rfl sc_words.nd (mi_zip rfl rfl (T.free 28) (ma_cons (me_addK rfl (me_var 2) (me_lstK (ma_cons (me_str) (ma_nil)))) (ma_cons (me_var 1) (ma_nil)))) (blkOk_by (N := ["_law_e", "_law_found", "_law_words_here", "_law_good", "_law_word"]) (sc := defScope s_words) (by decide +kernel)) (bd_tup (by decide)) (fun _ _ _ _ _ => pg_tup rfl (pgs_cons (pg_name (i := 4) sc_words.nd rfl (Or.inl rfl)) (pgs_cons (pg_name (i := 3) sc_words.nd rfl (Or.inl rfl)) (pgs_nil))) rfl rfl) (fun _ _ _ _ _ => mts_one (mt_val (me_var 3))) (fun _ _ _ _ _ => me_var 4)))))))))
theorem sc_kinds : FnScope ["_law_e", "_law_found", "_law_words_here", "_law_good", "_law_word"] ["_law_e"] (defScope s_kinds) := ⟨rfl, rfl, rfl, by decide +kernel, rfl, by decide +kernel, by decide +kernel⟩
theorem ok_kinds (T : Tt K mg) (B : TbL tq_ K mg base) : OkD P w K mg base 1 dd_kinds ["_law_e"] f_kinds (Gk K rts) := okD_of (N := ["_law_e", "_law_found", "_law_words_here", "_law_good", "_law_word"]) (ps := ["_law_e"]) (m := b_kinds) (d := dd_kinds) (G := Gk K rts) T 17 sc_kinds fun cdv A outer s H E rg =>
   (ms_cons (ms_set 1 sc_kinds.nd rfl (Or.inl rfl) (me_lstK (ma_cons (me_is1 (c0 := .own "MillError") rfl (exb_32 T) (isC_nil) (.own rfl (T.glo 1)) rfl (T.free 27) rfl (me_var 0)) (ma_cons (me_is1 (c0 := .own "Lack") rfl (exb_33 T) (isC_nil) (.own rfl (T.glo 8)) rfl (T.free 27) rfl (me_var 0)) (ma_cons (me_is1 (c0 := .own "Cant") rfl (exb_34 T) (isC_nil) (.own rfl (T.glo 12)) rfl (T.free 27) rfl (me_var 0)) (ma_cons (me_is1 (c0 := .ty "TypeError") rfl (exb_35 T) (isC_nil) (.ty rfl (T.free 14)) rfl (T.free 27) rfl (me_var 0)) (ma_nil)))))))
    (ms_cons (ms_set 1 sc_kinds.nd rfl (Or.inl rfl) (me_addK rfl (me_var 1) (me_lstK (ma_cons (me_is1 (c0 := .ty "ValueError") rfl (exb_36 T) (isC_nil) (.ty rfl (T.free 30)) rfl (T.free 27) rfl (me_var 0)) (ma_cons (me_is1 (c0 := .ty "LookupError") rfl (exb_37 T) (isC_nil) (.ty rfl (T.free 31)) rfl (T.free 27) rfl (me_var 0)) (ma_cons (me_is1 (c0 := .ty "IndexError") rfl (exb_38 T) (isC_nil) (.ty rfl (T.free 16)) rfl (T.free 27) rfl (me_var 0)) (ma_nil)))))))
    (ms_cons (ms_set 1 sc_kinds.nd rfl (Or.inl rfl) (me_addK rfl (me_var 1) (me_lstK (ma_cons (me_is1 (c0 := .ty "KeyError") rfl (exb_39 T) (isC_nil) (.ty rfl (T.free 32)) rfl (T.free 27) rfl (me_var 0)) (ma_cons (me_is1 (c0 := .ty "RuntimeError") rfl (exb_40 T) (isC_nil) (.ty rfl (T.free 33)) rfl (T.free 27) rfl (me_var 0)) (ma_cons (me_is1 (c0 := .ty "ArithmeticError") rfl (exb_41 T) (isC_nil) (.ty rfl (T.free 18)) rfl (T.free 27) rfl (me_var 0)) (ma_nil)))))))
    (ms_cons (ms_set 1 sc_kinds.nd rfl (Or.inl rfl) (me_addK rfl (me_var 1) (me_lstK (ma_cons (me_is1 (c0 := .ty "OverflowError") rfl (exb_42 T) (isC_nil) (.ty rfl (T.free 34)) rfl (T.free 27) rfl (me_var 0)) (ma_cons (me_is1 (c0 := .ty "ZeroDivisionError") rfl (exb_43 T) (isC_nil) (.ty rfl (T.free 35)) rfl (T.free 27) rfl (me_var 0)) (ma_nil))))))
    (ms_cons (ms_set 2 sc_kinds.nd rfl (Or.inl rfl) (me_lstK (ma_cons (me_str) (ma_cons (me_str) (ma_cons (me_str) (ma_cons (me_str) (ma_cons (me_str) (ma_cons (me_str) (ma_cons (me_str) (ma_cons (me_str) (ma_cons (me_str) (ma_cons (me_str) (ma_cons (me_str) (ma_cons (me_str) (ma_nil)))))))))))))))
    (ms_one (ms_ret (me_compK (own := [("_law_word", 4), ("_law_good", 3)]) (one := false) (is := [4, 3]) rfl sc_kinds.nd (mi_zip rfl rfl (T.free 28) (ma_cons (me_var 2) (ma_cons (me_var 1) (ma_nil)))) (blkOk_by (N := ["_law_e", "_law_found", "_law_words_here", "_law_good", "_law_word"]) (sc := defScope s_kinds) (by decide +kernel)) (bd_tup (by decide)) (fun _ _ _ _ _ => pg_tup rfl (pgs_cons (pg_name (i := 4) sc_kinds.nd rfl (Or.inl rfl)) (pgs_cons (pg_name (i := 3) sc_kinds.nd rfl (Or.inl rfl)) (pgs_nil))) rfl rfl) (fun _ _ _ _ _ => mts_one (mt_val (me_var 3))) (fun _ _ _ _ _ => me_var 4)))))))))
theorem sc_fields : FnScope ["_law_made", "_law_found"] ["_law_made"] (defScope s_fields) := ⟨rfl, rfl, rfl, by decide +kernel, rfl, by decide +kernel, by decide +kernel⟩
theorem ok_fields (T : Tt K mg) (B : TbL tq_ K mg base) : OkD P w K mg base 1 dd_fields ["_law_made"] f_fields (Gk K rts) := okD_of (N := ["_law_made", "_law_found"]) (ps := ["_law_made"]) (m := b_fields) (d := dd_fields) (G := Gk K rts) T 18 sc_fields fun cdv A outer s H E rg =>
   (ms_cons (ms_set 1 sc_fields.nd rfl (Or.inl rfl) (me_lstK (ma_cons (me_xf rfl (hX_cons (x := "BadProgram") rfl (exb_1 T) (by simp) (hX_cons (x := "BadCode") rfl (exb_2 T) (by simp) (hX_cons (x := "BadLine") rfl (exb_5 T) (by simp) hX_nil))) (by decide +kernel) (me_ix rfl (me_var 0) (me_int))) (ma_cons (me_xf rfl (hX_cons (x := "BadProgram") rfl (exb_1 T) (by simp) (hX_cons (x := "BadCode") rfl (exb_2 T) (by simp) (hX_cons (x := "BadLine") rfl (exb_5 T) (by simp) hX_nil))) (by decide +kernel) (me_ix rfl (me_var 0) (me_int))) (ma_cons (me_xf rfl (hX_cons (x := "BadGiven") rfl (exb_3 T) (by simp) (hX_cons (x := "BadPaper") rfl (exb_4 T) (by simp) (hX_cons (x := "BadState") rfl (exb_6 T) (by simp) (hX_cons (x := "BadNumber") rfl (exb_14 T) (by simp) hX_nil)))) (by decide +kernel) (me_ix rfl (me_var 0) (me_int))) (ma_cons (me_xf rfl (hX_cons (x := "BadGiven") rfl (exb_3 T) (by simp) (hX_cons (x := "BadPaper") rfl (exb_4 T) (by simp) (hX_cons (x := "BadState") rfl (exb_6 T) (by simp) (hX_cons (x := "BadNumber") rfl (exb_14 T) (by simp) hX_nil)))) (by decide +kernel) (me_ix rfl (me_var 0) (me_int))) (ma_cons (me_xf rfl (hX_cons (x := "BadProgram") rfl (exb_1 T) (by simp) (hX_cons (x := "BadCode") rfl (exb_2 T) (by simp) (hX_cons (x := "BadLine") rfl (exb_5 T) (by simp) hX_nil))) (by decide +kernel) (me_ix rfl (me_var 0) (me_int))) (ma_cons (me_xf rfl (hX_cons (x := "BadLine") rfl (exb_5 T) (by simp) (hX_cons (x := "Trap") rfl (exb_16 T) (by simp) hX_nil)) (by decide +kernel) (me_ix rfl (me_var 0) (me_int))) (ma_cons (me_xf rfl (hX_cons (x := "BadGiven") rfl (exb_3 T) (by simp) (hX_cons (x := "BadPaper") rfl (exb_4 T) (by simp) (hX_cons (x := "BadState") rfl (exb_6 T) (by simp) (hX_cons (x := "BadNumber") rfl (exb_14 T) (by simp) hX_nil)))) (by decide +kernel) (me_ix rfl (me_var 0) (me_int))) (ma_cons (me_xf rfl (hX_cons (x := "NoSuch") rfl (exb_8 T) (by simp) hX_nil) (by decide +kernel) (me_ix rfl (me_var 0) (me_int))) (ma_nil)))))))))))
    (ms_one (ms_ret (me_addK rfl (me_var 1) (me_lstK (ma_cons (me_xf rfl (hX_cons (x := "Full") rfl (exb_10 T) (by simp) hX_nil) (by decide +kernel) (me_ix rfl (me_var 0) (me_int))) (ma_cons (me_xf rfl (hX_cons (x := "BadKind") rfl (exb_12 T) (by simp) hX_nil) (by decide +kernel) (me_ix rfl (me_var 0) (me_int))) (ma_cons (me_xf rfl (hX_cons (x := "BadGiven") rfl (exb_3 T) (by simp) (hX_cons (x := "BadPaper") rfl (exb_4 T) (by simp) (hX_cons (x := "BadState") rfl (exb_6 T) (by simp) (hX_cons (x := "BadNumber") rfl (exb_14 T) (by simp) hX_nil)))) (by decide +kernel) (me_ix rfl (me_var 0) (me_int))) (ma_cons (me_xf rfl (hX_cons (x := "BadLine") rfl (exb_5 T) (by simp) (hX_cons (x := "Trap") rfl (exb_16 T) (by simp) hX_nil)) (by decide +kernel) (me_ix rfl (me_var 0) (me_int))) (ma_nil))))))))))
theorem sc_law : FnScope ["_law_script", "_law_stream", "_law_turn", "_law_lines_here", "_law_first", "_law_second", "_law_e", "_law_word", "_law_kinds_here", "_law_made", "_law_due", "_law_line"] ["_law_script"] (defScope s_law) := ⟨rfl, rfl, rfl, by decide +kernel, rfl, by decide +kernel, by decide +kernel⟩
theorem ok_law (T : Tt K mg) (B : TbL tq_ K mg base) : OkD P w K mg base 5 dd_law ["_law_script"] f_law (Gk K rts) := okD_of (N := ["_law_script", "_law_stream", "_law_turn", "_law_lines_here", "_law_first", "_law_second", "_law_e", "_law_word", "_law_kinds_here", "_law_made", "_law_due", "_law_line"]) (ps := ["_law_script"]) (m := b_law) (d := dd_law) (G := Gk K rts) T 19 sc_law fun cdv A outer s H E rg =>
   (ms_cons (ms_set 1 sc_law.nd rfl (Or.inl rfl) (me_lst (ma_cons (me_sl rfl (me_addK rfl (me_var 0) (me_lstK (ma_cons (me_int) (ma_nil)))) mo_none (mo_some (me_int))) (ma_cons (me_int) (ma_cons (me_int) (ma_cons (me_int) (ma_cons (me_int) (ma_nil))))))))
    (ms_cons (ms_for hp_of rfl (mi_rng1 (h1 := aLen1) rfl (T.free 21) (ma_cons (me_addK rfl (me_int) (me_bi (call_min2 rfl) bs_min2 rfl (T.free 19) rfl (ma_cons (me_int) (ma_cons (me_bi cl_len bs_len rfl (T.free 20) rfl (ma_cons (me_var 0) (ma_nil))) (ma_nil))))) (ma_nil))) (mg_name (i := 2) sc_law.nd rfl (Or.inl rfl)) (ms_cons (ms_par (i := 4) (j := 5) rfl sc_law.nd rfl rfl (by decide) rfl rfl (ma_cons (me_call (OkD.calls (ok_thing_by T B) form_thing_by_1 hx_of rg) rfl (T.glo 25) (T.kp 14) (ma_cons (me_var 1) (ma_nil))) (ma_cons (me_call (OkD.calls (ok_thing_by T B) form_thing_by_1 hx_of rg) rfl (T.glo 25) (T.kp 14) (ma_cons (me_var 1) (ma_nil))) (ma_nil))))
    (ms_cons (ms_set 3 sc_law.nd rfl (Or.inl rfl) (me_call (OkD.calls (ok_lines T B) form_lines_2 hx_of rg) rfl (T.glo 26) (T.kp 15) (ma_cons (me_var 4) (ma_cons (me_var 5) (ma_nil)))))
    (ms_cons (ms_for hp_of rfl (mi_seq rfl (me_addK rfl (me_var 3) (me_call (OkD.calls (ok_lines T B) form_lines_2 hx_of rg) rfl (T.glo 26) (T.kp 15) (ma_cons (me_var 5) (ma_cons (me_var 4) (ma_nil)))))) (mg_tup rfl rfl (mgs_cons (mg_name (i := 6) sc_law.nd rfl (Or.inl rfl)) (mgs_cons (mg_name (i := 7) sc_law.nd rfl (Or.inl rfl)) (mgs_cons (mg_name (i := 8) sc_law.nd rfl (Or.inl rfl)) (mgs_nil))))) (ms_one (ms_if (PW.pt (mw_or (mt_cmp (op_neU rg.r.units) os_ne (me_call (OkD.calls (ok_words T B) form_words_1 hx_of rg) rfl (T.glo 29) (T.kp 16) (ma_cons (me_var 6) (ma_nil))) (me_lstK (ma_cons (me_var 7) (ma_nil)))) (mw_or (mt_cmp (op_neU rg.r.units) os_ne (me_call (OkD.calls (ok_kinds T B) form_kinds_1 hx_of rg) rfl (T.glo 36) (T.kp 17) (ma_cons (me_var 6) (ma_nil))) (me_var 8)) (mw_or1 (mt_not (mt_val (me_is1 (c0 := .ty "Exception") rfl (exb_44 T) (isC_nil) (.ty rfl (T.free 37)) rfl (T.free 27) rfl (me_var 6)))))))) (ms_one (ms_ret (me_bl))) (ms_nil))))
    (ms_cons (ms_par (i := 9) (j := 10) rfl sc_law.nd rfl rfl (by decide) rfl rfl (ma_cons (me_compK (own := [("_law_line", 11)]) (one := true) (is := [11]) rfl sc_law.nd (mi_seq rfl (me_var 3)) (blkOk_by (N := ["_law_script", "_law_stream", "_law_turn", "_law_lines_here", "_law_first", "_law_second", "_law_e", "_law_word", "_law_kinds_here", "_law_made", "_law_due", "_law_line"]) (sc := defScope s_law) (by decide +kernel)) (bd_one (by decide)) (fun _ _ _ _ _ => pg_name (i := 11) sc_law.nd rfl (Or.inl rfl)) (fun _ _ _ _ _ => mts_nil) (fun _ _ _ _ _ => me_ix rfl (me_var 11) (me_int))) (ma_cons (me_addK rfl (me_addK rfl (me_mulK (me_lst (ma_cons (me_var 4) (ma_nil))) (me_int)) (me_lstK (ma_cons (me_var 5) (ma_nil)))) (me_mulK (me_lst (ma_cons (me_var 4) (ma_nil))) (me_int))) (ma_nil))))
    (ms_cons (ms_if (mt_cmp (op_neU rg.r.units) os_ne (me_bi (cl_reprR rg) bs_reprR rfl (T.free 38) rfl (ma_cons (me_call (OkD.calls (ok_fields T B) form_fields_1 hx_of rg) rfl (T.glo 39) (T.kp 18) (ma_cons (me_var 9) (ma_nil))) (ma_nil))) (me_bi (cl_reprR rg) bs_reprR rfl (T.free 38) rfl (ma_cons (me_var 10) (ma_nil)))) (ms_one (ms_ret (me_bl))) (ms_nil))
    (ms_one (ms_if (mt_cmp (op_neU rg.r.units) os_ne (me_bi (cl_reprR rg) bs_reprR rfl (T.free 38) rfl (ma_cons (me_call (OkD.calls (ok_fields T B) form_fields_1 hx_of rg) rfl (T.glo 39) (T.kp 18) (ma_cons (me_compK (own := [("_law_line", 11)]) (one := true) (is := [11]) rfl sc_law.nd (mi_seq rfl (me_call (OkD.calls (ok_lines T B) form_lines_2 hx_of rg) rfl (T.glo 26) (T.kp 15) (ma_cons (me_var 4) (ma_cons (me_var 5) (ma_nil))))) (blkOk_by (N := ["_law_script", "_law_stream", "_law_turn", "_law_lines_here", "_law_first", "_law_second", "_law_e", "_law_word", "_law_kinds_here", "_law_made", "_law_due", "_law_line"]) (sc := defScope s_law) (by decide +kernel)) (bd_one (by decide)) (fun _ _ _ _ _ => pg_name (i := 11) sc_law.nd rfl (Or.inl rfl)) (fun _ _ _ _ _ => mts_nil) (fun _ _ _ _ _ => me_ix rfl (me_var 11) (me_int))) (ma_nil))) (ma_nil))) (me_bi (cl_reprR rg) bs_reprR rfl (T.free 38) rfl (ma_cons (me_var 10) (ma_nil)))) (ms_one (ms_ret (me_bl))) (ms_nil)))))))))
    (ms_one (ms_ret (me_bl)))))
end
end Lw
end
section
set_option maxHeartbeats 0
namespace Lw
open PySem PySem.Spec PyProof.Rows L2 Mo He
def loose0 : List Str := ["__name__", "MillError", "BadProgram", "BadCode", "BadGiven", "BadPaper", "BadLine", "BadState", "Lack", "NoSuch", "Gone", "Cant", "Busy", "Full", "BadKind", "BadNumber", "Trap", "_law_mixed", "_law_take", "_law_of", "_law_words", "_law_kinds", "_law_thing_by", "_law_lines", "_law_fields"]
def loose_ : List Str := loose0
abbrev Rw : PySem.W.OpenRow := PySem.W.OpenLaw.row PySem.Challenge.rw_tagmill_k02_families_of_refusals
abbrev hk_ : PySem.W.Hook := hookM 5 fa_ fn_ tq_ ex_
def ob_ (s : PySem.W.SharedT) : AlD × Bool := obsM 5 fa_ fn_ tq_ ex_ (HandSHeadRun.getT s)
theorem ob_eq (s : PySem.W.SharedT) : ob_ s = hk_.obs s.abs := obsM_eq (HandSHeadRun.getT_eq s)
theorem run_ (w : World) : HandSHeadRun.RunEq Rw (PySem.W.view Rw.prog [26]) hk_ ob_ 6000 loose_ w := by
  intro os
  kernel_rfl
end Lw
open PySem PySem.W PySem.Calls PyProof.Rows
theorem Lw.holds_of (LT : ∀ ns : List Int, ns.length ≤ 63 → ∃ h', Lw.f_law [Mo.D.kl (ns.map Mo.D.int)] Mo.Hm.start = Mo.R.ok (Mo.D.bl true) h') : PySem.Challenge.rw_tagmill_k02_families_of_refusals.Holds := by
  w_on; o_law
  refine HandSHeadRun.head_any (r := OpenLaw.row PySem.Challenge.rw_tagmill_k02_families_of_refusals) (q := view (OpenLaw.row PySem.Challenge.rw_tagmill_k02_families_of_refusals).prog [26]) (H := Lw.hk_) (ob := Lw.ob_) (M := 6000) (loose := Lw.loose_) (d := HandSHeadRun.topDef (OpenLaw.row PySem.Challenge.rw_tagmill_k02_families_of_refusals).prog 26) (kwd := []) Lw.ob_eq
    (by kernel_rfl) (fun s => by kernel_rfl) Lw.run_ (by kernel_rfl) (by kernel_rfl) (by kernel_rfl) (by rfl) (by first | assumption | decide +kernel) (by decide +kernel) ⟨rfl, rfl, rfl, rfl, rfl, by decide +kernel⟩ ?hw ?hc
  case hw => w_witness2
  case hc =>
    refine Mo.law_endE (l := PySem.Challenge.rw_tagmill_k02_families_of_refusals) (n := 63) (k := 5) (x := "_law_script") (d := Lw.dd_law) (G := fun K => Lw.Gk K []) (F := Lw.f_law) (fa := Lw.fa_) (fn := Lw.fn_) (tq := Lw.tq_) (ex := Lw.ex_) 19 rfl rfl (by decide) (by kernel_rfl) ⟨⟨rfl, by decide, by decide⟩, rfl⟩ (fun _ => rfl) (fun _ => rfl) (fun _ => rfl) (fun w h Y => Y) (fun K mg T => ?_) rfl (fun _ _ _ _ _ _ us hl => match us, hl with | [_], _ => rfl) (fun w mg K base T B => Lw.ok_law T B) LT
    have e : (HandSHeadRun.topDef (OpenLaw.row PySem.Challenge.rw_tagmill_k02_families_of_refusals).prog 26).name = ("law" : PySem.Str) := by kernel_rfl
    rw [e]
    exact T.glo 40
end
section
set_option maxHeartbeats 4000000
local macro_rules | `(tactic| walk_at "mH") => `(tactic| (first | assumption | ((repeat (first | ((with_reducible refine Eq.trans (Mo.put_ne ?_) ?_); (focus (first | omega | (simp only [Mo.put_n, Mo.new_n, Mo.del_n]; omega)))) | ((with_reducible refine Eq.trans (Mo.new_ne ?_) ?_); (focus (first | omega | (simp only [Mo.put_n, Mo.new_n, Mo.del_n]; omega)))) | ((with_reducible refine Eq.trans (Mo.del_ne ?_) ?_); (focus (first | omega | (simp only [Mo.put_n, Mo.new_n, Mo.del_n]; omega)))) | ((refine Mo.Fz.at (by assumption) ?_ ?_ ?_); (focus (first | omega | (simp only [Mo.put_n, Mo.new_n, Mo.del_n]; omega))); (focus (first | exact id | (intro z; (try dsimp only at z); omega)))))); (first | assumption | ((with_reducible refine Eq.trans (Mo.new_eq ?_) ?_); (focus (first | exact rfl | omega | (simp only [Mo.put_n, Mo.new_n, Mo.del_n]; omega))); (exact rfl)) | ((with_reducible refine Eq.trans (Mo.put_eq ?_) ?_); (focus (first | exact rfl | omega | (simp only [Mo.put_n, Mo.new_n, Mo.del_n]; omega))); (exact rfl))))))
local macro_rules | `(tactic| walk_at "mA") => `(tactic| (first | omega | exact Nat.le_of_ble_eq_true rfl | (simp only [List.length_cons, List.length_nil, List.length_map, List.length_append]; omega) | (unfold Mo.SL; omega) | (simp only [List.length_cons, List.length_nil, List.length_append, List.length_map]; unfold Mo.SL; omega) | decide | assumption))
local macro_rules | `(tactic| walk_at "mL") => `(tactic| (first | exact rfl | decide +kernel))
local macro_rules | `(tactic| walk_at "mC") => `(tactic| (first | exact rfl | assumption | (simp only [Bool.not_eq_eq_eq_not, Bool.not_true, Bool.not_false, decide_eq_true_eq, decide_eq_false_iff_not]; omega) | (simp only [Bool.not_eq_eq_eq_not, Bool.not_true, Bool.not_false, decide_eq_true_eq, decide_eq_false_iff_not, List.length_map, List.length_cons, List.length_nil, List.length_append]; omega)))
local macro_rules | `(tactic| walk_at "m1") => `(tactic| (first | ((with_reducible refine' Mo.ev_var ?e1 ?qq); (case e1 => exact rfl)) | with_reducible refine Mo.ev_c ?_ | with_reducible refine Mo.ev_op ?_ | with_reducible refine Mo.ev_cons ?_ | with_reducible refine Mo.ev_nil ?_ | with_reducible refine Mo.es_seq ?_ | with_reducible refine Mo.es_asg ?_ | with_reducible refine Mo.es_expr ?_ | with_reducible refine Mo.es_ret ?_ | with_reducible refine Mo.es_retN ?_ | with_reducible refine Mo.es_if ?_ | with_reducible refine Mo.es_next ?_ | with_reducible refine Mo.es_par2 ?_ | with_reducible refine Mo.es_par3 ?_ | with_reducible refine Mo.es_break ?_ | with_reducible refine Mo.es_cont ?_ | with_reducible refine Mo.es_fld ?_ | with_reducible refine Mo.es_dputS ?_ | with_reducible refine Mo.es_for ?_ | with_reducible refine Mo.ev_op ?_ | with_reducible refine Mo.ev_un ?_ | with_reducible refine Mo.ev_cons ?_ | with_reducible refine Mo.ev_nil ?_ | with_reducible refine Mo.ev_c ?_ | with_reducible refine Mo.ev_tup ?_ | with_reducible refine Mo.ev_lst ?_ | with_reducible refine Mo.ev_lstK ?_ | with_reducible refine Mo.ev_eIf ?_ | with_reducible refine Mo.ev_and ?_ | with_reducible refine Mo.ev_or ?_ | with_reducible refine Mo.ev_not ?_ | with_reducible refine Mo.ev_chain ?_ | with_reducible refine Mo.ev_tB ?_ | with_reducible refine Mo.ev_tAnd ?_ | with_reducible refine Mo.ev_tOr ?_ | with_reducible refine Mo.ev_tNot ?_ | with_reducible refine Mo.ev_tYes ?_ | with_reducible refine Mo.ev_add ?_ | with_reducible refine Mo.ev_addKI ?_ | with_reducible refine Mo.ev_addMI ?_ | with_reducible refine Mo.ev_addII ?_ | with_reducible refine Mo.ev_sub ?_ | with_reducible refine Mo.ev_neg ?_ | with_reducible refine Mo.ev_lt ?_ | with_reducible refine Mo.ev_le ?_ | with_reducible refine Mo.ev_gt ?_ | with_reducible refine Mo.ev_ge ?_ | with_reducible refine Mo.ev_eqI ?_ | with_reducible refine Mo.ev_neI ?_ | with_reducible refine Mo.ev_eqS ?_ | with_reducible refine Mo.ev_neS ?_ | with_reducible refine Mo.ev_isN ?_ | with_reducible refine Mo.ev_notN ?_ | with_reducible refine Mo.ev_oNone ?_ | with_reducible refine Mo.ev_oSome ?_ | with_reducible refine Mo.ev_sl ?_ | with_reducible refine Mo.ev_slX ?_ | with_reducible refine Mo.ev_slXT ?_ | with_reducible refine Mo.ev_slXK ?_ | with_reducible refine Mo.ev_fld ?_ | with_reducible refine Mo.ev_call ?_ | with_reducible refine Mo.ev_meth ?_ | with_reducible refine Mo.ev_new ?_ | with_reducible refine Mo.ev_bi ?_ | with_reducible refine Mo.ev_lenT ?_ | with_reducible refine Mo.ev_lenK ?_ | with_reducible refine Mo.ev_listT ?_ | with_reducible refine Mo.ev_listK ?_ | with_reducible refine Mo.ev_listKT ?_ | with_reducible refine Mo.ev_listKK ?_ | with_reducible refine Mo.ev_tupT ?_ | with_reducible refine Mo.ev_tupK ?_ | with_reducible refine Mo.ev_bm ?_ | with_reducible refine Mo.ev_pnil ?_ | with_reducible refine Mo.ev_pcons ?_ | with_reducible refine Mo.ev_dict ?_ | with_reducible refine Mo.ev_gN ?_ | with_reducible refine Mo.ev_gnil ?_ | with_reducible refine Mo.ev_gcons ?_ | with_reducible refine Mo.ev_gIx ?_ | with_reducible refine Mo.ev_gFld ?_ | with_reducible refine Mo.ev_iSeq ?_ | with_reducible refine Mo.ev_rng1 ?_ | with_reducible refine Mo.ev_rng2 ?_ | with_reducible refine Mo.ev_enum ?_ | with_reducible refine Mo.ev_comp ?_ | with_reducible refine Mo.ev_compK ?_ | with_reducible refine Mo.ev_frz ?_ | with_reducible refine Mo.ev_frzK ?_ | with_reducible refine Mo.ev_is ?_ | with_reducible refine Mo.ev_strS ?_ | with_reducible refine Mo.nb ?_ | with_reducible refine Mo.ni ?_ | with_reducible refine Mo.nn ?_ | with_reducible refine Mo.p2 ?_ | with_reducible refine Mo.p3 ?_ | with_reducible refine Mo.sqK ?_ | with_reducible refine Mo.itT ?_ | with_reducible refine Mo.itK ?_ | ((with_reducible refine' Mo.ev_var ?e1 ?qq); (case e1 => exact rfl)) | ((with_reducible refine' Mo.ev_mod ?e1 ?qq); (case e1 => walk_at "mA")) | ((with_reducible refine' Mo.ev_fdiv ?e1 ?qq); (case e1 => walk_at "mA")) | ((with_reducible refine' Mo.ev_mul ?e1 ?qq); (case e1 => walk_at "mA")) | ((with_reducible refine' Mo.ev_mulK ?e1 ?qq); (case e1 => walk_at "mA")) | ((with_reducible refine' Mo.ev_pow ?e1 ?qq); (case e1 => walk_at "mA")) | ((with_reducible refine' Mo.ev_ixT ?e1 ?qq); (case e1 => exact rfl)) | ((with_reducible refine' Mo.ev_ixK ?e1 ?qq); (case e1 => exact rfl)) | ((with_reducible refine' Mo.ev_dgetS ?e1 ?e2 ?qq); (case e1 => walk_at "mH"); (case e2 => walk_at "mL")) | ((with_reducible refine' Mo.ev_lenL ?e1 ?qq); (case e1 => walk_at "mH")) | ((with_reducible refine' Mo.ev_lenD ?e1 ?qq); (case e1 => walk_at "mH")) | ((with_reducible refine' Mo.ev_listL ?e1 ?qq); (case e1 => walk_at "mH")) | ((with_reducible refine' Mo.ev_listKL ?e1 ?qq); (case e1 => walk_at "mH")) | ((with_reducible refine' Mo.ev_frzL ?e1 ?qq); (case e1 => walk_at "mH")) | ((with_reducible refine' Mo.ev_tupL ?e1 ?qq); (case e1 => walk_at "mH")) | ((with_reducible refine' Mo.ev_append ?e1 ?e2 ?qq); (case e1 => walk_at "mH"); (case e2 => walk_at "mA")) | ((with_reducible refine' Mo.tl ?e1 ?qq); (case e1 => exact rfl)) | ((with_reducible refine' Mo.sqL ?e1 ?qq); (case e1 => walk_at "mH")) | ((with_reducible refine' Mo.itL ?e1 ?qq); (case e1 => walk_at "mH")) | ((with_reducible refine' Mo.fl ?e1 ?e2 ?e3 ?qq); (case e1 => walk_at "mH"); (case e2 => exact rfl); (case e3 => walk_at "mL")) | ((with_reducible refine' Mo.sm ?e1 ?e2 ?e3 ?qq); (case e1 => walk_at "mH"); (case e2 => exact rfl); (case e3 => walk_at "mL")) | ((with_reducible refine' Mo.pf ?e1 ?e2 ?e3 ?qq); (case e1 => walk_at "mH"); (case e2 => exact rfl); (case e3 => exact rfl)) | ((with_reducible refine' Mo.dp ?e1 ?e2 ?e3 ?qq); (case e1 => walk_at "mH"); (case e2 => exact rfl); (case e3 => walk_at "mA")) | ((with_reducible refine' Mo.r1 ?e1 ?qq); (case e1 => walk_at "mA")) | ((with_reducible refine' Mo.r2 ?e1 ?qq); (case e1 => walk_at "mA")) | ((with_reducible refine' Mo.tyL ?e1 ?qq); (case e1 => walk_at "mH")) | ((with_reducible refine' Mo.tyDc ?e1 ?qq); (case e1 => walk_at "mH")) | ((with_reducible refine' Mo.ev_gT ?e1 ?qq); (case e1 => exact rfl)) | ((with_reducible refine' Mo.ev_callP ?e1 ?e2 ?qq); (case e1 => exact rfl); (case e2 => exact rfl)) | ((with_reducible refine' Mo.kd ?e1 ?e2 ?e3 ?qq); (case e1 => exact rfl); (case e2 => exact rfl); (case e3 => exact rfl)) | ((with_reducible refine' Mo.ev_isi ?e1 ?qq); (case e1 => exact rfl)) | ((with_reducible refine' Mo.sel_t ?e1 ?qq); (case e1 => walk_at "mC")) | ((with_reducible refine' Mo.sel_f ?e1 ?qq); (case e1 => walk_at "mC")) | with_reducible refine Mo.es_raise ?_ | ((with_reducible refine Mo.rz ?_ ?_); (· exact rfl))))
namespace Lw
open PySem Mo
abbrev dI (ks : List Int) : List D := ks.map .int
theorem hd (A : Str) : @decide (A = A) (strDec A A) = true := @decide_eq_true _ (strDec A A) rfl
theorem nthN {α : Type} {xs : List α} {z : Int} (k : 0 ≤ z) : nth xs z = xs[z.toNat]? := by
  unfold nth ixI
  by_cases c : z < xs.length
  · rw [if_pos k, if_pos c]
    rfl
  · rw [if_pos k, if_neg c, List.getElem?_eq_none (by omega)]
    rfl
theorem ix_some {α : Type} {z : Int} {xs : List α} (k0 : 0 ≤ z) (k1 : z < xs.length) : ∃ x, x ∈ xs ∧ nth xs z = some x := by
  refine ⟨xs[z.toNat]'(by omega), List.getElem_mem _, ?_⟩
  rw [nthN k0, List.getElem?_eq_getElem (by omega)]
theorem datS {n : Nat} {h : Hm} {x : Str} (k : PyData.strOk x = true) : dat (n + 1) h (.str x) = some (.str x) := by
  unfold dat
  simp only [k]
theorem dat0 {n : Nat} {h : Hm} : dat (n + 1) h (.kl []) = some (.list []) := rfl
theorem eqv0 (xs : List PyData) : PyData.eqv (.list xs) (.list []) = decide (xs = []) := by
  cases xs with
  | nil => rfl
  | cons x xs => rfl
theorem datL_map {α : Type} {f : D → Option PyData} {g : α → D} {p : α → PyData} : ∀ {xs : List α}, (∀ x ∈ xs, f (g x) = some (p x)) → datL f (xs.map g) = some (xs.map p)
  | [], _ => rfl
  | x :: xs, k => by
    rw [List.map_cons, List.map_cons]
    unfold datL
    rw [k x List.mem_cons_self, datL_map fun y hy => k y (List.mem_cons_of_mem _ hy)]
theorem bools_fit (x y : Bool) : fits (.list [.bool x, .bool y]) = true := by cases x <;> cases y <;> decide +kernel
section
variable {E : XE} {Q : D → Hm → Prop} {h : Hm}
theorem ev_bm2 {T : String} {b : Mb} {o : ME} {as : MA} {σ : Mo.Env} (q : Ev E (o σ h) fun x h1 => TY h1 x T (Ev E (as σ h1) fun ds h2 => Ev E (b x ds h2) Q)) : Ev E (eBM T b o as σ h) Q := ev_bm q
theorem ev_pop0 {l : Nat} {x : D} {xs : List D} (e : h.g l = some (.lst (x :: xs))) (q : Q x (h.put l (.lst xs))) : Ev E (mPopAt (.loc l) [.int 0] h) Q := by
  unfold mPopAt
  simp only [e]
  have e1 : ixI (x :: xs).length 0 = some 0 := ixI_at (by omega) (by simp only [List.length_cons]; omega)
  simp only [e1]
  exact ev_ifR (by decide) q
theorem ev_lenS {x : Str} (k : x.length ≤ SL) (q : Q (.int x.length) h) : Ev E (bLen [.str x] h) Q := ev_ifR (decide_eq_true k) q
theorem ev_int {i : Int} (q : Q (.int i) h) : Ev E (bInt [.int i] h) Q := q
theorem ev_min2 {i j : Int} (q : Q (.int (if j < i then j else i)) h) : Ev E (bMin2 [.int i, .int j] h) Q := q
theorem sq_b {k : Int} (h0 : 0 ≤ k) (h1 : k < 100000) : 0 ≤ 7919 * k ∧ 7919 * k < 791900000 ∧ 0 ≤ 7919 * k * k ∧ 7919 * k * k ≤ 79190000000000 := by
  have e1 : 0 ≤ 7919 * k := by omega
  have e2 : 7919 * k < 791900000 := by omega
  refine ⟨e1, e2, Int.mul_nonneg e1 h0, ?_⟩
  have := Int.mul_le_mul_of_nonneg_right (show 7919 * k ≤ 791900000 from Int.le_of_lt e2) h0
  omega
theorem mixed_w {x k : Int} (h0 : 0 ≤ k) (h1 : k < 100000) (q : ∀ v, 0 ≤ v → v < 2147483648 → Q (.int v) h) : Ev E (f_mixed [.int x, .int k] h) Q := by
  obtain ⟨p1, p2, p3, p4⟩ := sq_b h0 h1
  have p5 := Int.emod_nonneg x (show (2147483647 : Int) ≠ 0 by omega)
  have p6 := Int.emod_lt_of_pos x (show (0 : Int) < 2147483647 by omega)
  refine u_mixed ?_
  unfold b_mixed
  repeat (walk_at "m1")
  refine q _ ?_ ?_ <;> omega
abbrev SF (ls lc : Nat) : Nat → Prop := fun l => l = ls ∨ l = lc
structure St (h : Hm) (ls lc : Nat) (b : Int) : Prop where
  e : ∃ (a n m : Int) (cs : List Int), h.g ls = some (.lst [.loc lc, .int a, .int n, .int m, .int 0]) ∧ h.g lc = some (.lst (dI cs)) ∧ 0 ≤ a ∧ 0 ≤ n ∧ n ≤ b ∧ 0 ≤ m
  n : ls < h.n ∧ lc < h.n ∧ ls ≠ lc
theorem St.fz {h h' : Hm} {ls lc : Nat} {b : Int} (w : St h ls lc b) (f : Fz (fun _ => False) h h') : St h' ls lc b := by
  obtain ⟨⟨a, n, m, cs, e1, e2, k⟩, n1, n2, n3⟩ := w
  have := f.n
  exact ⟨⟨a, n, m, cs, f.at n1 (fun z => z) e1, f.at n2 (fun z => z) e2, k⟩, by omega, by omega, n3⟩
theorem St.le {h : Hm} {ls lc : Nat} {b b' : Int} (w : St h ls lc b) (l : b ≤ b') : St h ls lc b' := let ⟨⟨a, n, m, cs, e1, e2, k1, k2, k3, k4⟩, n1⟩ := w; ⟨⟨a, n, m, cs, e1, e2, k1, k2, Int.le_trans k3 l, k4⟩, n1⟩
theorem mem_n {h : Hm} {l : Nat} {o : O} (_ : h.g l = some o) : True := trivial
variable {ls lc : Nat} {b : Int}
theorem take_tail {P : Po} {E : XS} {a n m0 m : Int} {cs : List Int} {a2 a3 : Option D} (g1 : h.g ls = some (.lst [.loc lc, .int a, .int n, .int m0, .int 0])) (g2 : h.g lc = some (.lst (dI cs))) (ka : 0 ≤ a) (k0 : 0 ≤ n) (k1 : n ≤ b + 1) (km : 0 ≤ m0) (hb : b < 90000) (hm : 0 < m) (hm2 : m < 1073741824) (n1 : ls < h.n) (n2 : lc < h.n) (n3 : ls ≠ lc)
    (q : ∀ v h', 0 ≤ v → v < m → Fz (SF ls lc) h h' → h'.n = h.n → St h' ls lc (b + 1) → P.rt (.int v) h') :
    EvS E ((sSeq (sIf (tB (eOp opGt (eOp opIx (eV 0) (eC (.int 1))) (eC (.int 1)))) (sSeq (sAsg (eOp opMod (eOp opIx (eV 0) (eC (.int 1))) (eV 1)) (gN 3))
  (sSeq (sAsg (eOp opFDiv (eOp opIx (eV 0) (eC (.int 1))) (eV 1)) (gIx (eV 0) (eC (.int 1))))
  (sRet (eV 3)))) (sNext))
  (sRet (eOp opMod (eOp opFDiv (eCall (callP 2 0 (fun ds _ => ds) f_mixed) (aCons (eOp opAddK (eOp opIx (eV 0) (eC (.int 3))) (eOp opMulK (eC (.int 104729)) (eOp opIx (eV 0) (eC (.int 2))))) (aCons (eOp opIx (eV 0) (eC (.int 2))) (aNil))) (aNil)) (eC (.int 11))) (eV 1)))) [some (.loc ls), some (.int m), a2, a3] h) P := by
  have i1 : nth [D.loc lc, .int a, .int n, .int m0, .int 0] 1 = some (.int a) := rfl
  have i2 : nth [D.loc lc, .int a, .int n, .int m0, .int 0] 2 = some (.int n) := rfl
  have i3 : nth [D.loc lc, .int a, .int n, .int m0, .int 0] 3 = some (.int m0) := rfl
  repeat (walk_at "m1")
  refine ev_ixL g1 i1 ?_
  repeat (walk_at "m1")
  refine sel_of (fun c => ?_) (fun c => ?_)
  · repeat (walk_at "m1")
    refine ev_ixL g1 i1 ?_
    repeat (walk_at "m1")
    refine ev_ixL g1 i1 ?_
    repeat (walk_at "m1")
    refine gi g1 (j := 1) rfl ?_
    repeat (walk_at "m1")
    refine q _ _ (Int.emod_nonneg _ (by omega)) (Int.emod_lt_of_pos _ hm) ((Fz.refl _ h).put _ (.inl (.inl rfl))) rfl ⟨⟨_, _, _, cs, put_eq rfl, (put_ne (fun z => n3 z.symm)).trans g2, ?_, k0, k1, km⟩, n1, n2, n3⟩
    exact Int.ediv_nonneg ka (by omega)
  · repeat (walk_at "m1")
    refine ev_ixL g1 i3 ?_
    repeat (walk_at "m1")
    refine ev_ixL g1 i2 ?_
    repeat (walk_at "m1")
    refine ev_ixL g1 i2 ?_
    repeat (walk_at "m1")
    refine mixed_w k0 (by omega) fun v v0 v1 => ?_
    repeat (walk_at "m1")
    exact q _ _ (Int.emod_nonneg _ (by omega)) (Int.emod_lt_of_pos _ hm) (Fz.refl _ h) rfl ⟨⟨_, _, _, cs, g1, g2, ka, k0, k1, km⟩, n1, n2, n3⟩
theorem take_w {m : Int} (w : St h ls lc b) (hb : b < 90000) (hm : 0 < m) (hm2 : m < 1073741824) (q : ∀ v h', 0 ≤ v → v < m → Fz (SF ls lc) h h' → h'.n = h.n → St h' ls lc (b + 1) → Q (.int v) h') : Ev E (f_take [.loc ls, .int m] h) Q := by
  obtain ⟨⟨a, n, m0, cs, g1, g2, ka, k0, k1, km⟩, n1, n2, n3⟩ := w
  refine u_take ?_
  unfold b_take
  have i0 : ∀ (a n m : Int), nth [D.loc lc, .int a, .int n, .int m, .int 0] 0 = some (.loc lc) := fun _ _ _ => rfl
  have i1 : ∀ (a n m : Int), nth [D.loc lc, .int a, .int n, .int m, .int 0] 1 = some (.int a) := fun _ _ _ => rfl
  have i2 : ∀ (a n m : Int), nth [D.loc lc, .int a, .int n, .int m, .int 0] 2 = some (.int n) := fun _ _ _ => rfl
  have i3 : ∀ (a n m : Int), nth [D.loc lc, .int a, .int n, .int m, .int 0] 3 = some (.int m) := fun _ _ _ => rfl
  repeat (walk_at "m1")
  refine ev_ixL g1 (i2 _ _ _) ?_
  repeat (walk_at "m1")
  refine gi g1 (j := 2) rfl ?_
  have G1 : (h.put ls (.lst ([D.loc lc, .int a, .int n, .int m0, .int 0].set 2 (.int (n + 1))))).g ls = some (.lst [.loc lc, .int a, .int (n + 1), .int m0, .int 0]) := put_eq rfl
  have G2 : (h.put ls (.lst ([D.loc lc, .int a, .int n, .int m0, .int 0].set 2 (.int (n + 1))))).g lc = some (.lst (dI cs)) := (put_ne (fun z => n3 z.symm)).trans g2
  have F1 : Fz (SF ls lc) h (h.put ls (.lst ([D.loc lc, .int a, .int n, .int m0, .int 0].set 2 (.int (n + 1))))) := (Fz.refl _ h).put _ (.inl (.inl rfl))
  have N1 : (h.put ls (.lst ([D.loc lc, .int a, .int n, .int m0, .int 0].set 2 (.int (n + 1))))).n = h.n := rfl
  generalize (h.put ls (.lst ([D.loc lc, .int a, .int n, .int m0, .int 0].set 2 (.int (n + 1))))) = h1 at G1 G2 F1 N1 ⊢
  refine es_seq ?_
  refine EvS.mono (P := ⟨fun σ h2 => ∃ a' m' cs' a2, σ = [some (.loc ls), some (.int m), a2, none] ∧ h2.g ls = some (.lst [.loc lc, .int a', .int (n + 1), .int m', .int 0]) ∧ h2.g lc = some (.lst (dI cs')) ∧ Fz (SF ls lc) h h2 ∧ h2.n = h.n ∧ 0 ≤ a' ∧ 0 ≤ m', fun _ _ => False, fun _ _ => False, fun _ _ => False⟩) ?_ (fun σ h2 => ?_) (fun _ _ z => z.elim) (fun _ _ z => z.elim) (fun _ _ z => z.elim)
  · repeat (walk_at "m1")
    refine ev_ixL G1 (i1 _ _ _) ?_
    repeat (walk_at "m1")
    refine sel_of (fun c => ?_) (fun c => ?_)
    · repeat (walk_at "m1")
      refine ev_ixL G1 (i0 _ _ _) ?_
      repeat (walk_at "m1")
      have dl : dat DEP h1 (.loc lc) = some (.list (cs.map .int)) := by
        show (match h1.g lc with | some (.lst xs) => (datL (dat 11 h1) xs).map PyData.list | _ => none) = _
        rw [G2]
        show (datL (dat 11 h1) (dI cs)).map PyData.list = _
        rw [datL_ints (n := 10)]
        rfl
      refine ev_neD dl (dat0 (n := 11)) ?_
      rw [eqv0]
      cases cs with
      | nil =>
        repeat (walk_at "m1")
        exact ⟨a, m0, [], none, rfl, G1, G2, F1, N1, ka, km⟩
      | cons c0 cs =>
        have e0 : decide (List.map PyData.int (c0 :: cs) = []) = false := rfl
        rw [e0]
        repeat (walk_at "m1")
        refine ev_ixL G1 (i0 _ _ _) ?_
        refine tyL G2 ?_
        repeat (walk_at "m1")
        refine ev_pop0 G2 ?_
        repeat (walk_at "m1")
        have G3 : (h1.put lc (.lst (dI cs))).g ls = some (.lst [.loc lc, .int a, .int (n + 1), .int m0, .int 0]) := (put_ne n3).trans G1
        have G4 : (h1.put lc (.lst (dI cs))).g lc = some (.lst (dI cs)) := put_eq rfl
        have F3 : Fz (SF ls lc) h (h1.put lc (.lst (dI cs))) := F1.put _ (.inl (.inr rfl))
        refine sel_of (fun c => ?_) (fun c => ?_)
        · have kc : 0 ≤ c0 := by
            have c := of_decide_eq_true c
            have e : (10 : Int) ^ Int.toNat 18 = 1000000000000000000 := by decide
            rw [e] at c
            omega
          repeat (walk_at "m1")
          refine gi G3 (j := 1) rfl ?_
          have G5 : ((h1.put lc (.lst (dI cs))).put ls (.lst ([D.loc lc, .int a, .int (n + 1), .int m0, .int 0].set 1 (.int c0)))).g ls = some (.lst [.loc lc, .int c0, .int (n + 1), .int m0, .int 0]) := put_eq rfl
          have G6 : ((h1.put lc (.lst (dI cs))).put ls (.lst ([D.loc lc, .int a, .int (n + 1), .int m0, .int 0].set 1 (.int c0)))).g lc = some (.lst (dI cs)) := (put_ne (fun z => n3 z.symm)).trans G4
          have F5 : Fz (SF ls lc) h ((h1.put lc (.lst (dI cs))).put ls (.lst ([D.loc lc, .int a, .int (n + 1), .int m0, .int 0].set 1 (.int c0)))) := F3.put _ (.inl (.inl rfl))
          have N5 : ((h1.put lc (.lst (dI cs))).put ls (.lst ([D.loc lc, .int a, .int (n + 1), .int m0, .int 0].set 1 (.int c0)))).n = h.n := N1
          generalize ((h1.put lc (.lst (dI cs))).put ls (.lst ([D.loc lc, .int a, .int (n + 1), .int m0, .int 0].set 1 (.int c0)))) = h2 at G5 G6 F5 N5 ⊢
          repeat (walk_at "m1")
          refine ev_ixL G5 (i3 _ _ _) ?_
          repeat (walk_at "m1")
          refine ev_ixL G5 (i2 _ _ _) ?_
          repeat (walk_at "m1")
          refine mixed_w (by omega) (by omega) fun v v0 v1 => ?_
          repeat (walk_at "m1")
          refine gi G5 (j := 3) rfl ?_
          exact ⟨c0, v, cs, _, rfl, put_eq rfl, (put_ne (fun z => n3 z.symm)).trans G6, F5.put _ (.inl (.inl rfl)), N5, kc, v0⟩
        · repeat (walk_at "m1")
          refine gi G3 (j := 1) rfl ?_
          have G5 : ((h1.put lc (.lst (dI cs))).put ls (.lst ([D.loc lc, .int a, .int (n + 1), .int m0, .int 0].set 1 (.int 0)))).g ls = some (.lst [.loc lc, .int 0, .int (n + 1), .int m0, .int 0]) := put_eq rfl
          have G6 : ((h1.put lc (.lst (dI cs))).put ls (.lst ([D.loc lc, .int a, .int (n + 1), .int m0, .int 0].set 1 (.int 0)))).g lc = some (.lst (dI cs)) := (put_ne (fun z => n3 z.symm)).trans G4
          have F5 : Fz (SF ls lc) h ((h1.put lc (.lst (dI cs))).put ls (.lst ([D.loc lc, .int a, .int (n + 1), .int m0, .int 0].set 1 (.int 0)))) := F3.put _ (.inl (.inl rfl))
          have N5 : ((h1.put lc (.lst (dI cs))).put ls (.lst ([D.loc lc, .int a, .int (n + 1), .int m0, .int 0].set 1 (.int 0)))).n = h.n := N1
          generalize ((h1.put lc (.lst (dI cs))).put ls (.lst ([D.loc lc, .int a, .int (n + 1), .int m0, .int 0].set 1 (.int 0)))) = h2 at G5 G6 F5 N5 ⊢
          repeat (walk_at "m1")
          refine ev_ixL G5 (i3 _ _ _) ?_
          repeat (walk_at "m1")
          refine ev_ixL G5 (i2 _ _ _) ?_
          repeat (walk_at "m1")
          refine mixed_w (by omega) (by omega) fun v v0 v1 => ?_
          repeat (walk_at "m1")
          refine gi G5 (j := 3) rfl ?_
          exact ⟨0, v, cs, _, rfl, put_eq rfl, (put_ne (fun z => n3 z.symm)).trans G6, F5.put _ (.inl (.inl rfl)), N5, Int.le_refl _, v0⟩
    · repeat (walk_at "m1")
      exact ⟨a, m0, cs, none, rfl, G1, G2, F1, N1, ka, km⟩
  · rintro ⟨a', m', cs', a2, rfl, g1', g2', f2, n2', ka', km'⟩
    refine take_tail g1' g2' ka' (by omega) (by omega) km' hb hm hm2 (by omega) (by omega) n3 fun v h3 v0 v1 f3 n3' st => ?_
    exact q v h3 v0 v1 (f2.after f3 fun _ z _ => z) (by omega) st
end
end Lw
end
section
set_option maxHeartbeats 4000000
local macro_rules | `(tactic| walk_at "mH") => `(tactic| (first | assumption | ((repeat (first | ((with_reducible refine Eq.trans (Mo.put_ne ?_) ?_); (focus (first | omega | (simp only [Mo.put_n, Mo.new_n, Mo.del_n]; omega)))) | ((with_reducible refine Eq.trans (Mo.new_ne ?_) ?_); (focus (first | omega | (simp only [Mo.put_n, Mo.new_n, Mo.del_n]; omega)))) | ((with_reducible refine Eq.trans (Mo.del_ne ?_) ?_); (focus (first | omega | (simp only [Mo.put_n, Mo.new_n, Mo.del_n]; omega)))) | ((refine Mo.Fz.at (by assumption) ?_ ?_ ?_); (focus (first | omega | (simp only [Mo.put_n, Mo.new_n, Mo.del_n]; omega))); (focus (first | exact id | (intro z; (try dsimp only at z); omega)))))); (first | assumption | ((with_reducible refine Eq.trans (Mo.new_eq ?_) ?_); (focus (first | exact rfl | omega | (simp only [Mo.put_n, Mo.new_n, Mo.del_n]; omega))); (exact rfl)) | ((with_reducible refine Eq.trans (Mo.put_eq ?_) ?_); (focus (first | exact rfl | omega | (simp only [Mo.put_n, Mo.new_n, Mo.del_n]; omega))); (exact rfl))))))
local macro_rules | `(tactic| walk_at "mA") => `(tactic| (first | omega | exact Nat.le_of_ble_eq_true rfl | (simp only [List.length_cons, List.length_nil, List.length_map, List.length_append]; omega) | (unfold Mo.SL; omega) | (simp only [List.length_cons, List.length_nil, List.length_append, List.length_map]; unfold Mo.SL; omega) | decide | assumption))
local macro_rules | `(tactic| walk_at "mL") => `(tactic| (first | exact rfl | decide +kernel))
local macro_rules | `(tactic| walk_at "mC") => `(tactic| (first | exact rfl | assumption | (simp only [Bool.not_eq_eq_eq_not, Bool.not_true, Bool.not_false, decide_eq_true_eq, decide_eq_false_iff_not]; omega) | (simp only [Bool.not_eq_eq_eq_not, Bool.not_true, Bool.not_false, decide_eq_true_eq, decide_eq_false_iff_not, List.length_map, List.length_cons, List.length_nil, List.length_append]; omega)))
local macro_rules | `(tactic| walk_at "m1") => `(tactic| (first | ((with_reducible refine' Mo.ev_var ?e1 ?qq); (case e1 => exact rfl)) | with_reducible refine Mo.ev_c ?_ | with_reducible refine Mo.ev_op ?_ | with_reducible refine Mo.ev_cons ?_ | with_reducible refine Mo.ev_nil ?_ | with_reducible refine Mo.es_seq ?_ | with_reducible refine Mo.es_asg ?_ | with_reducible refine Mo.es_expr ?_ | with_reducible refine Mo.es_ret ?_ | with_reducible refine Mo.es_retN ?_ | with_reducible refine Mo.es_if ?_ | with_reducible refine Mo.es_next ?_ | with_reducible refine Mo.es_par2 ?_ | with_reducible refine Mo.es_par3 ?_ | with_reducible refine Mo.es_break ?_ | with_reducible refine Mo.es_cont ?_ | with_reducible refine Mo.es_fld ?_ | with_reducible refine Mo.es_dputS ?_ | with_reducible refine Mo.es_for ?_ | with_reducible refine Mo.ev_op ?_ | with_reducible refine Mo.ev_un ?_ | with_reducible refine Mo.ev_cons ?_ | with_reducible refine Mo.ev_nil ?_ | with_reducible refine Mo.ev_c ?_ | with_reducible refine Mo.ev_tup ?_ | with_reducible refine Mo.ev_lst ?_ | with_reducible refine Mo.ev_lstK ?_ | with_reducible refine Mo.ev_eIf ?_ | with_reducible refine Mo.ev_and ?_ | with_reducible refine Mo.ev_or ?_ | with_reducible refine Mo.ev_not ?_ | with_reducible refine Mo.ev_chain ?_ | with_reducible refine Mo.ev_tB ?_ | with_reducible refine Mo.ev_tAnd ?_ | with_reducible refine Mo.ev_tOr ?_ | with_reducible refine Mo.ev_tNot ?_ | with_reducible refine Mo.ev_tYes ?_ | with_reducible refine Mo.ev_add ?_ | with_reducible refine Mo.ev_addKI ?_ | with_reducible refine Mo.ev_addMI ?_ | with_reducible refine Mo.ev_addII ?_ | with_reducible refine Mo.ev_sub ?_ | with_reducible refine Mo.ev_neg ?_ | with_reducible refine Mo.ev_lt ?_ | with_reducible refine Mo.ev_le ?_ | with_reducible refine Mo.ev_gt ?_ | with_reducible refine Mo.ev_ge ?_ | with_reducible refine Mo.ev_eqI ?_ | with_reducible refine Mo.ev_neI ?_ | with_reducible refine Mo.ev_eqS ?_ | with_reducible refine Mo.ev_neS ?_ | with_reducible refine Mo.ev_isN ?_ | with_reducible refine Mo.ev_notN ?_ | with_reducible refine Mo.ev_oNone ?_ | with_reducible refine Mo.ev_oSome ?_ | with_reducible refine Mo.ev_sl ?_ | with_reducible refine Mo.ev_slX ?_ | with_reducible refine Mo.ev_slXT ?_ | with_reducible refine Mo.ev_slXK ?_ | with_reducible refine Mo.ev_fld ?_ | with_reducible refine Mo.ev_call ?_ | with_reducible refine Mo.ev_meth ?_ | with_reducible refine Mo.ev_new ?_ | with_reducible refine Mo.ev_bi ?_ | with_reducible refine Mo.ev_lenT ?_ | with_reducible refine Mo.ev_lenK ?_ | with_reducible refine Mo.ev_listT ?_ | with_reducible refine Mo.ev_listK ?_ | with_reducible refine Mo.ev_listKT ?_ | with_reducible refine Mo.ev_listKK ?_ | with_reducible refine Mo.ev_tupT ?_ | with_reducible refine Mo.ev_tupK ?_ | with_reducible refine Mo.ev_bm ?_ | with_reducible refine Mo.ev_pnil ?_ | with_reducible refine Mo.ev_pcons ?_ | with_reducible refine Mo.ev_dict ?_ | with_reducible refine Mo.ev_gN ?_ | with_reducible refine Mo.ev_gnil ?_ | with_reducible refine Mo.ev_gcons ?_ | with_reducible refine Mo.ev_gIx ?_ | with_reducible refine Mo.ev_gFld ?_ | with_reducible refine Mo.ev_iSeq ?_ | with_reducible refine Mo.ev_rng1 ?_ | with_reducible refine Mo.ev_rng2 ?_ | with_reducible refine Mo.ev_enum ?_ | with_reducible refine Mo.ev_comp ?_ | with_reducible refine Mo.ev_compK ?_ | with_reducible refine Mo.ev_frz ?_ | with_reducible refine Mo.ev_frzK ?_ | with_reducible refine Mo.ev_is ?_ | with_reducible refine Mo.ev_strS ?_ | with_reducible refine Mo.nb ?_ | with_reducible refine Mo.ni ?_ | with_reducible refine Mo.nn ?_ | with_reducible refine Mo.p2 ?_ | with_reducible refine Mo.p3 ?_ | with_reducible refine Mo.sqK ?_ | with_reducible refine Mo.itT ?_ | with_reducible refine Mo.itK ?_ | ((with_reducible refine' Mo.ev_var ?e1 ?qq); (case e1 => exact rfl)) | ((with_reducible refine' Mo.ev_mod ?e1 ?qq); (case e1 => walk_at "mA")) | ((with_reducible refine' Mo.ev_fdiv ?e1 ?qq); (case e1 => walk_at "mA")) | ((with_reducible refine' Mo.ev_mul ?e1 ?qq); (case e1 => walk_at "mA")) | ((with_reducible refine' Mo.ev_mulK ?e1 ?qq); (case e1 => walk_at "mA")) | ((with_reducible refine' Mo.ev_pow ?e1 ?qq); (case e1 => walk_at "mA")) | ((with_reducible refine' Mo.ev_ixT ?e1 ?qq); (case e1 => exact rfl)) | ((with_reducible refine' Mo.ev_ixK ?e1 ?qq); (case e1 => exact rfl)) | ((with_reducible refine' Mo.ev_dgetS ?e1 ?e2 ?qq); (case e1 => walk_at "mH"); (case e2 => walk_at "mL")) | ((with_reducible refine' Mo.ev_lenL ?e1 ?qq); (case e1 => walk_at "mH")) | ((with_reducible refine' Mo.ev_lenD ?e1 ?qq); (case e1 => walk_at "mH")) | ((with_reducible refine' Mo.ev_listL ?e1 ?qq); (case e1 => walk_at "mH")) | ((with_reducible refine' Mo.ev_listKL ?e1 ?qq); (case e1 => walk_at "mH")) | ((with_reducible refine' Mo.ev_frzL ?e1 ?qq); (case e1 => walk_at "mH")) | ((with_reducible refine' Mo.ev_tupL ?e1 ?qq); (case e1 => walk_at "mH")) | ((with_reducible refine' Mo.ev_append ?e1 ?e2 ?qq); (case e1 => walk_at "mH"); (case e2 => walk_at "mA")) | ((with_reducible refine' Mo.tl ?e1 ?qq); (case e1 => exact rfl)) | ((with_reducible refine' Mo.sqL ?e1 ?qq); (case e1 => walk_at "mH")) | ((with_reducible refine' Mo.itL ?e1 ?qq); (case e1 => walk_at "mH")) | ((with_reducible refine' Mo.fl ?e1 ?e2 ?e3 ?qq); (case e1 => walk_at "mH"); (case e2 => exact rfl); (case e3 => walk_at "mL")) | ((with_reducible refine' Mo.sm ?e1 ?e2 ?e3 ?qq); (case e1 => walk_at "mH"); (case e2 => exact rfl); (case e3 => walk_at "mL")) | ((with_reducible refine' Mo.pf ?e1 ?e2 ?e3 ?qq); (case e1 => walk_at "mH"); (case e2 => exact rfl); (case e3 => exact rfl)) | ((with_reducible refine' Mo.dp ?e1 ?e2 ?e3 ?qq); (case e1 => walk_at "mH"); (case e2 => exact rfl); (case e3 => walk_at "mA")) | ((with_reducible refine' Mo.r1 ?e1 ?qq); (case e1 => walk_at "mA")) | ((with_reducible refine' Mo.r2 ?e1 ?qq); (case e1 => walk_at "mA")) | ((with_reducible refine' Mo.tyL ?e1 ?qq); (case e1 => walk_at "mH")) | ((with_reducible refine' Mo.tyDc ?e1 ?qq); (case e1 => walk_at "mH")) | ((with_reducible refine' Mo.ev_gT ?e1 ?qq); (case e1 => exact rfl)) | ((with_reducible refine' Mo.ev_callP ?e1 ?e2 ?qq); (case e1 => exact rfl); (case e2 => exact rfl)) | ((with_reducible refine' Mo.kd ?e1 ?e2 ?e3 ?qq); (case e1 => exact rfl); (case e2 => exact rfl); (case e3 => exact rfl)) | ((with_reducible refine' Mo.ev_isi ?e1 ?qq); (case e1 => exact rfl)) | ((with_reducible refine' Mo.sel_t ?e1 ?qq); (case e1 => walk_at "mC")) | ((with_reducible refine' Mo.sel_f ?e1 ?qq); (case e1 => walk_at "mC")) | with_reducible refine Mo.es_raise ?_ | ((with_reducible refine Mo.rz ?_ ?_); (· exact rfl))))
namespace Lw
open PySem Mo
/-- short texts -/
structure Nm (z : Str) : Prop where
  ok : PyData.strOk z = true
  l : z.cps.size ≤ 3
/-- the drawn things, and their data -/
inductive Tg (n0 : Nat) (h : Hm) : D → PyData → Prop
  | str {z : Str} : Nm z → Tg n0 h (.str z) (.str z)
  | int {i : Int} : -1 ≤ i → i < 100 → Tg n0 h (.int i) (.int i)
  | non : Tg n0 h .non .none
  | tup {z : Str} : Nm z → Tg n0 h (.tup [.str z, .int 3]) (.tuple [.str z, .int 3])
  | lst {z : Str} : Nm z → Tg n0 h (.kl [.str z]) (.list [.str z])
  | bl : Tg n0 h (.bl true) (.bool true)
  | dic {l : Nat} {z : Str} : h.g l = some (.dic [(.inl 1, .str z)]) → n0 ≤ l → l < h.n → Nm z → Tg n0 h (.loc l) (.dict [(.int 1, .str z)])
theorem Tg.fz {n0 : Nat} {h h' : Hm} {S : Nat → Prop} {d : D} {p : PyData} (w : Tg n0 h d p) (f : Fz S h h') (k : ∀ l, S l → l < n0) : Tg n0 h' d p := by
  cases w with
  | str a => exact .str a
  | int a b => exact .int a b
  | non => exact .non
  | tup a => exact .tup a
  | lst a => exact .lst a
  | bl => exact .bl
  | dic e a b c =>
    have := f.n
    exact .dic (f.at b (fun z => by have := k _ z; omega) e) a (by omega) c
theorem Tg.dat {n0 : Nat} {h : Hm} {d : D} {p : PyData} (w : Tg n0 h d p) (n : Nat) : datR (n + 2) h d = some p ∧ tameR p = true ∧ p.bulk ≤ 10 := by
  have ds : ∀ {m : Nat} {z : Str}, Nm z → datR (m + 1) h (.str z) = some (.str z) := fun {m z} k => by
    unfold datR
    simp only [k.ok]
  cases w with
  | str a => exact ⟨ds a, by simp only [tameR]; exact a.ok, by have := a.l; simp only [PyData.bulk]; omega⟩
  | @int i a b => exact ⟨rfl, by simp only [tameR]; exact decide_eq_true (by omega), by simp only [PyData.bulk]; omega⟩
  | non => exact ⟨rfl, by simp only [tameR], by simp only [PyData.bulk]; omega⟩
  | @tup z a =>
    refine ⟨?_, by simp only [tameR, tameRL]; rw [a.ok]; rfl, by have := a.l; simp only [PyData.bulk, PyData.bulkAll]; omega⟩
    show (datL (datR (n + 1) h) [.str z, .int 3]).map PyData.tuple = _
    unfold datL
    rw [ds a]
    rfl
  | @lst z a =>
    refine ⟨?_, by simp only [tameR, tameRL]; rw [a.ok]; rfl, by have := a.l; simp only [PyData.bulk, PyData.bulkAll]; omega⟩
    show (datL (datR (n + 1) h) [.str z]).map PyData.list = _
    unfold datL
    rw [ds a]
    rfl
  | bl => exact ⟨rfl, by simp only [tameR], by simp only [PyData.bulk]; omega⟩
  | @dic l z e a b c =>
    refine ⟨?_, by simp only [tameR, tameRK]; rw [c.ok]; rfl, by have := c.l; simp only [PyData.bulk, PyData.bulkKv]; omega⟩
    show (match h.g l with | some (.lst xs) => (datL (datR (n + 1) h) xs).map PyData.list | some (.dic kvs) => (datK (datR (n + 1) h) kvs).map PyData.dict | _ => none) = _
    rw [e]
    show (datK (datR (n + 1) h) [(.inl 1, .str z)]).map PyData.dict = _
    unfold datK
    rw [ds c]
    rfl
/-- a list of things is shown -/
theorem show_w {n0 : Nat} {h : Hm} : ∀ {ds : List D}, (∀ d ∈ ds, ∃ p, Tg n0 h d p) → ds.length ≤ 100 → ∃ ps, datR DEP h (.kl ds) = some (.list ps) ∧ fitsR (.list ps) = true ∧ (∀ h', (∀ d ∈ ds, ∀ p, Tg n0 h d p → Tg n0 h' d p) → datR DEP h' (.kl ds) = some (.list ps)) := fun {ds} k l => by
  have go : ∀ {ds : List D}, (∀ d ∈ ds, ∃ p, Tg n0 h d p) → ∃ ps, datL (datR 11 h) ds = some ps ∧ tameRL ps = true ∧ PyData.bulkAll ps ≤ 11 * ds.length ∧ (∀ h', (∀ d ∈ ds, ∀ p, Tg n0 h d p → Tg n0 h' d p) → datL (datR 11 h') ds = some ps) := by
    intro ds
    induction ds with
    | nil => exact fun _ => ⟨[], rfl, rfl, by simp only [PyData.bulkAll]; omega, fun _ _ => rfl⟩
    | cons d ds ih =>
      intro k
      obtain ⟨ps, a1, a2, a3, a4⟩ := ih fun x hx => k x (List.mem_cons_of_mem _ hx)
      obtain ⟨p, w⟩ := k d List.mem_cons_self
      obtain ⟨b1, b2, b3⟩ := w.dat 9
      refine ⟨p :: ps, by unfold datL; simp only [a1, b1], by simp only [tameRL, a2, b2, Bool.and_self], by simp only [PyData.bulkAll, List.length_cons]; omega, fun h' c => ?_⟩
      have e1 := ((c d List.mem_cons_self p w).dat 9).1
      have e2 := a4 h' fun x hx => c x (List.mem_cons_of_mem _ hx)
      unfold datL
      simp only [e1, e2]
  obtain ⟨ps, a1, a2, a3, a4⟩ := go k
  refine ⟨ps, Option.map_eq_some_iff.mpr ⟨ps, a1, rfl⟩, ?_, fun h' c => Option.map_eq_some_iff.mpr ⟨ps, a4 h' c, rfl⟩⟩
  unfold fitsR
  rw [show tameR (.list ps) = true from by simp only [tameR]; exact a2, Bool.true_and]
  have e : PyData.bulk (.list ps) = PyData.bulkAll ps := by simp only [PyData.bulk]
  rw [e]
  exact decide_eq_true (by omega)
section
variable {E : XE} {Q : D → Hm → Prop} {h : Hm} {ls lc : Nat} {b : Int}
theorem of_w {xs : List D} (st : St h ls lc b) (hb : b < 80000) (l0 : xs ≠ []) (l1 : xs.length ≤ 1000) (q : ∀ x h', x ∈ xs → Fz (SF ls lc) h h' → h'.n = h.n → St h' ls lc (b + 1) → Q x h') : Ev E (f_of [.loc ls, .kl xs] h) Q := by
  refine u_of ?_
  unfold b_of
  have lp : 0 < xs.length := List.length_pos_iff.mpr l0
  repeat (walk_at "m1")
  refine take_w st (by omega) (by omega) (by omega) fun v h1 v0 v1 f1 n1 s1 => ?_
  obtain ⟨x, hx, e⟩ := ix_some v0 v1
  refine ev_ixK e ?_
  exact q x h1 hx f1 n1 s1
theorem letter_w {v : Int} (v0 : 0 ≤ v) (v1 : v < 10) : ∃ c, nth q_abcdefghij.cps.toList v = some c ∧ c < 1114112 := by
  obtain ⟨c, m, e⟩ := ix_some (xs := q_abcdefghij.cps.toList) v0 (by have : q_abcdefghij.cps.toList.length = 10 := rfl; omega)
  refine ⟨c, e, ?_⟩
  have all : ∀ c ∈ q_abcdefghij.cps.toList, c < 1114112 := by decide +kernel
  exact all c m
theorem mul_nm {c : Nat} {k : Int} (kc : c < 1114112) (k0 : 0 ≤ k) (k1 : k < 4) : Nm (Txt.mul ⟨#[c]⟩ k) := by
  have ok : ∀ n : Nat, PyData.strOk ⟨(List.replicate n c).toArray⟩ = true := fun n => by
    unfold PyData.strOk
    rw [← Array.all_toList, List.all_eq_true]
    intro x hx
    have hx2 : x ∈ List.replicate n c := by simpa using hx
    rw [(List.mem_replicate.mp hx2).2]
    exact decide_eq_true kc
  have e : ∃ n : Nat, n ≤ 3 ∧ Txt.mul ⟨#[c]⟩ k = ⟨(List.replicate n c).toArray⟩ := by
    have c4 : k = 0 ∨ k = 1 ∨ k = 2 ∨ k = 3 := by omega
    rcases c4 with rfl | rfl | rfl | rfl
    · exact ⟨0, by omega, rfl⟩
    · exact ⟨1, by omega, rfl⟩
    · exact ⟨2, by omega, rfl⟩
    · exact ⟨3, by omega, rfl⟩
  obtain ⟨n, hn, e⟩ := e
  rw [e]
  exact ⟨ok n, by simpa using hn⟩
theorem thing_w {n0 : Nat} (st : St h ls lc b) (hb : b < 79000) (k1 : ls < n0) (k2 : lc < n0) (k3 : n0 ≤ h.n) (q : ∀ d p h', Tg n0 h' d p → Fz (SF ls lc) h h' → St h' ls lc (b + 4) → Q d h') : Ev E (f_thing_by [.loc ls] h) Q := by
  refine u_thing_by ?_
  unfold b_thing_by
  repeat (walk_at "m1")
  refine take_w st (by omega) (by omega) (by omega) fun v h1 v0 v1 f1 n1 s1 => ?_
  obtain ⟨c, ec, kc⟩ := letter_w v0 v1
  refine ev_ixAS ec (by decide) ?_
  repeat (walk_at "m1")
  refine take_w s1 (by omega) (by omega) (by omega) fun k h2 w0 w1 f2 n2 s2 => ?_
  refine ev_mulS ⟨w0, by omega, (by show 1 ≤ 1000; decide)⟩ ?_
  have nm := mul_nm kc w0 w1
  generalize Txt.mul ⟨#[c]⟩ k = z at nm
  repeat (walk_at "m1")
  refine take_w s2 (by omega) (by omega) (by omega) fun j h3 j0 j1 f3 n3 s3 => ?_
  repeat (walk_at "m1")
  have F : Fz (SF ls lc) h h3 := (f1.after f2 fun _ z _ => z).after f3 fun _ z _ => z
  rw [show List.foldl (fun (acc : List (Key × D)) kv => putK acc kv.1 kv.2) [] [((Sum.inl 1 : Key), D.str z)] = [(.inl 1, .str z)] from rfl]
  have F4 := F.new (.dic [(.inl 1, .str z)])
  have G4 : (h3.new (.dic [(.inl 1, .str z)])).g h3.n = some (.dic [(.inl 1, .str z)]) := new_eq rfl
  have N4 : (h3.new (.dic [(.inl 1, .str z)])).n = h3.n + 1 := rfl
  have s4 : St (h3.new (.dic [(.inl 1, .str z)])) ls lc (b + 1 + 1 + 1) := s3.fz ((Fz.refl _ h3).new _)
  have z3 : h3.n = h.n := by omega
  generalize h3.new (.dic [(.inl 1, .str z)]) = h4 at F4 G4 N4 s4 ⊢
  refine of_w s4 (by omega) (fun z => nomatch z) (by show 9 ≤ 1000; decide) fun x h5 hx f5 n5 s5 => ?_
  have sw : ∀ l, SF ls lc l → l < n0 := fun l z => by rcases z with rfl | rfl <;> assumption
  have G5 : h5.g h3.n = some (.dic [(.inl 1, .str z)]) := f5.at (by omega) (fun w => by have := sw _ w; omega) G4
  have S5 : St h5 ls lc (b + 4) := s5.le (by omega)
  have F5 : Fz (SF ls lc) h h5 := F4.after f5 fun _ z _ => z
  simp only [List.mem_cons, List.not_mem_nil, or_false] at hx
  rcases hx with rfl | rfl | rfl | rfl | rfl | rfl | rfl | rfl | rfl
  · exact q _ _ h5 (.str nm) F5 S5
  · exact q _ _ h5 (.int (by omega) (by omega)) F5 S5
  · exact q _ _ h5 .non F5 S5
  · exact q _ _ h5 (.tup nm) F5 S5
  · exact q _ _ h5 (.lst nm) F5 S5
  · exact q _ _ h5 (.int (by omega) (by omega)) F5 S5
  · exact q _ _ h5 .bl F5 S5
  · exact q _ _ h5 (.dic G5 (by omega) (by omega) nm) F5 S5
  · exact q _ _ h5 (.int (by omega) (by omega)) F5 S5
end
end Lw
end
section
set_option maxHeartbeats 4000000
local macro_rules | `(tactic| walk_at "mH") => `(tactic| (first | assumption | ((repeat (first | ((with_reducible refine Eq.trans (Mo.put_ne ?_) ?_); (focus (first | omega | (simp only [Mo.put_n, Mo.new_n, Mo.del_n]; omega)))) | ((with_reducible refine Eq.trans (Mo.new_ne ?_) ?_); (focus (first | omega | (simp only [Mo.put_n, Mo.new_n, Mo.del_n]; omega)))) | ((with_reducible refine Eq.trans (Mo.del_ne ?_) ?_); (focus (first | omega | (simp only [Mo.put_n, Mo.new_n, Mo.del_n]; omega)))) | ((refine Mo.Fz.at (by assumption) ?_ ?_ ?_); (focus (first | omega | (simp only [Mo.put_n, Mo.new_n, Mo.del_n]; omega))); (focus (first | exact id | (intro z; (try dsimp only at z); omega)))))); (first | assumption | ((with_reducible refine Eq.trans (Mo.new_eq ?_) ?_); (focus (first | exact rfl | omega | (simp only [Mo.put_n, Mo.new_n, Mo.del_n]; omega))); (exact rfl)) | ((with_reducible refine Eq.trans (Mo.put_eq ?_) ?_); (focus (first | exact rfl | omega | (simp only [Mo.put_n, Mo.new_n, Mo.del_n]; omega))); (exact rfl))))))
local macro_rules | `(tactic| walk_at "mA") => `(tactic| (first | omega | exact Nat.le_of_ble_eq_true rfl | (simp only [List.length_cons, List.length_nil, List.length_map, List.length_append]; omega) | (unfold Mo.SL; omega) | (simp only [List.length_cons, List.length_nil, List.length_append, List.length_map]; unfold Mo.SL; omega) | decide | assumption))
local macro_rules | `(tactic| walk_at "mL") => `(tactic| (first | exact rfl | decide +kernel))
local macro_rules | `(tactic| walk_at "mC") => `(tactic| (first | exact rfl | assumption | (simp only [Bool.not_eq_eq_eq_not, Bool.not_true, Bool.not_false, decide_eq_true_eq, decide_eq_false_iff_not]; omega) | (simp only [Bool.not_eq_eq_eq_not, Bool.not_true, Bool.not_false, decide_eq_true_eq, decide_eq_false_iff_not, List.length_map, List.length_cons, List.length_nil, List.length_append]; omega)))
local macro_rules | `(tactic| walk_at "m1") => `(tactic| (first | ((with_reducible refine' Mo.ev_var ?e1 ?qq); (case e1 => exact rfl)) | with_reducible refine Mo.ev_c ?_ | with_reducible refine Mo.ev_op ?_ | with_reducible refine Mo.ev_cons ?_ | with_reducible refine Mo.ev_nil ?_ | with_reducible refine Mo.es_seq ?_ | with_reducible refine Mo.es_asg ?_ | with_reducible refine Mo.es_expr ?_ | with_reducible refine Mo.es_ret ?_ | with_reducible refine Mo.es_retN ?_ | with_reducible refine Mo.es_if ?_ | with_reducible refine Mo.es_next ?_ | with_reducible refine Mo.es_par2 ?_ | with_reducible refine Mo.es_par3 ?_ | with_reducible refine Mo.es_break ?_ | with_reducible refine Mo.es_cont ?_ | with_reducible refine Mo.es_fld ?_ | with_reducible refine Mo.es_dputS ?_ | with_reducible refine Mo.es_for ?_ | with_reducible refine Mo.ev_op ?_ | with_reducible refine Mo.ev_un ?_ | with_reducible refine Mo.ev_cons ?_ | with_reducible refine Mo.ev_nil ?_ | with_reducible refine Mo.ev_c ?_ | with_reducible refine Mo.ev_tup ?_ | with_reducible refine Mo.ev_lst ?_ | with_reducible refine Mo.ev_lstK ?_ | with_reducible refine Mo.ev_eIf ?_ | with_reducible refine Mo.ev_and ?_ | with_reducible refine Mo.ev_or ?_ | with_reducible refine Mo.ev_not ?_ | with_reducible refine Mo.ev_chain ?_ | with_reducible refine Mo.ev_tB ?_ | with_reducible refine Mo.ev_tAnd ?_ | with_reducible refine Mo.ev_tOr ?_ | with_reducible refine Mo.ev_tNot ?_ | with_reducible refine Mo.ev_tYes ?_ | with_reducible refine Mo.ev_add ?_ | with_reducible refine Mo.ev_addKI ?_ | with_reducible refine Mo.ev_addMI ?_ | with_reducible refine Mo.ev_addII ?_ | with_reducible refine Mo.ev_sub ?_ | with_reducible refine Mo.ev_neg ?_ | with_reducible refine Mo.ev_lt ?_ | with_reducible refine Mo.ev_le ?_ | with_reducible refine Mo.ev_gt ?_ | with_reducible refine Mo.ev_ge ?_ | with_reducible refine Mo.ev_eqI ?_ | with_reducible refine Mo.ev_neI ?_ | with_reducible refine Mo.ev_eqS ?_ | with_reducible refine Mo.ev_neS ?_ | with_reducible refine Mo.ev_isN ?_ | with_reducible refine Mo.ev_notN ?_ | with_reducible refine Mo.ev_oNone ?_ | with_reducible refine Mo.ev_oSome ?_ | with_reducible refine Mo.ev_sl ?_ | with_reducible refine Mo.ev_slX ?_ | with_reducible refine Mo.ev_slXT ?_ | with_reducible refine Mo.ev_slXK ?_ | with_reducible refine Mo.ev_fld ?_ | with_reducible refine Mo.ev_call ?_ | with_reducible refine Mo.ev_meth ?_ | with_reducible refine Mo.ev_new ?_ | with_reducible refine Mo.ev_bi ?_ | with_reducible refine Mo.ev_lenT ?_ | with_reducible refine Mo.ev_lenK ?_ | with_reducible refine Mo.ev_listT ?_ | with_reducible refine Mo.ev_listK ?_ | with_reducible refine Mo.ev_listKT ?_ | with_reducible refine Mo.ev_listKK ?_ | with_reducible refine Mo.ev_tupT ?_ | with_reducible refine Mo.ev_tupK ?_ | with_reducible refine Mo.ev_bm ?_ | with_reducible refine Mo.ev_pnil ?_ | with_reducible refine Mo.ev_pcons ?_ | with_reducible refine Mo.ev_dict ?_ | with_reducible refine Mo.ev_gN ?_ | with_reducible refine Mo.ev_gnil ?_ | with_reducible refine Mo.ev_gcons ?_ | with_reducible refine Mo.ev_gIx ?_ | with_reducible refine Mo.ev_gFld ?_ | with_reducible refine Mo.ev_iSeq ?_ | with_reducible refine Mo.ev_rng1 ?_ | with_reducible refine Mo.ev_rng2 ?_ | with_reducible refine Mo.ev_enum ?_ | with_reducible refine Mo.ev_comp ?_ | with_reducible refine Mo.ev_compK ?_ | with_reducible refine Mo.ev_frz ?_ | with_reducible refine Mo.ev_frzK ?_ | with_reducible refine Mo.ev_is ?_ | with_reducible refine Mo.ev_strS ?_ | with_reducible refine Mo.nb ?_ | with_reducible refine Mo.ni ?_ | with_reducible refine Mo.nn ?_ | with_reducible refine Mo.p2 ?_ | with_reducible refine Mo.p3 ?_ | with_reducible refine Mo.sqK ?_ | with_reducible refine Mo.itT ?_ | with_reducible refine Mo.itK ?_ | ((with_reducible refine' Mo.ev_var ?e1 ?qq); (case e1 => exact rfl)) | ((with_reducible refine' Mo.ev_mod ?e1 ?qq); (case e1 => walk_at "mA")) | ((with_reducible refine' Mo.ev_fdiv ?e1 ?qq); (case e1 => walk_at "mA")) | ((with_reducible refine' Mo.ev_mul ?e1 ?qq); (case e1 => walk_at "mA")) | ((with_reducible refine' Mo.ev_mulK ?e1 ?qq); (case e1 => walk_at "mA")) | ((with_reducible refine' Mo.ev_pow ?e1 ?qq); (case e1 => walk_at "mA")) | ((with_reducible refine' Mo.ev_ixT ?e1 ?qq); (case e1 => exact rfl)) | ((with_reducible refine' Mo.ev_ixK ?e1 ?qq); (case e1 => exact rfl)) | ((with_reducible refine' Mo.ev_dgetS ?e1 ?e2 ?qq); (case e1 => walk_at "mH"); (case e2 => walk_at "mL")) | ((with_reducible refine' Mo.ev_lenL ?e1 ?qq); (case e1 => walk_at "mH")) | ((with_reducible refine' Mo.ev_lenD ?e1 ?qq); (case e1 => walk_at "mH")) | ((with_reducible refine' Mo.ev_listL ?e1 ?qq); (case e1 => walk_at "mH")) | ((with_reducible refine' Mo.ev_listKL ?e1 ?qq); (case e1 => walk_at "mH")) | ((with_reducible refine' Mo.ev_frzL ?e1 ?qq); (case e1 => walk_at "mH")) | ((with_reducible refine' Mo.ev_tupL ?e1 ?qq); (case e1 => walk_at "mH")) | ((with_reducible refine' Mo.ev_append ?e1 ?e2 ?qq); (case e1 => walk_at "mH"); (case e2 => walk_at "mA")) | ((with_reducible refine' Mo.tl ?e1 ?qq); (case e1 => exact rfl)) | ((with_reducible refine' Mo.sqL ?e1 ?qq); (case e1 => walk_at "mH")) | ((with_reducible refine' Mo.itL ?e1 ?qq); (case e1 => walk_at "mH")) | ((with_reducible refine' Mo.fl ?e1 ?e2 ?e3 ?qq); (case e1 => walk_at "mH"); (case e2 => exact rfl); (case e3 => walk_at "mL")) | ((with_reducible refine' Mo.sm ?e1 ?e2 ?e3 ?qq); (case e1 => walk_at "mH"); (case e2 => exact rfl); (case e3 => walk_at "mL")) | ((with_reducible refine' Mo.pf ?e1 ?e2 ?e3 ?qq); (case e1 => walk_at "mH"); (case e2 => exact rfl); (case e3 => exact rfl)) | ((with_reducible refine' Mo.dp ?e1 ?e2 ?e3 ?qq); (case e1 => walk_at "mH"); (case e2 => exact rfl); (case e3 => walk_at "mA")) | ((with_reducible refine' Mo.r1 ?e1 ?qq); (case e1 => walk_at "mA")) | ((with_reducible refine' Mo.r2 ?e1 ?qq); (case e1 => walk_at "mA")) | ((with_reducible refine' Mo.tyL ?e1 ?qq); (case e1 => walk_at "mH")) | ((with_reducible refine' Mo.tyDc ?e1 ?qq); (case e1 => walk_at "mH")) | ((with_reducible refine' Mo.ev_gT ?e1 ?qq); (case e1 => exact rfl)) | ((with_reducible refine' Mo.ev_callP ?e1 ?e2 ?qq); (case e1 => exact rfl); (case e2 => exact rfl)) | ((with_reducible refine' Mo.kd ?e1 ?e2 ?e3 ?qq); (case e1 => exact rfl); (case e2 => exact rfl); (case e3 => exact rfl)) | ((with_reducible refine' Mo.ev_isi ?e1 ?qq); (case e1 => exact rfl)) | ((with_reducible refine' Mo.sel_t ?e1 ?qq); (case e1 => walk_at "mC")) | ((with_reducible refine' Mo.sel_f ?e1 ?qq); (case e1 => walk_at "mC")) | with_reducible refine Mo.es_raise ?_ | ((with_reducible refine Mo.rz ?_ ?_); (· exact rfl))))
namespace Lw
open PySem Mo
def fsO (a b : D) : Nat → List (Str × D)
  | 0 => [(q_row, a)] | 1 => [(q_row, a)] | 2 => [(q_at, a)] | 3 => [(q_at, a)] | 4 => [(q_word, b), (q_row, a)] | 5 => [(q_at, a)] | 6 => [(q_name, a)] | 7 => [] | 8 => []
  | 9 => [(q_most, a)] | 10 => [(q_wanted, a)] | 11 => [(q_at, a)] | _ => [(q_word, a)]
def nW : Nat → Str
  | 0 => q_program | 1 => q_code | 2 => q_given | 3 => q_paper | 4 => q_line | 5 => q_state | 6 => q_such | 7 => q_gone | 8 => q_busy | 9 => q_full | 10 => q_kind | 11 => q_number | _ => q_trap
def nK : Nat → List Str
  | 0 | 1 | 2 | 3 | 4 | 5 => [q_mill, q_value]
  | 6 | 7 => [q_lack, q_lookup]
  | 8 | 9 => [q_cant, q_run]
  | 10 => [q_sort]
  | 11 => [q_lookup, q_index]
  | _ => [q_arithmetic]
abbrev dS (xs : List Str) : List D := xs.map .str
def row (c : Nat) (e : D) : D := .tup [e, .str (nW c), .kl (dS (nK c))]
def rows : Nat → List D → List D
  | _, [] => []
  | n, e :: es => row n e :: rows (n + 1) es
abbrev F0 : Nat → Prop := fun _ => False
/-- a refusal: of which class, with which fields -/
inductive Rf (n0 : Nat) (h : Hm) (c : Nat) : List (Str × D) → D → Prop
  | xc {l m : Nat} {fs : List (Str × D)} : h.g l = some (.xc c m) → h.g m = some (.xd fs) → n0 ≤ l → l < h.n → n0 ≤ m → m < h.n → Rf n0 h c fs (.loc l)
  | xn {l : Nat} : h.g l = some (.xn c) → n0 ≤ l → l < h.n → Rf n0 h c [] (.loc l)
theorem Rf.fz {n0 c : Nat} {h h' : Hm} {S : Nat → Prop} {fs : List (Str × D)} {d : D} (w : Rf n0 h c fs d) (f : Fz S h h') (k : ∀ l, S l → l < n0) : Rf n0 h' c fs d := by
  have := f.n
  cases w with
  | xc e1 e2 a1 a2 a3 a4 => exact .xc (f.at a2 (fun z => by have := k _ z; omega) e1) (f.at a4 (fun z => by have := k _ z; omega) e2) a1 (by omega) a3 (by omega)
  | xn e1 a1 a2 => exact .xn (f.at a2 (fun z => by have := k _ z; omega) e1) a1 (by omega)
theorem Rf.put {n0 c l : Nat} {h : Hm} {xs : List D} {o : O} {fs : List (Str × D)} {d : D} (w : Rf n0 h c fs d) (e : h.g l = some (.lst xs)) : Rf n0 (h.put l o) c fs d := by
  cases w with
  | xc e1 e2 a1 a2 a3 a4 => exact .xc ((put_ne (fun z => by rw [z, e] at e1; cases e1)).trans e1) ((put_ne (fun z => by rw [z, e] at e2; cases e2)).trans e2) a1 a2 a3 a4
  | xn e1 a1 a2 => exact .xn ((put_ne (fun z => by rw [z, e] at e1; cases e1)).trans e1) a1 a2
abbrev Ls := List (Nat × List (Str × D) × D)
def Rs (n0 : Nat) (h : Hm) (L : Ls) : Prop := ∀ x ∈ L, Rf n0 h x.1 x.2.1 x.2.2
theorem Rs.nil {n0 : Nat} {h : Hm} : Rs n0 h [] := fun _ z => nomatch z
theorem Rs.fz {n0 : Nat} {h h' : Hm} {S : Nat → Prop} {L : Ls} (w : Rs n0 h L) (f : Fz S h h') (k : ∀ l, S l → l < n0) : Rs n0 h' L := fun x m => (w x m).fz f k
theorem Rs.put {n0 l : Nat} {h : Hm} {xs : List D} {o : O} {L : Ls} (w : Rs n0 h L) (e : h.g l = some (.lst xs)) : Rs n0 (h.put l o) L := fun x m => (w x m).put e
theorem Rs.new {n0 : Nat} {h : Hm} {o : O} {L : Ls} (w : Rs n0 h L) : Rs n0 (h.new o) L := w.fz ((Fz.refl F0 h).new o) fun _ z => z.elim
theorem Rs.cons {n0 c : Nat} {h' : Hm} {fs : List (Str × D)} {d : D} {L : Ls} (r : Rf n0 h' c fs d) (w : Rs n0 h' L) : Rs n0 h' ((c, fs, d) :: L) := fun x m => by
  rcases List.mem_cons.mp m with rfl | m
  · exact r
  · exact w x m
section
variable {E : XE} {Q : D → Hm → Prop} {h : Hm} {σ : Mo.Env} {n0 : Nat} {L : Ls}
theorem ev_excR1 {c i : Nat} {f : Str} {x : D} (e : σ[i]? = some (some x)) (w : Rs n0 h L) (k : n0 ≤ h.n) (q : ∀ d h', Fz F0 h h' → Rs n0 h' ((c, [(f, x)], d) :: L) → Q d h') : Ev E (eExc c [f] (aCons (eV i) aNil) σ h) Q := by
  refine ev_exc (ev_cons (ev_var e (ev_nil ⟨rfl, q _ _ (((Fz.refl _ h).new _).new _) (Rs.cons ?_ w.new.new)⟩)))
  exact .xc (new_eq rfl) ((new_ne (Nat.ne_of_lt (Nat.lt_succ_self _))).trans (new_eq rfl)) (Nat.le_succ_of_le k) (Nat.lt_succ_self _) k (Nat.lt_succ_of_lt (Nat.lt_succ_self _))
theorem ev_excR2 {c i j : Nat} {f g : Str} {x y : D} (e : σ[i]? = some (some x)) (e' : σ[j]? = some (some y)) (w : Rs n0 h L) (k : n0 ≤ h.n) (q : ∀ d h', Fz F0 h h' → Rs n0 h' ((c, [(g, y), (f, x)], d) :: L) → Q d h') : Ev E (eExc c [f, g] (aCons (eV i) (aCons (eV j) aNil)) σ h) Q := by
  refine ev_exc (ev_cons (ev_var e (ev_cons (ev_var e' (ev_nil ⟨rfl, q _ _ (((Fz.refl _ h).new _).new _) (Rs.cons ?_ w.new.new)⟩)))))
  exact .xc (new_eq rfl) ((new_ne (Nat.ne_of_lt (Nat.lt_succ_self _))).trans (new_eq rfl)) (Nat.le_succ_of_le k) (Nat.lt_succ_self _) k (Nat.lt_succ_of_lt (Nat.lt_succ_self _))
theorem ev_lstR {as : MA} (q : Ev E (as σ h) fun ds h1 => TL ds (∀ l h2, Fz F0 h1 h2 → h1.n ≤ l → l < h2.n → h2.g l = some (.lst ds) → Q (.loc l) h2)) : Ev E (eLst as σ h) Q :=
  ev_lst (q.mono fun ds h1 ⟨e, w⟩ => ⟨e, w _ _ ((Fz.refl _ _).new _) (Nat.le_refl _) (Nat.lt_succ_self _) (new_eq rfl)⟩)
theorem ev_addR {x y : D} {xs ys : List D} (e1 : h.seq x = some xs) (e2 : h.seq y = some ys) (k : xs.length + ys.length ≤ SL) (q : ∀ l h2, Fz F0 h h2 → h.n ≤ l → l < h2.n → h2.g l = some (.lst (xs ++ ys)) → Q (.loc l) h2) : Ev E (opAddM x y h) Q :=
  ev_addMs e1 e2 k (q _ _ ((Fz.refl _ _).new _) (Nat.le_refl _) (Nat.lt_succ_self _) (new_eq rfl))
theorem ev_appR {l : Nat} {xs : List D} {y : D} (e : h.g l = some (.lst xs)) (k : xs.length < SL) (q : ∀ h2, Fz (fun m => m = l) h h2 → h2.n = h.n → h2.g l = some (.lst (xs ++ [y])) → Q .non h2) : Ev E (mAppend (.loc l) [y] h) Q :=
  ev_append e k (q _ ((Fz.refl _ _).put _ (.inl rfl)) rfl (put_eq rfl))
theorem Rs.lz {h2 : Hm} {l : Nat} {xs : List D} (w : Rs n0 h L) (e : h.g l = some (.lst xs)) (f : Fz (fun m => m = l) h h2) : Rs n0 h2 L := fun x m => by
  have := f.n
  have r := w x m
  revert r
  generalize x.1 = c
  generalize x.2.1 = fs
  generalize x.2.2 = d
  intro r
  cases r with
  | xc e1 e2 a1 a2 a3 a4 => exact .xc (f.at a2 (fun z => by rw [z, e] at e1; cases e1) e1) (f.at a4 (fun z => by rw [z, e] at e2; cases e2) e2) a1 (by omega) a3 (by omega)
  | xn e1 a1 a2 => exact .xn (f.at a2 (fun z => by rw [z, e] at e1; cases e1) e1) a1 (by omega)
theorem ev_xnR {c : Nat} {x : D} (w : Rs n0 h L) (k : n0 ≤ h.n) (q : ∀ d h', Fz F0 h h' → Rs n0 h' ((c, [], d) :: L) → Q d h') : Ev E (eXn c (eC x) σ h) Q := by
  refine ev_xn (ev_c (q _ _ ((Fz.refl _ h).new _) (Rs.cons ?_ w.new)))
  exact .xn (new_eq rfl) k (Nat.lt_succ_self _)
/-- thirteen refusals -/
def R13 (n0 : Nat) (h : Hm) (a b : D) (es : List D) : Prop := es.length = 13 ∧ ∀ i e, es[i]? = some e → Rf n0 h i (fsO a b i) e
theorem R13.fz {h h' : Hm} {S : Nat → Prop} {a b : D} {es : List D} (w : R13 n0 h a b es) (f : Fz S h h') (k : ∀ l, S l → l < n0) : R13 n0 h' a b es := ⟨w.1, fun i e z => (w.2 i e z).fz f k⟩
theorem lines_w {a b : D} (k : n0 ≤ h.n) (q : ∀ es h', Fz F0 h h' → R13 n0 h' a b es → Q (.kl (rows 0 es)) h') : Ev E (f_lines [a, b] h) Q := by
  refine u_lines ?_
  unfold b_lines
  have w0 : Rs n0 h [] := Rs.nil
  have F : Fz F0 h h := Fz.refl _ _
  repeat (first | with_reducible refine ev_lstR ?_ | walk_at "m1")
  refine ev_excR1 rfl w0 (by have := F.n; omega) fun e0 h1 f1 w1 => ?_
  replace F := F.after f1 fun _ z _ => z
  repeat (walk_at "m1")
  refine ev_excR1 rfl w1 (by have := F.n; omega) fun e1 h2 f2 w2 => ?_
  replace F := F.after f2 fun _ z _ => z
  repeat (walk_at "m1")
  refine ev_excR1 rfl w2 (by have := F.n; omega) fun e2 h3 f3 w3 => ?_
  replace F := F.after f3 fun _ z _ => z
  repeat (walk_at "m1")
  intro lA hA fA aA bA GA
  have wA := w3.fz fA fun _ z => z.elim
  replace F := F.after fA fun _ z _ => z
  repeat (walk_at "m1")
  refine ev_excR1 rfl wA (by have := F.n; omega) fun e3 h4 f4 w4 => ?_
  replace F := F.after f4 fun _ z _ => z
  repeat (walk_at "m1")
  refine ev_excR2 rfl rfl w4 (by have := F.n; omega) fun e4 h5 f5 w5 => ?_
  replace F := F.after f5 fun _ z _ => z
  repeat (walk_at "m1")
  refine ev_addR (seq_loc (f5.at (by have := bA; have := f4.n; have := f5.n; omega) (fun z => z) (f4.at (by have := bA; have := f4.n; have := f5.n; omega) (fun z => z) (GA)))) rfl (by walk_at "mA") ?_
  intro lB hB fB aB bB GB
  have wB := w5.fz fB fun _ z => z.elim
  replace F := F.after fB fun _ z _ => z
  repeat (walk_at "m1")
  refine ev_excR1 rfl wB (by have := F.n; omega) fun e5 h6 f6 w6 => ?_
  replace F := F.after f6 fun _ z _ => z
  repeat (walk_at "m1")
  refine ev_excR1 rfl w6 (by have := F.n; omega) fun e6 h7 f7 w7 => ?_
  replace F := F.after f7 fun _ z _ => z
  repeat (walk_at "m1")
  refine ev_xnR w7 (by have := F.n; omega) fun e7 h8 f8 w8 => ?_
  replace F := F.after f8 fun _ z _ => z
  repeat (walk_at "m1")
  refine ev_addR (seq_loc (f8.at (by have := bB; have := f6.n; have := f7.n; have := f8.n; omega) (fun z => z) (f7.at (by have := bB; have := f6.n; have := f7.n; have := f8.n; omega) (fun z => z) (f6.at (by have := bB; have := f6.n; have := f7.n; have := f8.n; omega) (fun z => z) (GB))))) rfl (by walk_at "mA") ?_
  intro lC hC fC aC bC GC
  have wC := w8.fz fC fun _ z => z.elim
  replace F := F.after fC fun _ z _ => z
  repeat (walk_at "m1")
  refine ev_xnR wC (by have := F.n; omega) fun e8 h9 f9 w9 => ?_
  replace F := F.after f9 fun _ z _ => z
  repeat (walk_at "m1")
  refine ev_excR1 rfl w9 (by have := F.n; omega) fun e9 h10 f10 w10 => ?_
  replace F := F.after f10 fun _ z _ => z
  repeat (walk_at "m1")
  refine ev_excR1 rfl w10 (by have := F.n; omega) fun e10 h11 f11 w11 => ?_
  replace F := F.after f11 fun _ z _ => z
  repeat (walk_at "m1")
  have nD := F.n
  refine ev_addR (seq_loc (f11.at (by have := bC; have := f9.n; have := f10.n; have := f11.n; omega) (fun z => z) (f10.at (by have := bC; have := f9.n; have := f10.n; have := f11.n; omega) (fun z => z) (f9.at (by have := bC; have := f9.n; have := f10.n; have := f11.n; omega) (fun z => z) (GC))))) rfl (by walk_at "mA") ?_
  intro lD hD fD aD bD GD
  have wD := w11.fz fD fun _ z => z.elim
  replace F := F.after fD fun _ z _ => z
  repeat (walk_at "m1")
  refine ev_excR1 rfl wD (by have := F.n; omega) fun e11 h12 f12 w12 => ?_
  replace F := F.after f12 fun _ z _ => z
  repeat (walk_at "m1")
  have GE := f12.at (by have := bD; have := f12.n; omega) (fun z => z) (GD)
  refine ev_appR GE (by walk_at "mA") fun hE fE nE GF => ?_
  have wE := w12.lz GE fE
  replace F := F.after fE fun l z c => by rw [z] at c; omega
  repeat (walk_at "m1")
  refine ev_excR1 rfl wE (by have := F.n; omega) fun e12 h13 f13 w13 => ?_
  replace F := F.after f13 fun _ z _ => z
  repeat (walk_at "m1")
  refine ev_addKs (seq_loc (f13.at (by have := f12.n; omega) (fun z => z) GF)) rfl (by walk_at "mA") ?_
  refine q [e0, e1, e2, e3, e4, e5, e6, e7, e8, e9, e10, e11, e12] _ F ⟨rfl, ?_⟩
  intro i e hi
  match i, hi with
  | 0, hi => cases (show some e0 = some e from hi); exact w13 (0, fsO a b 0, e0) (by simp [fsO])
  | 1, hi => cases (show some e1 = some e from hi); exact w13 (1, fsO a b 1, e1) (by simp [fsO])
  | 2, hi => cases (show some e2 = some e from hi); exact w13 (2, fsO a b 2, e2) (by simp [fsO])
  | 3, hi => cases (show some e3 = some e from hi); exact w13 (3, fsO a b 3, e3) (by simp [fsO])
  | 4, hi => cases (show some e4 = some e from hi); exact w13 (4, fsO a b 4, e4) (by simp [fsO])
  | 5, hi => cases (show some e5 = some e from hi); exact w13 (5, fsO a b 5, e5) (by simp [fsO])
  | 6, hi => cases (show some e6 = some e from hi); exact w13 (6, fsO a b 6, e6) (by simp [fsO])
  | 7, hi => cases (show some e7 = some e from hi); exact w13 (7, fsO a b 7, e7) (by simp [fsO])
  | 8, hi => cases (show some e8 = some e from hi); exact w13 (8, fsO a b 8, e8) (by simp [fsO])
  | 9, hi => cases (show some e9 = some e from hi); exact w13 (9, fsO a b 9, e9) (by simp [fsO])
  | 10, hi => cases (show some e10 = some e from hi); exact w13 (10, fsO a b 10, e10) (by simp [fsO])
  | 11, hi => cases (show some e11 = some e from hi); exact w13 (11, fsO a b 11, e11) (by simp [fsO])
  | 12, hi => cases (show some e12 = some e from hi); exact w13 (12, fsO a b 12, e12) (by simp [fsO])
  | n + 13, hi => cases (show none = some e from hi)
end
end Lw
end
section
set_option maxHeartbeats 4000000
local macro_rules | `(tactic| walk_at "mH") => `(tactic| (first | assumption | ((repeat (first | ((with_reducible refine Eq.trans (Mo.put_ne ?_) ?_); (focus (first | omega | (simp only [Mo.put_n, Mo.new_n, Mo.del_n]; omega)))) | ((with_reducible refine Eq.trans (Mo.new_ne ?_) ?_); (focus (first | omega | (simp only [Mo.put_n, Mo.new_n, Mo.del_n]; omega)))) | ((with_reducible refine Eq.trans (Mo.del_ne ?_) ?_); (focus (first | omega | (simp only [Mo.put_n, Mo.new_n, Mo.del_n]; omega)))) | ((refine Mo.Fz.at (by assumption) ?_ ?_ ?_); (focus (first | omega | (simp only [Mo.put_n, Mo.new_n, Mo.del_n]; omega))); (focus (first | exact id | (intro z; (try dsimp only at z); omega)))))); (first | assumption | ((with_reducible refine Eq.trans (Mo.new_eq ?_) ?_); (focus (first | exact rfl | omega | (simp only [Mo.put_n, Mo.new_n, Mo.del_n]; omega))); (exact rfl)) | ((with_reducible refine Eq.trans (Mo.put_eq ?_) ?_); (focus (first | exact rfl | omega | (simp only [Mo.put_n, Mo.new_n, Mo.del_n]; omega))); (exact rfl))))))
local macro_rules | `(tactic| walk_at "mA") => `(tactic| (first | omega | exact Nat.le_of_ble_eq_true rfl | (simp only [List.length_cons, List.length_nil, List.length_map, List.length_append]; omega) | (unfold Mo.SL; omega) | (simp only [List.length_cons, List.length_nil, List.length_append, List.length_map]; unfold Mo.SL; omega) | decide | assumption))
local macro_rules | `(tactic| walk_at "mL") => `(tactic| (first | exact rfl | decide +kernel))
local macro_rules | `(tactic| walk_at "mC") => `(tactic| (first | exact rfl | assumption | (simp only [Bool.not_eq_eq_eq_not, Bool.not_true, Bool.not_false, decide_eq_true_eq, decide_eq_false_iff_not]; omega) | (simp only [Bool.not_eq_eq_eq_not, Bool.not_true, Bool.not_false, decide_eq_true_eq, decide_eq_false_iff_not, List.length_map, List.length_cons, List.length_nil, List.length_append]; omega)))
local macro_rules | `(tactic| walk_at "m1") => `(tactic| (first | ((with_reducible refine' Mo.ev_var ?e1 ?qq); (case e1 => exact rfl)) | with_reducible refine Mo.ev_c ?_ | with_reducible refine Mo.ev_op ?_ | with_reducible refine Mo.ev_cons ?_ | with_reducible refine Mo.ev_nil ?_ | with_reducible refine Mo.es_seq ?_ | with_reducible refine Mo.es_asg ?_ | with_reducible refine Mo.es_expr ?_ | with_reducible refine Mo.es_ret ?_ | with_reducible refine Mo.es_retN ?_ | with_reducible refine Mo.es_if ?_ | with_reducible refine Mo.es_next ?_ | with_reducible refine Mo.es_par2 ?_ | with_reducible refine Mo.es_par3 ?_ | with_reducible refine Mo.es_break ?_ | with_reducible refine Mo.es_cont ?_ | with_reducible refine Mo.es_fld ?_ | with_reducible refine Mo.es_dputS ?_ | with_reducible refine Mo.es_for ?_ | with_reducible refine Mo.ev_op ?_ | with_reducible refine Mo.ev_un ?_ | with_reducible refine Mo.ev_cons ?_ | with_reducible refine Mo.ev_nil ?_ | with_reducible refine Mo.ev_c ?_ | with_reducible refine Mo.ev_tup ?_ | with_reducible refine Mo.ev_lst ?_ | with_reducible refine Mo.ev_lstK ?_ | with_reducible refine Mo.ev_eIf ?_ | with_reducible refine Mo.ev_and ?_ | with_reducible refine Mo.ev_or ?_ | with_reducible refine Mo.ev_not ?_ | with_reducible refine Mo.ev_chain ?_ | with_reducible refine Mo.ev_tB ?_ | with_reducible refine Mo.ev_tAnd ?_ | with_reducible refine Mo.ev_tOr ?_ | with_reducible refine Mo.ev_tNot ?_ | with_reducible refine Mo.ev_tYes ?_ | with_reducible refine Mo.ev_add ?_ | with_reducible refine Mo.ev_addKI ?_ | with_reducible refine Mo.ev_addMI ?_ | with_reducible refine Mo.ev_addII ?_ | with_reducible refine Mo.ev_sub ?_ | with_reducible refine Mo.ev_neg ?_ | with_reducible refine Mo.ev_lt ?_ | with_reducible refine Mo.ev_le ?_ | with_reducible refine Mo.ev_gt ?_ | with_reducible refine Mo.ev_ge ?_ | with_reducible refine Mo.ev_eqI ?_ | with_reducible refine Mo.ev_neI ?_ | with_reducible refine Mo.ev_eqS ?_ | with_reducible refine Mo.ev_neS ?_ | with_reducible refine Mo.ev_isN ?_ | with_reducible refine Mo.ev_notN ?_ | with_reducible refine Mo.ev_oNone ?_ | with_reducible refine Mo.ev_oSome ?_ | with_reducible refine Mo.ev_sl ?_ | with_reducible refine Mo.ev_slX ?_ | with_reducible refine Mo.ev_slXT ?_ | with_reducible refine Mo.ev_slXK ?_ | with_reducible refine Mo.ev_fld ?_ | with_reducible refine Mo.ev_call ?_ | with_reducible refine Mo.ev_meth ?_ | with_reducible refine Mo.ev_new ?_ | with_reducible refine Mo.ev_bi ?_ | with_reducible refine Mo.ev_lenT ?_ | with_reducible refine Mo.ev_lenK ?_ | with_reducible refine Mo.ev_listT ?_ | with_reducible refine Mo.ev_listK ?_ | with_reducible refine Mo.ev_listKT ?_ | with_reducible refine Mo.ev_listKK ?_ | with_reducible refine Mo.ev_tupT ?_ | with_reducible refine Mo.ev_tupK ?_ | with_reducible refine Mo.ev_bm ?_ | with_reducible refine Mo.ev_pnil ?_ | with_reducible refine Mo.ev_pcons ?_ | with_reducible refine Mo.ev_dict ?_ | with_reducible refine Mo.ev_gN ?_ | with_reducible refine Mo.ev_gnil ?_ | with_reducible refine Mo.ev_gcons ?_ | with_reducible refine Mo.ev_gIx ?_ | with_reducible refine Mo.ev_gFld ?_ | with_reducible refine Mo.ev_iSeq ?_ | with_reducible refine Mo.ev_rng1 ?_ | with_reducible refine Mo.ev_rng2 ?_ | with_reducible refine Mo.ev_enum ?_ | with_reducible refine Mo.ev_comp ?_ | with_reducible refine Mo.ev_compK ?_ | with_reducible refine Mo.ev_frz ?_ | with_reducible refine Mo.ev_frzK ?_ | with_reducible refine Mo.ev_is ?_ | with_reducible refine Mo.ev_strS ?_ | with_reducible refine Mo.nb ?_ | with_reducible refine Mo.ni ?_ | with_reducible refine Mo.nn ?_ | with_reducible refine Mo.p2 ?_ | with_reducible refine Mo.p3 ?_ | with_reducible refine Mo.sqK ?_ | with_reducible refine Mo.itT ?_ | with_reducible refine Mo.itK ?_ | ((with_reducible refine' Mo.ev_var ?e1 ?qq); (case e1 => exact rfl)) | ((with_reducible refine' Mo.ev_mod ?e1 ?qq); (case e1 => walk_at "mA")) | ((with_reducible refine' Mo.ev_fdiv ?e1 ?qq); (case e1 => walk_at "mA")) | ((with_reducible refine' Mo.ev_mul ?e1 ?qq); (case e1 => walk_at "mA")) | ((with_reducible refine' Mo.ev_mulK ?e1 ?qq); (case e1 => walk_at "mA")) | ((with_reducible refine' Mo.ev_pow ?e1 ?qq); (case e1 => walk_at "mA")) | ((with_reducible refine' Mo.ev_ixT ?e1 ?qq); (case e1 => exact rfl)) | ((with_reducible refine' Mo.ev_ixK ?e1 ?qq); (case e1 => exact rfl)) | ((with_reducible refine' Mo.ev_dgetS ?e1 ?e2 ?qq); (case e1 => walk_at "mH"); (case e2 => walk_at "mL")) | ((with_reducible refine' Mo.ev_lenL ?e1 ?qq); (case e1 => walk_at "mH")) | ((with_reducible refine' Mo.ev_lenD ?e1 ?qq); (case e1 => walk_at "mH")) | ((with_reducible refine' Mo.ev_listL ?e1 ?qq); (case e1 => walk_at "mH")) | ((with_reducible refine' Mo.ev_listKL ?e1 ?qq); (case e1 => walk_at "mH")) | ((with_reducible refine' Mo.ev_frzL ?e1 ?qq); (case e1 => walk_at "mH")) | ((with_reducible refine' Mo.ev_tupL ?e1 ?qq); (case e1 => walk_at "mH")) | ((with_reducible refine' Mo.ev_append ?e1 ?e2 ?qq); (case e1 => walk_at "mH"); (case e2 => walk_at "mA")) | ((with_reducible refine' Mo.tl ?e1 ?qq); (case e1 => exact rfl)) | ((with_reducible refine' Mo.sqL ?e1 ?qq); (case e1 => walk_at "mH")) | ((with_reducible refine' Mo.itL ?e1 ?qq); (case e1 => walk_at "mH")) | ((with_reducible refine' Mo.fl ?e1 ?e2 ?e3 ?qq); (case e1 => walk_at "mH"); (case e2 => exact rfl); (case e3 => walk_at "mL")) | ((with_reducible refine' Mo.sm ?e1 ?e2 ?e3 ?qq); (case e1 => walk_at "mH"); (case e2 => exact rfl); (case e3 => walk_at "mL")) | ((with_reducible refine' Mo.pf ?e1 ?e2 ?e3 ?qq); (case e1 => walk_at "mH"); (case e2 => exact rfl); (case e3 => exact rfl)) | ((with_reducible refine' Mo.dp ?e1 ?e2 ?e3 ?qq); (case e1 => walk_at "mH"); (case e2 => exact rfl); (case e3 => walk_at "mA")) | ((with_reducible refine' Mo.r1 ?e1 ?qq); (case e1 => walk_at "mA")) | ((with_reducible refine' Mo.r2 ?e1 ?qq); (case e1 => walk_at "mA")) | ((with_reducible refine' Mo.tyL ?e1 ?qq); (case e1 => walk_at "mH")) | ((with_reducible refine' Mo.tyDc ?e1 ?qq); (case e1 => walk_at "mH")) | ((with_reducible refine' Mo.ev_gT ?e1 ?qq); (case e1 => exact rfl)) | ((with_reducible refine' Mo.ev_callP ?e1 ?e2 ?qq); (case e1 => exact rfl); (case e2 => exact rfl)) | ((with_reducible refine' Mo.kd ?e1 ?e2 ?e3 ?qq); (case e1 => exact rfl); (case e2 => exact rfl); (case e3 => exact rfl)) | ((with_reducible refine' Mo.ev_isi ?e1 ?qq); (case e1 => exact rfl)) | ((with_reducible refine' Mo.sel_t ?e1 ?qq); (case e1 => walk_at "mC")) | ((with_reducible refine' Mo.sel_f ?e1 ?qq); (case e1 => walk_at "mC")) | with_reducible refine Mo.es_raise ?_ | ((with_reducible refine Mo.rz ?_ ?_); (· exact rfl))))
namespace Lw
open PySem Mo
abbrev Tb := List (Nat × Bool)
def tb (c : Nat) (T : Tb) : Bool := (lookN c T).getD false
theorem look_some : ∀ {T : Tb} {c : Nat}, c ∈ T.map (·.1) → lookN c T = some (tb c T)
  | [], _, h => nomatch h
  | (a, b) :: T, c, h => by
    unfold tb lookN
    by_cases e : a = c
    · rw [if_pos e]
      rfl
    · rw [if_neg e]
      rcases List.mem_cons.mp h with h | h
      · exact absurd h.symm e
      · exact look_some h
def pickL (ws : List Str) (bs : List Bool) : List Str := ((ws.zip bs).filter (·.2)).map (·.1)
section
variable {E : XE} {Q : D → Hm → Prop} {h : Hm} {σ : Mo.Env} {n0 c : Nat} {fs : List (Str × D)} {e : D} {L : Ls}
theorem ev_isRf {T : Tb} (r : Rf n0 h c fs e) (hc : c < 13) (hT : T.map (·.1) = List.range 13) (q : Q (.bl (tb c T)) h) : Ev E (isR [] [] T e h) Q := by
  have k : lookN c T = some (tb c T) := look_some (by rw [hT]; exact List.mem_range.mpr hc)
  refine ev_isR ?_ q
  cases r with
  | xc e1 e2 _ _ _ _ => exact isK_xc e1 e2 k
  | xn e1 _ _ => exact isK_xn e1 k
theorem zip_go {ok : Hm → Bool} {QL : List D → Hm → Prop} (hok : ok h = true) {x0 x1 x2 : Option D} : ∀ (ws : List Str) (bs : List Bool) (acc : List D), ws.length = bs.length → acc.length + ws.length ≤ 1000 → QL (acc ++ dS (pickL ws bs)) h →
    Ev E (compGo (bindC false [4, 3]) (tB (eV 3)) (eV 4) ok [x0, x1, x2, none, none] (zipD (dS ws) (bs.map .bl)) acc h) QL
  | [], [], acc, _, _, q => by
    show Ev E (compGo _ _ _ ok _ [] acc h) QL
    unfold compGo
    rw [show acc ++ dS (pickL [] []) = acc from List.append_nil _] at q
    exact ev_ifR hok q
  | w :: ws, b :: bs, acc, hl, hn, q => by
    show Ev E (compGo _ _ _ ok _ (D.tup [.str w, .bl b] :: zipD (dS ws) (bs.map .bl)) acc h) QL
    unfold compGo
    rw [hok]
    rw [List.length_cons] at hl hn
    rw [List.length_cons] at hl
    refine ev_bind (ev_quiet (ev_tB (ev_var rfl (nb ?_))))
    cases b with
    | false => exact zip_go hok ws bs acc (by omega) (by omega) q
    | true =>
      refine ev_bind (ev_quiet (ev_var rfl (ev_ifR (decide_eq_true (by unfold SL; omega)) ?_)))
      refine zip_go hok ws bs (acc ++ [.str w]) (by omega) (by rw [List.length_append, List.length_singleton]; omega) ?_
      rw [List.append_assoc]
      exact q
  | [], _ :: _, _, hl, _, _ => absurd hl (by simp)
  | _ :: _, [], _, hl, _, _ => absurd hl (by simp)
theorem words_pick : ∀ c : Nat, c < 13 → pickL [q_program, q_code, q_given, q_paper, q_line, q_state, q_such, q_gone, q_busy, q_full, q_kind, q_number, q_trap] [tb c [(0, true), (1, false), (2, false), (3, false), (4, false), (5, false), (6, false), (7, false), (8, false), (9, false), (10, false), (11, false), (12, false)], tb c [(0, false), (1, true), (2, false), (3, false), (4, false), (5, false), (6, false), (7, false), (8, false), (9, false), (10, false), (11, false), (12, false)], tb c [(0, false), (1, false), (2, true), (3, false), (4, false), (5, false), (6, false), (7, false), (8, false), (9, false), (10, false), (11, false), (12, false)], tb c [(0, false), (1, false), (2, false), (3, true), (4, false), (5, false), (6, false), (7, false), (8, false), (9, false), (10, false), (11, false), (12, false)], tb c [(0, false), (1, false), (2, false), (3, false), (4, true), (5, false), (6, false), (7, false), (8, false), (9, false), (10, false), (11, false), (12, false)], tb c [(0, false), (1, false), (2, false), (3, false), (4, false), (5, true), (6, false), (7, false), (8, false), (9, false), (10, false), (11, false), (12, false)], tb c [(0, false), (1, false), (2, false), (3, false), (4, false), (5, false), (6, true), (7, false), (8, false), (9, false), (10, false), (11, false), (12, false)], tb c [(0, false), (1, false), (2, false), (3, false), (4, false), (5, false), (6, false), (7, true), (8, false), (9, false), (10, false), (11, false), (12, false)], tb c [(0, false), (1, false), (2, false), (3, false), (4, false), (5, false), (6, false), (7, false), (8, true), (9, false), (10, false), (11, false), (12, false)], tb c [(0, false), (1, false), (2, false), (3, false), (4, false), (5, false), (6, false), (7, false), (8, false), (9, true), (10, false), (11, false), (12, false)], tb c [(0, false), (1, false), (2, false), (3, false), (4, false), (5, false), (6, false), (7, false), (8, false), (9, false), (10, true), (11, false), (12, false)], tb c [(0, false), (1, false), (2, false), (3, false), (4, false), (5, false), (6, false), (7, false), (8, false), (9, false), (10, false), (11, true), (12, false)], tb c [(0, false), (1, false), (2, false), (3, false), (4, false), (5, false), (6, false), (7, false), (8, false), (9, false), (10, false), (11, false), (12, true)]] = [nW c] := fun c hc => match c, hc with
  | 0, _ => by decide +kernel
  | 1, _ => by decide +kernel
  | 2, _ => by decide +kernel
  | 3, _ => by decide +kernel
  | 4, _ => by decide +kernel
  | 5, _ => by decide +kernel
  | 6, _ => by decide +kernel
  | 7, _ => by decide +kernel
  | 8, _ => by decide +kernel
  | 9, _ => by decide +kernel
  | 10, _ => by decide +kernel
  | 11, _ => by decide +kernel
  | 12, _ => by decide +kernel
  | n + 13, hc => absurd hc (by omega)
theorem kinds_pick : ∀ c : Nat, c < 13 → pickL [q_mill, q_lack, q_cant, q_sort, q_value, q_lookup, q_index, q_key, q_run, q_arithmetic, q_over, q_nought] [tb c [(0, true), (1, true), (2, true), (3, true), (4, true), (5, true), (6, false), (7, false), (8, false), (9, false), (10, false), (11, false), (12, false)], tb c [(0, false), (1, false), (2, false), (3, false), (4, false), (5, false), (6, true), (7, true), (8, false), (9, false), (10, false), (11, false), (12, false)], tb c [(0, false), (1, false), (2, false), (3, false), (4, false), (5, false), (6, false), (7, false), (8, true), (9, true), (10, false), (11, false), (12, false)], tb c [(0, false), (1, false), (2, false), (3, false), (4, false), (5, false), (6, false), (7, false), (8, false), (9, false), (10, true), (11, false), (12, false)], tb c [(0, true), (1, true), (2, true), (3, true), (4, true), (5, true), (6, false), (7, false), (8, false), (9, false), (10, false), (11, false), (12, false)], tb c [(0, false), (1, false), (2, false), (3, false), (4, false), (5, false), (6, true), (7, true), (8, false), (9, false), (10, false), (11, true), (12, false)], tb c [(0, false), (1, false), (2, false), (3, false), (4, false), (5, false), (6, false), (7, false), (8, false), (9, false), (10, false), (11, true), (12, false)], tb c [(0, false), (1, false), (2, false), (3, false), (4, false), (5, false), (6, false), (7, false), (8, false), (9, false), (10, false), (11, false), (12, false)], tb c [(0, false), (1, false), (2, false), (3, false), (4, false), (5, false), (6, false), (7, false), (8, true), (9, true), (10, false), (11, false), (12, false)], tb c [(0, false), (1, false), (2, false), (3, false), (4, false), (5, false), (6, false), (7, false), (8, false), (9, false), (10, false), (11, false), (12, true)], tb c [(0, false), (1, false), (2, false), (3, false), (4, false), (5, false), (6, false), (7, false), (8, false), (9, false), (10, false), (11, false), (12, false)], tb c [(0, false), (1, false), (2, false), (3, false), (4, false), (5, false), (6, false), (7, false), (8, false), (9, false), (10, false), (11, false), (12, false)]] = nK c := fun c hc => match c, hc with
  | 0, _ => by decide +kernel
  | 1, _ => by decide +kernel
  | 2, _ => by decide +kernel
  | 3, _ => by decide +kernel
  | 4, _ => by decide +kernel
  | 5, _ => by decide +kernel
  | 6, _ => by decide +kernel
  | 7, _ => by decide +kernel
  | 8, _ => by decide +kernel
  | 9, _ => by decide +kernel
  | 10, _ => by decide +kernel
  | 11, _ => by decide +kernel
  | 12, _ => by decide +kernel
  | n + 13, hc => absurd hc (by omega)
theorem words_w (r : Rf n0 h c fs e) (hc : c < 13) (q : Q (.kl (dS [nW c])) h) : Ev E (f_words [e] h) Q := by
  refine u_words ?_
  unfold b_words
  repeat (first | ((with_reducible refine ev_isRf r hc ?_ ?_); focus (exact rfl)) | (with_reducible refine ev_addKK (by walk_at "mA") ?_) | (with_reducible refine ev_iZip ?_) | walk_at "m1")
  refine ev_zipL (xs := dS [q_program, q_code, q_given, q_paper, q_line, q_state, q_such, q_gone, q_busy, q_full, q_kind, q_number, q_trap]) (ys := [tb c [(0, true), (1, false), (2, false), (3, false), (4, false), (5, false), (6, false), (7, false), (8, false), (9, false), (10, false), (11, false), (12, false)], tb c [(0, false), (1, true), (2, false), (3, false), (4, false), (5, false), (6, false), (7, false), (8, false), (9, false), (10, false), (11, false), (12, false)], tb c [(0, false), (1, false), (2, true), (3, false), (4, false), (5, false), (6, false), (7, false), (8, false), (9, false), (10, false), (11, false), (12, false)], tb c [(0, false), (1, false), (2, false), (3, true), (4, false), (5, false), (6, false), (7, false), (8, false), (9, false), (10, false), (11, false), (12, false)], tb c [(0, false), (1, false), (2, false), (3, false), (4, true), (5, false), (6, false), (7, false), (8, false), (9, false), (10, false), (11, false), (12, false)], tb c [(0, false), (1, false), (2, false), (3, false), (4, false), (5, true), (6, false), (7, false), (8, false), (9, false), (10, false), (11, false), (12, false)], tb c [(0, false), (1, false), (2, false), (3, false), (4, false), (5, false), (6, true), (7, false), (8, false), (9, false), (10, false), (11, false), (12, false)], tb c [(0, false), (1, false), (2, false), (3, false), (4, false), (5, false), (6, false), (7, true), (8, false), (9, false), (10, false), (11, false), (12, false)], tb c [(0, false), (1, false), (2, false), (3, false), (4, false), (5, false), (6, false), (7, false), (8, true), (9, false), (10, false), (11, false), (12, false)], tb c [(0, false), (1, false), (2, false), (3, false), (4, false), (5, false), (6, false), (7, false), (8, false), (9, true), (10, false), (11, false), (12, false)], tb c [(0, false), (1, false), (2, false), (3, false), (4, false), (5, false), (6, false), (7, false), (8, false), (9, false), (10, true), (11, false), (12, false)], tb c [(0, false), (1, false), (2, false), (3, false), (4, false), (5, false), (6, false), (7, false), (8, false), (9, false), (10, false), (11, true), (12, false)], tb c [(0, false), (1, false), (2, false), (3, false), (4, false), (5, false), (6, false), (7, false), (8, false), (9, false), (10, false), (11, false), (12, true)]].map .bl) ?_ ?_ ?_
  · rfl
  · rfl
  refine zip_go (by dsimp only; rw [Bool.and_eq_true]; exact ⟨decide_eq_true rfl, decide_eq_true rfl⟩) _ _ _ rfl (by decide) ?_
  rw [words_pick c hc]
  exact q
theorem kinds_w (r : Rf n0 h c fs e) (hc : c < 13) (q : Q (.kl (dS (nK c))) h) : Ev E (f_kinds [e] h) Q := by
  refine u_kinds ?_
  unfold b_kinds
  repeat (first | ((with_reducible refine ev_isRf r hc ?_ ?_); focus (exact rfl)) | (with_reducible refine ev_addKK (by walk_at "mA") ?_) | (with_reducible refine ev_iZip ?_) | walk_at "m1")
  refine ev_zipL (xs := dS [q_mill, q_lack, q_cant, q_sort, q_value, q_lookup, q_index, q_key, q_run, q_arithmetic, q_over, q_nought]) (ys := [tb c [(0, true), (1, true), (2, true), (3, true), (4, true), (5, true), (6, false), (7, false), (8, false), (9, false), (10, false), (11, false), (12, false)], tb c [(0, false), (1, false), (2, false), (3, false), (4, false), (5, false), (6, true), (7, true), (8, false), (9, false), (10, false), (11, false), (12, false)], tb c [(0, false), (1, false), (2, false), (3, false), (4, false), (5, false), (6, false), (7, false), (8, true), (9, true), (10, false), (11, false), (12, false)], tb c [(0, false), (1, false), (2, false), (3, false), (4, false), (5, false), (6, false), (7, false), (8, false), (9, false), (10, true), (11, false), (12, false)], tb c [(0, true), (1, true), (2, true), (3, true), (4, true), (5, true), (6, false), (7, false), (8, false), (9, false), (10, false), (11, false), (12, false)], tb c [(0, false), (1, false), (2, false), (3, false), (4, false), (5, false), (6, true), (7, true), (8, false), (9, false), (10, false), (11, true), (12, false)], tb c [(0, false), (1, false), (2, false), (3, false), (4, false), (5, false), (6, false), (7, false), (8, false), (9, false), (10, false), (11, true), (12, false)], tb c [(0, false), (1, false), (2, false), (3, false), (4, false), (5, false), (6, false), (7, false), (8, false), (9, false), (10, false), (11, false), (12, false)], tb c [(0, false), (1, false), (2, false), (3, false), (4, false), (5, false), (6, false), (7, false), (8, true), (9, true), (10, false), (11, false), (12, false)], tb c [(0, false), (1, false), (2, false), (3, false), (4, false), (5, false), (6, false), (7, false), (8, false), (9, false), (10, false), (11, false), (12, true)], tb c [(0, false), (1, false), (2, false), (3, false), (4, false), (5, false), (6, false), (7, false), (8, false), (9, false), (10, false), (11, false), (12, false)], tb c [(0, false), (1, false), (2, false), (3, false), (4, false), (5, false), (6, false), (7, false), (8, false), (9, false), (10, false), (11, false), (12, false)]].map .bl) ?_ ?_ ?_
  · rfl
  · rfl
  refine zip_go (by dsimp only; rw [Bool.and_eq_true]; exact ⟨decide_eq_true rfl, decide_eq_true rfl⟩) _ _ _ rfl (by decide) ?_
  rw [kinds_pick c hc]
  exact q
theorem ev_xf0 {a : ME} {cs : List Nat} {f : Str} (q : Ev E (a σ h) fun x h1 => Ev E (xfK cs f x h1) Q) : Ev E (eXf a cs f σ h) Q := ev_bind q
theorem ev_xfR {cs : List Nat} {f g : Str} {v w : D} (r : Rf n0 h c ((g, w) :: fs) e) (hc : cs.contains c = true) (hl : lookF f ((g, w) :: fs) = some v) (q : Q v h) : Ev E (xfK cs f e h) Q := by
  unfold xfK
  cases r with
  | xc e1 e2 _ _ _ _ =>
    simp only [e1, e2]
    refine ev_ifR hc ?_
    rw [hl]
    exact q
def vals (a b : D) : List D := [a, a, a, a, a, b, a, a, a, a, a, a]
theorem fields_w {a b : D} {es : List D} (r : R13 n0 h a b es) (q : Q (.kl (vals a b)) h) : Ev E (f_fields [.kl es] h) Q := by
  obtain ⟨hl, r⟩ := r
  match es, hl with
  | [e0, e1, e2, e3, e4, e5, e6, e7, e8, e9, e10, e11, e12], _ =>
    have r0 := r 0 e0 rfl
    have r1 := r 1 e1 rfl
    have r2 := r 2 e2 rfl
    have r3 := r 3 e3 rfl
    have r4 := r 4 e4 rfl
    have r5 := r 5 e5 rfl
    have r6 := r 6 e6 rfl
    have r9 := r 9 e9 rfl
    have r10 := r 10 e10 rfl
    have r11 := r 11 e11 rfl
    have r12 := r 12 e12 rfl
    refine u_fields ?_
    unfold b_fields
    repeat (first | with_reducible refine ev_xf0 ?_ | walk_at "m1")
    refine ev_xfR (v := a) r0 rfl (by rfl) ?_
    repeat (first | with_reducible refine ev_xf0 ?_ | walk_at "m1")
    refine ev_xfR (v := a) r1 rfl (by rfl) ?_
    repeat (first | with_reducible refine ev_xf0 ?_ | walk_at "m1")
    refine ev_xfR (v := a) r2 rfl (by rfl) ?_
    repeat (first | with_reducible refine ev_xf0 ?_ | walk_at "m1")
    refine ev_xfR (v := a) r3 rfl (by rfl) ?_
    repeat (first | with_reducible refine ev_xf0 ?_ | walk_at "m1")
    refine ev_xfR (v := a) r4 rfl (by rfl) ?_
    repeat (first | with_reducible refine ev_xf0 ?_ | walk_at "m1")
    refine ev_xfR (v := b) r4 rfl (by rfl) ?_
    repeat (first | with_reducible refine ev_xf0 ?_ | walk_at "m1")
    refine ev_xfR (v := a) r5 rfl (by rfl) ?_
    repeat (first | with_reducible refine ev_xf0 ?_ | walk_at "m1")
    refine ev_xfR (v := a) r6 rfl (by rfl) ?_
    repeat (first | with_reducible refine ev_xf0 ?_ | walk_at "m1")
    refine ev_xfR (v := a) r9 rfl (by rfl) ?_
    repeat (first | with_reducible refine ev_xf0 ?_ | walk_at "m1")
    refine ev_xfR (v := a) r10 rfl (by rfl) ?_
    repeat (first | with_reducible refine ev_xf0 ?_ | walk_at "m1")
    refine ev_xfR (v := a) r11 rfl (by rfl) ?_
    repeat (first | with_reducible refine ev_xf0 ?_ | walk_at "m1")
    refine ev_xfR (v := a) r12 rfl (by rfl) ?_
    repeat (first | ((with_reducible refine' ev_addKK ?e1 ?qq); (case e1 => walk_at "mA")) | walk_at "m1")
    exact q
theorem strs_dat {n : Nat} : ∀ {xs : List Str}, (∀ x ∈ xs, PyData.strOk x = true) → datL (dat (n + 1) h) (dS xs) = some (xs.map .str) ∧ tameL (xs.map PyData.str) = true
  | [], _ => ⟨rfl, rfl⟩
  | x :: xs, k => by
    obtain ⟨a, b⟩ := strs_dat (n := n) (xs := xs) fun y hy => k y (List.mem_cons_of_mem _ hy)
    have kx := k x List.mem_cons_self
    refine ⟨?_, by simp only [List.map_cons, tameL, tame, kx, b, Bool.and_self]⟩
    show datL (dat (n + 1) h) (D.str x :: dS xs) = _
    unfold datL
    rw [datS kx, a]
    rfl
theorem same_w {xs : List Str} (k : ∀ x ∈ xs, PyData.strOk x = true) (q : Q (.bl false) h) : Ev E (opNe (.kl (dS xs)) (.kl (dS xs)) h) Q := by
  obtain ⟨a, b⟩ := strs_dat (n := 10) (h := h) k
  have e : dat DEP h (.kl (dS xs)) = some (.list (xs.map .str)) := Option.map_eq_some_iff.mpr ⟨_, a, rfl⟩
  refine ev_neD e e ?_
  rw [eqv_of_tame _ (by simp only [tame]; exact b)]
  exact q
theorem nW_ok : ∀ c : Nat, PyData.strOk (nW c) = true := fun c => match c with
  | 0 => by decide +kernel
  | 1 => by decide +kernel
  | 2 => by decide +kernel
  | 3 => by decide +kernel
  | 4 => by decide +kernel
  | 5 => by decide +kernel
  | 6 => by decide +kernel
  | 7 => by decide +kernel
  | 8 => by decide +kernel
  | 9 => by decide +kernel
  | 10 => by decide +kernel
  | 11 => by decide +kernel
  | _ + 12 => ok_q_trap
theorem nK_ok : ∀ c : Nat, ∀ x ∈ nK c, PyData.strOk x = true := fun c => match c with
  | 0 => by decide +kernel
  | 1 => by decide +kernel
  | 2 => by decide +kernel
  | 3 => by decide +kernel
  | 4 => by decide +kernel
  | 5 => by decide +kernel
  | 6 => by decide +kernel
  | 7 => by decide +kernel
  | 8 => by decide +kernel
  | 9 => by decide +kernel
  | 10 => by decide +kernel
  | 11 => by decide +kernel
  | _ + 12 => by intro x hx; rw [List.mem_singleton.mp (show x ∈ [q_arithmetic] from hx)]; exact ok_q_arithmetic
theorem rows_at : ∀ {es : List D} {n i : Nat} {d : D}, (rows n es)[i]? = some d → ∃ e, es[i]? = some e ∧ d = row (n + i) e
  | [], n, i, d, z => by cases (show (none : Option D) = some d from z)
  | e :: es, n, 0, d, z => by cases (show some (row n e) = some d from z); exact ⟨e, rfl, rfl⟩
  | e :: es, n, i + 1, d, z => by
    obtain ⟨e', a, b⟩ := rows_at (es := es) (n := n + 1) (i := i) (d := d) z
    exact ⟨e', a, by rw [b, show n + 1 + i = n + (i + 1) by omega]⟩
theorem rows_len : ∀ {es : List D} {n : Nat}, (rows n es).length = es.length
  | [], _ => rfl
  | e :: es, n => congrArg (· + 1) (rows_len (es := es) (n := n + 1))
/-- what stands in the rows of both -/
theorem both_at {a b a' b' : D} {es es2 : List D} (r : R13 n0 h a b es) (r2 : R13 n0 h a' b' es2) {i : Nat} {d : D} (z : (rows 0 es ++ rows 0 es2)[i]? = some d) : ∃ c e fs, c < 13 ∧ d = row c e ∧ Rf n0 h c fs e := by
  rw [List.getElem?_append] at z
  split at z
  · rename_i hl
    obtain ⟨e, a, rfl⟩ := rows_at z
    rw [rows_len, r.1] at hl
    exact ⟨0 + i, e, _, by omega, rfl, by rw [Nat.zero_add]; exact r.2 i e a⟩
  · obtain ⟨e, a, rfl⟩ := rows_at z
    have hl := (List.getElem?_eq_some_iff.mp a).1
    rw [r2.1] at hl
    exact ⟨_, e, _, by rw [Nat.zero_add]; exact hl, rfl, by rw [Nat.zero_add]; exact r2.2 _ e a⟩
end
end Lw
end
section
set_option maxHeartbeats 4000000
local macro_rules | `(tactic| walk_at "mH") => `(tactic| (first | assumption | ((repeat (first | ((with_reducible refine Eq.trans (Mo.put_ne ?_) ?_); (focus (first | omega | (simp only [Mo.put_n, Mo.new_n, Mo.del_n]; omega)))) | ((with_reducible refine Eq.trans (Mo.new_ne ?_) ?_); (focus (first | omega | (simp only [Mo.put_n, Mo.new_n, Mo.del_n]; omega)))) | ((with_reducible refine Eq.trans (Mo.del_ne ?_) ?_); (focus (first | omega | (simp only [Mo.put_n, Mo.new_n, Mo.del_n]; omega)))) | ((refine Mo.Fz.at (by assumption) ?_ ?_ ?_); (focus (first | omega | (simp only [Mo.put_n, Mo.new_n, Mo.del_n]; omega))); (focus (first | exact id | (intro z; (try dsimp only at z); omega)))))); (first | assumption | ((with_reducible refine Eq.trans (Mo.new_eq ?_) ?_); (focus (first | exact rfl | omega | (simp only [Mo.put_n, Mo.new_n, Mo.del_n]; omega))); (exact rfl)) | ((with_reducible refine Eq.trans (Mo.put_eq ?_) ?_); (focus (first | exact rfl | omega | (simp only [Mo.put_n, Mo.new_n, Mo.del_n]; omega))); (exact rfl))))))
local macro_rules | `(tactic| walk_at "mA") => `(tactic| (first | omega | exact Nat.le_of_ble_eq_true rfl | (simp only [List.length_cons, List.length_nil, List.length_map, List.length_append]; omega) | (unfold Mo.SL; omega) | (simp only [List.length_cons, List.length_nil, List.length_append, List.length_map]; unfold Mo.SL; omega) | decide | assumption))
local macro_rules | `(tactic| walk_at "mL") => `(tactic| (first | exact rfl | decide +kernel))
local macro_rules | `(tactic| walk_at "mC") => `(tactic| (first | exact rfl | assumption | (simp only [Bool.not_eq_eq_eq_not, Bool.not_true, Bool.not_false, decide_eq_true_eq, decide_eq_false_iff_not]; omega) | (simp only [Bool.not_eq_eq_eq_not, Bool.not_true, Bool.not_false, decide_eq_true_eq, decide_eq_false_iff_not, List.length_map, List.length_cons, List.length_nil, List.length_append]; omega)))
local macro_rules | `(tactic| walk_at "m1") => `(tactic| (first | ((with_reducible refine' Mo.ev_var ?e1 ?qq); (case e1 => exact rfl)) | with_reducible refine Mo.ev_c ?_ | with_reducible refine Mo.ev_op ?_ | with_reducible refine Mo.ev_cons ?_ | with_reducible refine Mo.ev_nil ?_ | with_reducible refine Mo.es_seq ?_ | with_reducible refine Mo.es_asg ?_ | with_reducible refine Mo.es_expr ?_ | with_reducible refine Mo.es_ret ?_ | with_reducible refine Mo.es_retN ?_ | with_reducible refine Mo.es_if ?_ | with_reducible refine Mo.es_next ?_ | with_reducible refine Mo.es_par2 ?_ | with_reducible refine Mo.es_par3 ?_ | with_reducible refine Mo.es_break ?_ | with_reducible refine Mo.es_cont ?_ | with_reducible refine Mo.es_fld ?_ | with_reducible refine Mo.es_dputS ?_ | with_reducible refine Mo.es_for ?_ | with_reducible refine Mo.ev_op ?_ | with_reducible refine Mo.ev_un ?_ | with_reducible refine Mo.ev_cons ?_ | with_reducible refine Mo.ev_nil ?_ | with_reducible refine Mo.ev_c ?_ | with_reducible refine Mo.ev_tup ?_ | with_reducible refine Mo.ev_lst ?_ | with_reducible refine Mo.ev_lstK ?_ | with_reducible refine Mo.ev_eIf ?_ | with_reducible refine Mo.ev_and ?_ | with_reducible refine Mo.ev_or ?_ | with_reducible refine Mo.ev_not ?_ | with_reducible refine Mo.ev_chain ?_ | with_reducible refine Mo.ev_tB ?_ | with_reducible refine Mo.ev_tAnd ?_ | with_reducible refine Mo.ev_tOr ?_ | with_reducible refine Mo.ev_tNot ?_ | with_reducible refine Mo.ev_tYes ?_ | with_reducible refine Mo.ev_add ?_ | with_reducible refine Mo.ev_addKI ?_ | with_reducible refine Mo.ev_addMI ?_ | with_reducible refine Mo.ev_addII ?_ | with_reducible refine Mo.ev_sub ?_ | with_reducible refine Mo.ev_neg ?_ | with_reducible refine Mo.ev_lt ?_ | with_reducible refine Mo.ev_le ?_ | with_reducible refine Mo.ev_gt ?_ | with_reducible refine Mo.ev_ge ?_ | with_reducible refine Mo.ev_eqI ?_ | with_reducible refine Mo.ev_neI ?_ | with_reducible refine Mo.ev_eqS ?_ | with_reducible refine Mo.ev_neS ?_ | with_reducible refine Mo.ev_isN ?_ | with_reducible refine Mo.ev_notN ?_ | with_reducible refine Mo.ev_oNone ?_ | with_reducible refine Mo.ev_oSome ?_ | with_reducible refine Mo.ev_sl ?_ | with_reducible refine Mo.ev_slX ?_ | with_reducible refine Mo.ev_slXT ?_ | with_reducible refine Mo.ev_slXK ?_ | with_reducible refine Mo.ev_fld ?_ | with_reducible refine Mo.ev_call ?_ | with_reducible refine Mo.ev_meth ?_ | with_reducible refine Mo.ev_new ?_ | with_reducible refine Mo.ev_bi ?_ | with_reducible refine Mo.ev_lenT ?_ | with_reducible refine Mo.ev_lenK ?_ | with_reducible refine Mo.ev_listT ?_ | with_reducible refine Mo.ev_listK ?_ | with_reducible refine Mo.ev_listKT ?_ | with_reducible refine Mo.ev_listKK ?_ | with_reducible refine Mo.ev_tupT ?_ | with_reducible refine Mo.ev_tupK ?_ | with_reducible refine Mo.ev_bm ?_ | with_reducible refine Mo.ev_pnil ?_ | with_reducible refine Mo.ev_pcons ?_ | with_reducible refine Mo.ev_dict ?_ | with_reducible refine Mo.ev_gN ?_ | with_reducible refine Mo.ev_gnil ?_ | with_reducible refine Mo.ev_gcons ?_ | with_reducible refine Mo.ev_gIx ?_ | with_reducible refine Mo.ev_gFld ?_ | with_reducible refine Mo.ev_iSeq ?_ | with_reducible refine Mo.ev_rng1 ?_ | with_reducible refine Mo.ev_rng2 ?_ | with_reducible refine Mo.ev_enum ?_ | with_reducible refine Mo.ev_comp ?_ | with_reducible refine Mo.ev_compK ?_ | with_reducible refine Mo.ev_frz ?_ | with_reducible refine Mo.ev_frzK ?_ | with_reducible refine Mo.ev_is ?_ | with_reducible refine Mo.ev_strS ?_ | with_reducible refine Mo.nb ?_ | with_reducible refine Mo.ni ?_ | with_reducible refine Mo.nn ?_ | with_reducible refine Mo.p2 ?_ | with_reducible refine Mo.p3 ?_ | with_reducible refine Mo.sqK ?_ | with_reducible refine Mo.itT ?_ | with_reducible refine Mo.itK ?_ | ((with_reducible refine' Mo.ev_var ?e1 ?qq); (case e1 => exact rfl)) | ((with_reducible refine' Mo.ev_mod ?e1 ?qq); (case e1 => walk_at "mA")) | ((with_reducible refine' Mo.ev_fdiv ?e1 ?qq); (case e1 => walk_at "mA")) | ((with_reducible refine' Mo.ev_mul ?e1 ?qq); (case e1 => walk_at "mA")) | ((with_reducible refine' Mo.ev_mulK ?e1 ?qq); (case e1 => walk_at "mA")) | ((with_reducible refine' Mo.ev_pow ?e1 ?qq); (case e1 => walk_at "mA")) | ((with_reducible refine' Mo.ev_ixT ?e1 ?qq); (case e1 => exact rfl)) | ((with_reducible refine' Mo.ev_ixK ?e1 ?qq); (case e1 => exact rfl)) | ((with_reducible refine' Mo.ev_dgetS ?e1 ?e2 ?qq); (case e1 => walk_at "mH"); (case e2 => walk_at "mL")) | ((with_reducible refine' Mo.ev_lenL ?e1 ?qq); (case e1 => walk_at "mH")) | ((with_reducible refine' Mo.ev_lenD ?e1 ?qq); (case e1 => walk_at "mH")) | ((with_reducible refine' Mo.ev_listL ?e1 ?qq); (case e1 => walk_at "mH")) | ((with_reducible refine' Mo.ev_listKL ?e1 ?qq); (case e1 => walk_at "mH")) | ((with_reducible refine' Mo.ev_frzL ?e1 ?qq); (case e1 => walk_at "mH")) | ((with_reducible refine' Mo.ev_tupL ?e1 ?qq); (case e1 => walk_at "mH")) | ((with_reducible refine' Mo.ev_append ?e1 ?e2 ?qq); (case e1 => walk_at "mH"); (case e2 => walk_at "mA")) | ((with_reducible refine' Mo.tl ?e1 ?qq); (case e1 => exact rfl)) | ((with_reducible refine' Mo.sqL ?e1 ?qq); (case e1 => walk_at "mH")) | ((with_reducible refine' Mo.itL ?e1 ?qq); (case e1 => walk_at "mH")) | ((with_reducible refine' Mo.fl ?e1 ?e2 ?e3 ?qq); (case e1 => walk_at "mH"); (case e2 => exact rfl); (case e3 => walk_at "mL")) | ((with_reducible refine' Mo.sm ?e1 ?e2 ?e3 ?qq); (case e1 => walk_at "mH"); (case e2 => exact rfl); (case e3 => walk_at "mL")) | ((with_reducible refine' Mo.pf ?e1 ?e2 ?e3 ?qq); (case e1 => walk_at "mH"); (case e2 => exact rfl); (case e3 => exact rfl)) | ((with_reducible refine' Mo.dp ?e1 ?e2 ?e3 ?qq); (case e1 => walk_at "mH"); (case e2 => exact rfl); (case e3 => walk_at "mA")) | ((with_reducible refine' Mo.r1 ?e1 ?qq); (case e1 => walk_at "mA")) | ((with_reducible refine' Mo.r2 ?e1 ?qq); (case e1 => walk_at "mA")) | ((with_reducible refine' Mo.tyL ?e1 ?qq); (case e1 => walk_at "mH")) | ((with_reducible refine' Mo.tyDc ?e1 ?qq); (case e1 => walk_at "mH")) | ((with_reducible refine' Mo.ev_gT ?e1 ?qq); (case e1 => exact rfl)) | ((with_reducible refine' Mo.ev_callP ?e1 ?e2 ?qq); (case e1 => exact rfl); (case e2 => exact rfl)) | ((with_reducible refine' Mo.kd ?e1 ?e2 ?e3 ?qq); (case e1 => exact rfl); (case e2 => exact rfl); (case e3 => exact rfl)) | ((with_reducible refine' Mo.ev_isi ?e1 ?qq); (case e1 => exact rfl)) | ((with_reducible refine' Mo.sel_t ?e1 ?qq); (case e1 => walk_at "mC")) | ((with_reducible refine' Mo.sel_f ?e1 ?qq); (case e1 => walk_at "mC")) | with_reducible refine Mo.es_raise ?_ | ((with_reducible refine Mo.rz ?_ ?_); (· exact rfl))))
namespace Lw
open PySem Mo
theorem cut_dI {zs : List Int} {l u : Option Int} : cutL (dI zs) l u = dI (cutL zs l u) := by
  unfold cutL dI
  rw [List.length_map, ← List.map_drop, ← List.map_take]
section
variable {E : XE} {Q : D → Hm → Prop} {h : Hm} {σ : Mo.Env} {n0 : Nat}
/-- the refusals of the lines -/
theorem made_go {ok : Hm → Bool} {QL : List D → Hm → Prop} (hok : ok h = true) {x0 x1 x2 x3 x4 x5 x6 x7 x8 x9 x10 : Option D} : ∀ (es : List D) (n : Nat) (acc : List D), acc.length + es.length ≤ 1000 → QL (acc ++ es) h →
    Ev E (compGo (bindC true [11]) tYes (eOp opIx (eV 11) (eC (.int 0))) ok [x0, x1, x2, x3, x4, x5, x6, x7, x8, x9, x10, none] (rows n es) acc h) QL
  | [], n, acc, _, q => by
    show Ev E (compGo _ _ _ ok _ [] acc h) QL
    unfold compGo
    rw [List.append_nil] at q
    exact ev_ifR hok q
  | e :: es, n, acc, hn, q => by
    show Ev E (compGo _ _ _ ok _ (row n e :: rows (n + 1) es) acc h) QL
    unfold compGo
    rw [hok]
    rw [List.length_cons] at hn
    refine ev_bind (ev_quiet (ev_tYes ?_))
    refine ev_bind (ev_quiet (ev_op (ev_var rfl (ev_c (ev_ixT rfl (ev_ifR (decide_eq_true (by unfold SL; omega)) ?_))))))
    refine made_go hok es (n + 1) (acc ++ [e]) (by rw [List.length_append, List.length_singleton]; omega) ?_
    rw [List.append_assoc]
    exact q
abbrev YS (ns : List Int) (ls : Nat) : Mo.Env → Prop := fun σ => ∃ a2 a3 a4 a5 a6 a7 a8 a9 a10 a11, σ = [some (.kl (dI ns)), some (.loc ls), a2, a3, a4, a5, a6, a7, a8, a9, a10, a11]
theorem turn_w {P : Po} {E : XS} {ns : List Int} {ls lc : Nat} {b : Int} (st : St h ls lc b) (hb : b < 70000) (k1 : ls < n0) (k2 : lc < n0) (k3 : n0 ≤ h.n) (hs : YS ns ls σ) (q : ∀ σ' h', YS ns ls σ' → St h' ls lc (b + 8) → n0 ≤ h'.n → P.nx σ' h') : EvS E (l_law_4 σ h) P := by
  obtain ⟨a2, a3, a4, a5, a6, a7, a8, a9, a10, a11, rfl⟩ := hs
  have sw : ∀ l, SF ls lc l → l < n0 := fun l z => by rcases z with rfl | rfl <;> assumption
  have s0 : ∀ l, F0 l → l < n0 := fun _ z => z.elim
  unfold l_law_4
  repeat (walk_at "m1")
  refine thing_w st (by omega) k1 k2 k3 fun a pa h1 ta f1 s1 => ?_
  have n1 := f1.n
  repeat (walk_at "m1")
  refine thing_w s1 (by omega) k1 k2 (by omega) fun b' pb h2 tb' f2 s2 => ?_
  have n2 := f2.n
  have ta2 := ta.fz f2 sw
  repeat (walk_at "m1")
  refine lines_w (n0 := n0) (by omega) fun es h3 f3 r3 => ?_
  have n3 := f3.n
  have ta3 := ta2.fz f3 s0
  have tb3 := tb'.fz f3 s0
  have s3 := s2.fz f3
  repeat (walk_at "m1")
  refine lines_w (n0 := n0) (by omega) fun es2 h4 f4 r4 => ?_
  have n4 := f4.n
  have ta4 := ta3.fz f4 s0
  have tb4 := tb3.fz f4 s0
  have s4 := s3.fz f4
  have r34 := r3.fz f4 s0
  refine ev_addKK (by rw [rows_len, rows_len, r3.1, r4.1]; decide) ?_
  repeat (walk_at "m1")
  refine for_inv (fun i σ h' => (∃ a6 a7 a8, σ = [some (.kl (dI ns)), some (.loc ls), a2, some (.kl (rows 0 es)), some a, some b', a6, a7, a8, a9, a10, a11]) ∧ h' = h4) _ 0 _ _ ⟨⟨_, _, _, rfl⟩, rfl⟩ (fun i σ h' _ _ _ => rfl) ?_ ?_
  · rintro i d σ h' ed ⟨⟨a6, a7, a8, rfl⟩, rfl⟩
    obtain ⟨c, e, fs, hc, rfl, r⟩ := both_at r34 r4 ed
    unfold row
    repeat (walk_at "m1")
    unfold l_law_1
    repeat (walk_at "m1")
    refine words_w r hc ?_
    repeat (walk_at "m1")
    refine same_w (xs := [nW c]) (fun x hx => by rw [List.mem_singleton.mp hx]; exact nW_ok c) ?_
    repeat (walk_at "m1")
    refine kinds_w r hc ?_
    repeat (walk_at "m1")
    refine same_w (nK_ok c) ?_
    repeat (first | ((with_reducible refine' ev_isRf ?e1 ?e2 ?e3 ?qq); (case e1 => assumption); (case e2 => assumption); (case e3 => exact rfl)) | walk_at "m1")
    refine sel_f ?_ ?_
    · have all : ∀ c, c < 13 → (!tb c [(0, true), (1, true), (2, true), (3, true), (4, true), (5, true), (6, true), (7, true), (8, true), (9, true), (10, true), (11, true), (12, true)]) = false := by
        intro c hc
        match c, hc with
        | 0, _ => rfl
        | 1, _ => rfl
        | 2, _ => rfl
        | 3, _ => rfl
        | 4, _ => rfl
        | 5, _ => rfl
        | 6, _ => rfl
        | 7, _ => rfl
        | 8, _ => rfl
        | 9, _ => rfl
        | 10, _ => rfl
        | 11, _ => rfl
        | 12, _ => rfl
        | n + 13, hc => exact absurd hc (by omega)
      exact all c hc
    · repeat (walk_at "m1")
      exact ⟨⟨_, _, _, rfl⟩, rfl⟩
  · rintro σ h' ⟨⟨a6, a7, a8, rfl⟩, rfl⟩
    repeat (walk_at "m1")
    refine made_go (by rfl) es 0 [] (by rw [r3.1]; decide) ?_
    repeat (walk_at "m1")
    refine ev_repK (new_eq rfl) ⟨by omega, by omega, (by show 1 * 5 ≤ SL; unfold SL; omega)⟩ ?_
    rw [show (List.replicate (Int.toNat 5) [a]).flatten = [a, a, a, a, a] from rfl]
    repeat (first | ((with_reducible refine' ev_addKK ?e1 ?qq); (case e1 => walk_at "mA")) | walk_at "m1")
    refine ev_repK (new_eq rfl) ⟨by omega, by omega, (by show 1 * 6 ≤ SL; unfold SL; omega)⟩ ?_
    rw [show (List.replicate (Int.toNat 6) [a]).flatten = [a, a, a, a, a, a] from rfl]
    repeat (first | ((with_reducible refine' ev_addKK ?e1 ?qq); (case e1 => walk_at "mA")) | walk_at "m1")
    have fx : Fz F0 h' ((h'.new (.lst [a])).new (.lst [a])) := ((Fz.refl F0 h').new _).new _
    generalize (h'.new (.lst [a])).new (.lst [a]) = h6 at fx ⊢
    have n6 := fx.n
    have ta6 := ta4.fz fx s0
    have tb6 := tb4.fz fx s0
    have s6 := s4.fz fx
    refine ev_addKK (by show 6 + 6 ≤ SL; unfold SL; omega) ?_
    repeat (walk_at "m1")
    refine fields_w (r34.fz fx s0) ?_
    have hm : ∀ d ∈ vals a b', d = a ∨ d = b' := fun d hd => by
      simp only [vals, List.mem_cons, List.not_mem_nil, or_false] at hd
      rcases hd with rfl | rfl | rfl | rfl | rfl | rfl | rfl | rfl | rfl | rfl | rfl | rfl <;> first | exact .inl rfl | exact .inr rfl
    obtain ⟨ps, e1, e2, e3⟩ := show_w (n0 := n0) (h := h6) (ds := vals a b') (fun d hd => by
      rcases hm d hd with rfl | rfl
      · exact ⟨_, ta6⟩
      · exact ⟨_, tb6⟩) (by show 12 ≤ 100; decide)
    repeat (walk_at "m1")
    refine ev_reprR e1 e2 ?_
    generalize eX : (PyData.list ps).shown = X
    repeat (walk_at "m1")
    refine ev_reprR (show datR DEP h6 (.kl (vals a b')) = some (.list ps) from e1) e2 ?_
    rw [eX]
    repeat (walk_at "m1")
    refine sel_f (by rw [hd]; rfl) ?_
    repeat (walk_at "m1")
    refine lines_w (n0 := n0) (by omega) fun es3 h7 f7 r7 => ?_
    repeat (walk_at "m1")
    refine made_go (by rfl) es3 0 [] (by rw [r7.1]; decide) ?_
    repeat (walk_at "m1")
    have n7 := f7.n
    have ta7 := ta6.fz f7 s0
    have tb7 := tb6.fz f7 s0
    refine fields_w r7 ?_
    repeat (walk_at "m1")
    have e7 := e3 h7 fun d hd p w => w.fz f7 s0
    refine ev_reprR e7 e2 ?_
    rw [eX]
    repeat (walk_at "m1")
    refine ev_reprR (show datR DEP h7 (.kl (vals a b')) = some (.list ps) from e7) e2 ?_
    rw [eX]
    repeat (walk_at "m1")
    refine sel_f (by rw [hd]; rfl) ?_
    repeat (walk_at "m1")
    exact q _ _ ⟨_, _, _, _, _, _, _, _, _, _, rfl⟩ ((s6.fz f7).le (by omega)) (by omega)
end
theorem law_true (ns : List Int) (hl : ns.length ≤ 63) : ∃ h', f_law [.kl (ns.map .int)] Hm.start = .ok (.bl true) h' := by
  have w : Ev (fun _ _ _ => False) (f_law [.kl (ns.map .int)] Hm.start) fun v _ => v = .bl true := by
    generalize Hm.start = h0
    refine u_law ?_
    unfold b_law
    repeat (walk_at "m1")
    refine ev_addKK (by rw [List.length_map]; unfold SL; simp only [List.length_cons, List.length_nil]; omega) ?_
    repeat (walk_at "m1")
    have e0 : List.map D.int ns ++ [D.int 0] = dI (ns ++ [0]) := by
      unfold dI
      rw [List.map_append]
      rfl
    rw [e0, cut_dI]
    have st : St ((h0.new (.lst (dI (cutL (ns ++ [0]) none (some 63))))).new (.lst [.loc h0.n, .int 0, .int 0, .int 7, .int 0])) (h0.new (.lst (dI (cutL (ns ++ [0]) none (some 63))))).n h0.n 0 :=
      ⟨⟨0, 0, 7, cutL (ns ++ [0]) none (some 63), new_eq rfl, (new_ne (Nat.ne_of_lt (Nat.lt_succ_self _))).trans (new_eq rfl), by omega, by omega, by omega, by omega⟩, Nat.lt_succ_self _, Nat.lt_succ_of_lt (Nat.lt_succ_self _), Nat.ne_of_gt (Nat.lt_succ_self _)⟩
    revert st
    generalize (h0.new (.lst (dI (cutL (ns ++ [0]) none (some 63))))).new (.lst [.loc h0.n, .int 0, .int 0, .int 7, .int 0]) = h1
    generalize (h0.new (.lst (dI (cutL (ns ++ [0]) none (some 63))))).n = ls
    intro st
    refine ev_min2 ?_
    have km : ∃ m : Int, (if ((List.map D.int ns).length : Int) < 38 then ((List.map D.int ns).length : Int) else 38) = m ∧ 0 ≤ m ∧ m ≤ 38 := by
      refine ⟨_, rfl, ?_, ?_⟩ <;> split <;> omega
    obtain ⟨m, em, m0, m1⟩ := km
    rw [em]
    repeat (walk_at "m1")
    refine for_inv (fun i σ h' => YS ns ls σ ∧ St h' ls h0.n (8 * i) ∧ h1.n ≤ h'.n) _ 0 _ _ ⟨⟨_, _, _, _, _, _, _, _, _, _, rfl⟩, st.le (by omega), Nat.le_refl _⟩ (fun i σ h' _ _ _ => rfl) ?_ ?_
    · rintro i d σ h' ed ⟨hs, st', k⟩
      obtain ⟨rfl, hi⟩ := ints_at ed
      rw [Nat.zero_add] at *
      have hi : i < 60 := by omega
      refine ev_gN ?_
      obtain ⟨b2, b3, b4, b5, b6, b7, b8, b9, b10, b11, rfl⟩ := hs
      refine turn_w (n0 := h1.n) st' (by omega) st.n.1 st.n.2.1 k ⟨_, _, _, _, _, _, _, _, _, _, rfl⟩ fun σ' h2 hs2 s2 k2 => ?_
      exact ⟨hs2, s2.le (by omega), k2⟩
    · rintro σ h' ⟨⟨b2, b3, b4, b5, b6, b7, b8, b9, b10, b11, rfl⟩, _, _⟩
      repeat (walk_at "m1")
      rfl
  cases e : f_law [.kl (ns.map .int)] Hm.start with
  | ok v h =>
    rw [e] at w
    exact ⟨h, by rw [show v = .bl true from w]⟩
  | exc c fs h => rw [e] at w; exact w.elim
  | bad => rw [e] at w; exact w.elim
end Lw
end
section
theorem PySem.Challenge.cw_tagmill_k02_families_of_refusals_holds : PySem.Challenge.rw_tagmill_k02_families_of_refusals.Holds :=
  Lw.holds_of Lw.law_true
#print axioms PySem.Challenge.cw_tagmill_k02_families_of_refusals_holds
end
