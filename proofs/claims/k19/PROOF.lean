import PyProof.Rows.All
import Wide.All
import OpenK.AllK
import Wide.FinOn
import PyProof.ReprReads
import PyProof.P3Statements
import PyProof.EqLayable
import PyProof.ReprBulk
import PyProof.Rows.Walk
import HandS.ForMost
import HandS.Defaults
import HandS.MakeKwOnly
import HandS.IsInst
import HandS.Style
import HandS.Zip
import HandS.Exc
import HandS.WordsExc
import PyProof.ReprRoads
import HandS.Head0
import HandS.Head1
import HandS.Head2
import HandS.HeadEnd
import HandS.HeadHook1
import HandS.HeadHook2
import PySem.Challenge.RW_tagmill_k19_parts_of_parts
set_option Elab.async false
set_option linter.all false
set_option maxRecDepth 100000
section
/-! The small language M: values, objects, a heap, results; what each construct does. -/
namespace Mo
open PySem
def eqS (x y : Str) : Bool := x.cps.toList == y.cps.toList
theorem eqS_iff {x y : Str} : eqS x y = true ↔ x = y := by
  unfold eqS
  constructor
  · intro e
    have e := eq_of_beq e
    cases x with
    | mk a =>
      cases y with
      | mk b => exact congrArg Str.mk (Array.ext' e)
  · intro e
    rw [e]
    exact beq_self_eq_true _
def strDec : (x y : Str) → Decidable (x = y) := fun x y => match h : eqS x y with
  | true => .isTrue (eqS_iff.mp h)
  | false => .isFalse fun e => by rw [eqS_iff.mpr e] at h; cases h
abbrev Key := Sum Int Str
def keyDec : (a b : Key) → Decidable (a = b) := fun a b => match a, b with
  | .inl i, .inl j => if h : i = j then .isTrue (by rw [h]) else .isFalse fun e => h (Sum.inl.inj e)
  | .inr x, .inr y => match strDec x y with
    | .isTrue h => .isTrue (by rw [h])
    | .isFalse h => .isFalse fun e => h (Sum.inr.inj e)
  | .inl _, .inr _ => .isFalse fun e => nomatch e
  | .inr _, .inl _ => .isFalse fun e => nomatch e
inductive D where
  | non | bl (b : Bool) | int (i : Int) | str (x : Str) | tup (ds : List D) | kl (ds : List D) | loc (l : Nat) | ty (n : String) | ob (k : Nat)
mutual
def D.dec : (a b : D) → Decidable (a = b)
  | .non, b => match b with
    | .non => .isTrue rfl
    | .bl _ | .int _ | .str _ | .tup _ | .kl _ | .loc _ | .ty _ | .ob _ => .isFalse (fun e => nomatch e)
  | .bl x, b => match b with
    | .bl y => if e : x = y then .isTrue (by rw [e]) else .isFalse (fun q => e (D.bl.inj q))
    | .non | .int _ | .str _ | .tup _ | .kl _ | .loc _ | .ty _ | .ob _ => .isFalse (fun e => nomatch e)
  | .int x, b => match b with
    | .int y => if e : x = y then .isTrue (by rw [e]) else .isFalse (fun q => e (D.int.inj q))
    | .non | .bl _ | .str _ | .tup _ | .kl _ | .loc _ | .ty _ | .ob _ => .isFalse (fun e => nomatch e)
  | .str x, b => match b with
    | .str y => if e : x = y then .isTrue (by rw [e]) else .isFalse (fun q => e (D.str.inj q))
    | .non | .bl _ | .int _ | .tup _ | .kl _ | .loc _ | .ty _ | .ob _ => .isFalse (fun e => nomatch e)
  | .tup x, b => match b with
    | .tup y => match D.decL x y with
      | .isTrue e => .isTrue (by rw [e])
      | .isFalse e => .isFalse (fun q => e (D.tup.inj q))
    | .non | .bl _ | .int _ | .str _ | .kl _ | .loc _ | .ty _ | .ob _ => .isFalse (fun e => nomatch e)
  | .kl x, b => match b with
    | .kl y => match D.decL x y with
      | .isTrue e => .isTrue (by rw [e])
      | .isFalse e => .isFalse (fun q => e (D.kl.inj q))
    | .non | .bl _ | .int _ | .str _ | .tup _ | .loc _ | .ty _ | .ob _ => .isFalse (fun e => nomatch e)
  | .loc x, b => match b with
    | .loc y => if e : x = y then .isTrue (by rw [e]) else .isFalse (fun q => e (D.loc.inj q))
    | .non | .bl _ | .int _ | .str _ | .tup _ | .kl _ | .ty _ | .ob _ => .isFalse (fun e => nomatch e)
  | .ty x, b => match b with
    | .ty y => if e : x = y then .isTrue (by rw [e]) else .isFalse (fun q => e (D.ty.inj q))
    | .non | .bl _ | .int _ | .str _ | .tup _ | .kl _ | .loc _ | .ob _ => .isFalse (fun e => nomatch e)
  | .ob x, b => match b with
    | .ob y => if e : x = y then .isTrue (by rw [e]) else .isFalse (fun q => e (D.ob.inj q))
    | .non | .bl _ | .int _ | .str _ | .tup _ | .kl _ | .loc _ | .ty _ => .isFalse (fun e => nomatch e)
def D.decL : (a b : List D) → Decidable (a = b)
  | [], [] => .isTrue rfl
  | [], _ :: _ => .isFalse (fun e => nomatch e)
  | _ :: _, [] => .isFalse (fun e => nomatch e)
  | x :: xs, y :: ys => match D.dec x y with
    | .isFalse e => .isFalse (fun q => e (List.cons.inj q).1)
    | .isTrue e => match D.decL xs ys with
      | .isTrue e2 => .isTrue (by rw [e, e2])
      | .isFalse e2 => .isFalse (fun q => e2 (List.cons.inj q).2)
end
instance : DecidableEq D := D.dec
inductive O where
  | lst (xs : List D) | dic (kvs : List (Key × D)) | ins (c : Nat) (fs : List (Str × D))
  deriving DecidableEq
structure Hm where
  n : Nat
  g : Nat → Option O
/-- nothing yet -/
def Hm.start : Hm := ⟨0, fun _ => none⟩
def Hm.put (h : Hm) (l : Nat) (o : O) : Hm := ⟨h.n, fun k => if k = l then some o else h.g k⟩
def Hm.new (h : Hm) (o : O) : Hm := ⟨h.n + 1, fun k => if k = h.n then some o else h.g k⟩
inductive R (α : Type) where
  | ok (a : α) (h : Hm) | exc (c : Nat) (fs : List (Str × D)) (h : Hm) | bad
def R.bind {α β : Type} (r : R α) (f : α → Hm → R β) : R β := match r with
  | .ok a h => f a h
  | .exc c fs h => .exc c fs h
  | .bad => .bad
inductive RS where
  | nx (σ : List (Option D)) (h : Hm) | rt (d : D) (h : Hm) | bk (σ : List (Option D)) (h : Hm) | ct (σ : List (Option D)) (h : Hm)
  | exc (c : Nat) (fs : List (Str × D)) (h : Hm) | bad
def R.stm {α : Type} (r : R α) (f : α → Hm → RS) : RS := match r with
  | .ok a h => f a h
  | .exc c fs h => .exc c fs h
  | .bad => .bad
abbrev Env := List (Option D)
abbrev ME := Env → Hm → R D
abbrev MA := Env → Hm → R (List D)
abbrev MT := Env → Hm → R Bool
abbrev MS := Env → Hm → RS
abbrev Fn := List D → Hm → R D
structure It where
  xs : List D
  ok : Hm → Bool
abbrev MI := Env → Hm → R It
abbrev MG := D → Env → Hm → R Env
/-- the bound on lengths -/
def SL : Nat := 100000

/-! ### expressions -/
def eV (i : Nat) : ME := fun σ h => match σ[i]? with
  | some (some d) => .ok d h
  | _ => .bad
def eC (d : D) : ME := fun _ h => .ok d h
def eOp (f : D → D → Hm → R D) (a b : ME) : ME := fun σ h => (a σ h).bind fun x h1 => (b σ h1).bind fun y h2 => f x y h2
def eUn (f : D → Hm → R D) (a : ME) : ME := fun σ h => (a σ h).bind fun x h1 => f x h1
def aNil : MA := fun _ h => .ok [] h
def aCons (a : ME) (r : MA) : MA := fun σ h => (a σ h).bind fun x h1 => (r σ h1).bind fun xs h2 => .ok (x :: xs) h2
def ifR {α : Type} (c : Bool) (r : R α) : R α := match c with
  | true => r
  | false => .bad
def eTup (as : MA) : ME := fun σ h => (as σ h).bind fun ds h1 => ifR (decide (ds.length ≤ SL)) (.ok (.tup ds) h1)
def eLst (as : MA) : ME := fun σ h => (as σ h).bind fun ds h1 => ifR (decide (ds.length ≤ SL)) (.ok (.loc h1.n) (h1.new (.lst ds)))
def eIf (t : MT) (a b : ME) : ME := fun σ h => (t σ h).bind fun c h1 => match c with
  | true => a σ h1
  | false => b σ h1
def eAnd (a b : ME) : ME := fun σ h => (a σ h).bind fun x h1 => match x with
  | .bl true => b σ h1
  | .bl false => .ok (.bl false) h1
  | _ => .bad
def eOr (a b : ME) : ME := fun σ h => (a σ h).bind fun x h1 => match x with
  | .bl true => .ok (.bl true) h1
  | .bl false => b σ h1
  | _ => .bad
def eNot (a : ME) : ME := fun σ h => (a σ h).bind fun x h1 => match x with
  | .bl b => .ok (.bl (!b)) h1
  | _ => .bad
/-! ### tests -/
def tB (a : ME) : MT := fun σ h => (a σ h).bind fun x h1 => match x with
  | .bl b => .ok b h1
  | _ => .bad
def tAnd (a b : MT) : MT := fun σ h => (a σ h).bind fun c h1 => match c with
  | true => b σ h1
  | false => .ok false h1
def tOr (a b : MT) : MT := fun σ h => (a σ h).bind fun c h1 => match c with
  | true => .ok true h1
  | false => b σ h1
def tNot (a : MT) : MT := fun σ h => (a σ h).bind fun c h1 => .ok (!c) h1
def tYes : MT := fun _ h => .ok true h
/-! ### what stands in a value -/
def datL (f : D → Option PyData) : List D → Option (List PyData)
  | [] => some []
  | d :: ds => match f d, datL f ds with
    | some p, some ps => some (p :: ps)
    | _, _ => none
/-- the things of a list -/
def Hm.seq (h : Hm) : D → Option (List D)
  | .kl xs => some xs
  | .loc l => match h.g l with
    | some (.lst xs) => some xs
    | _ => none
  | _ => none
def dat : Nat → Hm → D → Option PyData
  | 0, _, _ => none
  | n + 1, h, d => match d with
    | .non => some .none
    | .bl b => some (.bool b)
    | .int i => some (.int i)
    | .str x => match PyData.strOk x with
      | true => some (.str x)
      | false => none
    | .tup ds => (datL (dat n h) ds).map .tuple
    | .kl xs => (datL (dat n h) xs).map .list
    | .loc l => match h.g l with
      | some (.lst xs) => (datL (dat n h) xs).map .list
      | _ => none
    | _ => none
def DEP : Nat := 12
/-! ### operators -/
def opAdd : D → D → Hm → R D
  | .int i, .int j, h => .ok (.int (i + j)) h
  | .str x, .str y, h => ifR (decide (x.length + y.length ≤ SL)) (.ok (.str (x ++ y)) h)
  | .loc a, .loc b, h => match h.g a, h.g b with
    | some (.lst xs), some (.lst ys) => ifR (decide (xs.length + ys.length ≤ SL)) (.ok (.loc h.n) (h.new (.lst (xs ++ ys))))
    | _, _ => .bad
  | _, _, _ => .bad
def opSub : D → D → Hm → R D
  | .int i, .int j, h => .ok (.int (i - j)) h
  | _, _, _ => .bad
def mulOk (i j : Int) : Bool := decide ((-(2 ^ 64) < i ∧ i < 2 ^ 64) ∨ (-(2 ^ 64) < j ∧ j < 2 ^ 64))
def opMul : D → D → Hm → R D
  | .int i, .int j, h => ifR (mulOk i j) (.ok (.int (i * j)) h)
  | .loc a, .int k, h => match h.g a with
    | some (.lst xs) => ifR (decide (-(2 ^ 63) ≤ k ∧ k < 2 ^ 63 ∧ xs.length * k.toNat ≤ SL)) (.ok (.loc h.n) (h.new (.lst (List.replicate k.toNat xs).flatten)))
    | _ => .bad
  | _, _, _ => .bad
def opMod : D → D → Hm → R D
  | .int i, .int j, h => ifR (decide (0 < j)) (.ok (.int (i % j)) h)
  | _, _, _ => .bad
def opFDiv : D → D → Hm → R D
  | .int i, .int j, h => ifR (decide (0 < j ∧ j < 1073741824)) (.ok (.int (i / j)) h)
  | _, _, _ => .bad
def opPow : D → D → Hm → R D
  | .int i, .int j, h => ifR (decide (0 ≤ j ∧ j ≤ 1000000 ∧ i.natAbs < 2 ^ 64)) (.ok (.int (i ^ j.toNat)) h)
  | _, _, _ => .bad
def opNeg : D → Hm → R D
  | .int i, h => .ok (.int (-i)) h
  | _, _ => .bad
/-! ### comparisons -/
def opCmp (p : Int → Int → Bool) : D → D → Hm → R D
  | .int i, .int j, h => .ok (.bl (p i j)) h
  | _, _, _ => .bad
abbrev opLt := opCmp fun i j => decide (i < j)
abbrev opLe := opCmp fun i j => decide (i ≤ j)
abbrev opGt := opCmp fun i j => decide (j < i)
abbrev opGe := opCmp fun i j => decide (j ≤ i)
def opEq (x y : D) (h : Hm) : R D := match x, y with
  | .int i, .int j => .ok (.bl (decide (i = j))) h
  | .str i, .str j => .ok (.bl (@decide (i = j) (strDec i j))) h
  | x, y => match dat DEP h x, dat DEP h y with
    | some p, some q => .ok (.bl (PyData.eqv p q)) h
    | _, _ => .bad
def opNe (x y : D) (h : Hm) : R D := match x, y with
  | .int i, .int j => .ok (.bl (!decide (i = j))) h
  | .str i, .str j => .ok (.bl (!@decide (i = j) (strDec i j))) h
  | x, y => match dat DEP h x, dat DEP h y with
    | some p, some q => .ok (.bl (!PyData.eqv p q)) h
    | _, _ => .bad
def opIsN (x : D) (h : Hm) : R D := .ok (.bl (decide (x = .non))) h
def opNotN (x : D) (h : Hm) : R D := .ok (.bl (!decide (x = .non))) h
/-- a op b op' c, b asked once -/
def eChain (f g : D → D → Hm → R D) (a b c : ME) : ME := fun σ h => (a σ h).bind fun x h1 => (b σ h1).bind fun y h2 => (f x y h2).bind fun z h3 => match z with
  | .bl true => (c σ h3).bind fun w h4 => g y w h4
  | .bl false => .ok (.bl false) h3
  | _ => .bad
/-! ### dicts, places -/
def kOf : D → Option Key
  | .int i => some (.inl i)
  | .str x => some (.inr x)
  | _ => none
def lookA (k : Key) : List (Key × D) → Option D
  | [] => none
  | (a, v) :: r => @ite _ (a = k) (keyDec a k) (some v) (lookA k r)
def putK (kvs : List (Key × D)) (k : Key) (v : D) : List (Key × D) := match kvs.any fun kv => @decide (kv.1 = k) (keyDec kv.1 k) with
  | true => kvs.map fun kv => @ite _ (kv.1 = k) (keyDec kv.1 k) (kv.1, v) kv
  | false => kvs ++ [(k, v)]
def ixI (n : Nat) (i : Int) : Option Nat := if 0 ≤ i then (if i < n then some i.toNat else none) else if -(n : Int) ≤ i then some (i + n).toNat else none
def nth {α : Type} (xs : List α) (i : Int) : Option α := (ixI xs.length i).bind fun j => xs[j]?
def optR {α : Type} (o : Option α) (h : Hm) : R α := match o with
  | some a => .ok a h
  | none => .bad
/-- x[i] of a list or a tuple -/
def opIx : D → D → Hm → R D
  | .tup ds, .int i, h => optR (nth ds i) h
  | x, .int i, h => match h.seq x with
    | some xs => optR (nth xs i) h
    | none => .bad
  | _, _, _ => .bad
/-- d[k] of a dict -/
def opDGet : D → D → Hm → R D
  | .loc l, y, h => match h.g l, kOf y with
    | some (.dic kvs), some k => optR (lookA k kvs) h
    | _, _ => .bad
  | _, _, _ => .bad
def sIx (n d : Nat) : Option Int → Nat
  | none => d
  | some v => if v < 0 then (v + (n : Int)).toNat else min v.toNat n
def cutL {α : Type} (xs : List α) (lo hi : Option Int) : List α := (xs.drop (sIx xs.length 0 lo)).take (sIx xs.length xs.length hi - sIx xs.length 0 lo)
abbrev MO := Env → Hm → R (Option Int)
def oNone : MO := fun _ h => .ok none h
def oSome (a : ME) : MO := fun σ h => (a σ h).bind fun x h1 => match x with
  | .int i => .ok (some i) h1
  | _ => .bad
/-- a slice of a list -/
def eSl (a : ME) (lo hi : MO) : ME := fun σ h => (a σ h).bind fun x h1 => (lo σ h1).bind fun l h2 => (hi σ h2).bind fun u h3 => match h3.seq x with
  | some xs => .ok (.loc h3.n) (h3.new (.lst (cutL xs l u)))
  | none => .bad
/-! ### calls -/
/-- n things by place, m by name; p puts them into the order of the parameters -/
def callP (n m : Nat) (p : List D → List D → List D) (f : Fn) : List D → List D → Hm → R D := fun ds es h => ifR (decide (ds.length = n) && decide (es.length = m)) (f (p ds es) h)
/-- f(.., k = ..) -/
def eCall (f : List D → List D → Hm → R D) (as ks : MA) : ME := fun σ h => (as σ h).bind fun ds h1 => (ks σ h1).bind fun es h2 => f ds es h2
def lookF (f : Str) : List (Str × D) → Option D
  | [] => none
  | (a, v) :: r => @ite _ (f = a) (strDec f a) (some v) (lookF f r)
def putF (f : Str) (v : D) : List (Str × D) → List (Str × D)
  | [] => [(f, v)]
  | (g, w) :: r => @ite _ (g = f) (strDec g f) ((g, v) :: r) ((g, w) :: putF f v r)
/-- o.f, o an instance of one of the classes cs -/
def eFld (a : ME) (cs : List Nat) (f : Str) : ME := fun σ h => (a σ h).bind fun x h1 => match x with
  | .loc l => match h1.g l with
    | some (.ins c fs) => ifR (cs.contains c) (optR (lookF f fs) h1)
    | _ => .bad
  | _ => .bad
/-- which function stands for a class -/
def pickF {α : Type} (c : Nat) : List (Nat × α) → Option α
  | [] => none
  | (d, f) :: r => if d = c then some f else pickF c r
/-- what o.m is, o an instance of a class of ms without an attribute of that name -/
def selM (m : Str) (ms : List (Nat × (List D → List D → Hm → R D))) (h : Hm) : D → Option (List D → List D → Hm → R D)
  | .loc l => match h.g l with
    | some (.ins c fs) => match pickF c ms, lookF m fs with
      | some f, none => some f
      | _, _ => none
    | _ => none
  | _ => none
def eMeth (a : ME) (m : Str) (ms : List (Nat × (List D → List D → Hm → R D))) (as ks : MA) : ME := fun σ h => (a σ h).bind fun x h1 => match selM m ms h1 x with
  | some f => (as σ h1).bind fun ds h2 => (ks σ h2).bind fun es h3 => f (x :: ds) es h3
  | none => .bad
/-- C(..), f its __init__ -/
def mkNew (c : Nat) (f : List D → List D → Hm → R D) (ds es : List D) (h : Hm) : R D := (f (.loc h.n :: ds) es (h.new (.ins c []))).bind fun v h1 => match v with
  | .non => .ok (.loc h.n) h1
  | _ => .bad
abbrev Bi := List D → Hm → R D
def eBi (b : Bi) (as : MA) : ME := fun σ h => (as σ h).bind fun ds h1 => b ds h1
def bLen : Bi
  | [.tup ds], h => .ok (.int ds.length) h
  | [.str x], h => ifR (decide (x.length ≤ SL)) (.ok (.int x.length) h)
  | [.kl xs], h => .ok (.int xs.length) h
  | [.loc l], h => match h.g l with
    | some (.lst xs) => .ok (.int xs.length) h
    | some (.dic kvs) => .ok (.int kvs.length) h
    | _ => .bad
  | _, _ => .bad
def bList : Bi
  | [.tup ds], h => .ok (.loc h.n) (h.new (.lst ds))
  | [x], h => match h.seq x with
    | some xs => .ok (.loc h.n) (h.new (.lst xs))
    | none => .bad
  | _, _ => .bad
def bTuple : Bi
  | [.tup ds], h => .ok (.tup ds) h
  | [x], h => match h.seq x with
    | some xs => .ok (.tup xs) h
    | none => .bad
  | _, _ => .bad
mutual
/-- no int is too great to be shown here -/
def tame : PyData → Bool
  | .none | .bool _ => true
  | .int i => decide (i.natAbs < 2 ^ 140)
  | .str x => PyData.strOk x
  | .list xs | .tuple xs => tameL xs
  | .dict _ => false
def tameL : List PyData → Bool
  | [] => true
  | x :: xs => tame x && tameL xs
end
def fits (p : PyData) : Bool := tame p && decide (p.bulk ≤ 90000)
def bRepr : Bi
  | [x], h => match dat DEP h x with
    | some p => ifR (fits p) (.ok (.str p.shown) h)
    | none => .bad
  | _, _ => .bad
/-- the kind of a value, of Python's own -/
def tyD (h : Hm) : D → Option String
  | .non => some "NoneType"
  | .bl _ => some "bool"
  | .int _ => some "int"
  | .str _ => some "str"
  | .tup _ => some "tuple"
  | .kl _ => some "list"
  | .loc l => match h.g l with
    | some (.lst _) => some "list"
    | some (.dic _) => some "dict"
    | _ => none
  | _ => none
/-- isinstance(x, T), T a built-in type -/
def bIsi (T : String) : Bi
  | [x, .ty U], h => match tyD h x, decide (U = T) with
    | some t, true => .ok (.bl (t == T || (t == "bool" && T == "int"))) h
    | _, _ => .bad
  | _, _ => .bad
/-! ### methods of lists -/
abbrev Mb := D → List D → Hm → R D
def eBM (T : String) (b : Mb) (o : ME) (as : MA) : ME := fun σ h => (o σ h).bind fun x h1 => ifR (decide (tyD h1 x = some T)) ((as σ h1).bind fun ds h2 => b x ds h2)
def mAppend : Mb
  | .loc l, [y], h => match h.g l with
    | some (.lst xs) => ifR (decide (xs.length < SL)) (.ok .non (h.put l (.lst (xs ++ [y]))))
    | _ => .bad
  | _, _, _ => .bad
/-! ### dict displays -/
def pairsM : List (ME × ME) → Env → Hm → R (List (D × D))
  | [], _, h => .ok [] h
  | (k, v) :: r, σ, h => (k σ h).bind fun x h1 => (v σ h1).bind fun y h2 => (pairsM r σ h2).bind fun ps h3 => .ok ((x, y) :: ps) h3
def keyed : List (D × D) → Option (List (Key × D))
  | [] => some []
  | (x, y) :: r => match kOf x, keyed r with
    | some k, some ps => some ((k, y) :: ps)
    | _, _ => none
def eDict (ps : List (ME × ME)) : ME := fun σ h => (pairsM ps σ h).bind fun qs h1 => match keyed qs with
  | some kvs => ifR (decide (kvs.length ≤ 15)) (.ok (.loc h1.n) (h1.new (.dic (kvs.foldl (fun acc kv => putK acc kv.1 kv.2) []))))
  | none => .bad
/-! ### what is walked -/
def iSeq (a : ME) : MI := fun σ h => (a σ h).bind fun x h1 => match x with
  | .tup ds => .ok ⟨ds, fun _ => true⟩ h1
  | x => match h1.seq x with
    | some xs => .ok ⟨xs, fun h' => decide (h'.seq x = some xs)⟩ h1
    | none => .bad
def intsFrom (lo : Int) (n : Nat) : List D := (List.range n).map fun (i : Nat) => .int (lo + i)
def rngOf : List D → Hm → R It
  | [.int j], h => ifR (decide (-(2 ^ 62) ≤ j ∧ j < 2 ^ 62)) (.ok ⟨intsFrom 0 j.toNat, fun _ => true⟩ h)
  | [.int i, .int j], h => ifR (decide (-(2 ^ 62) ≤ i ∧ i < 2 ^ 62 ∧ -(2 ^ 62) ≤ j ∧ j < 2 ^ 62)) (.ok ⟨intsFrom i (j - i).toNat, fun _ => true⟩ h)
  | _, _ => .bad
def iRng (as : MA) : MI := fun σ h => (as σ h).bind rngOf
def numbered (i : Nat) : List D → List D
  | [] => []
  | x :: xs => .tup [.int i, x] :: numbered (i + 1) xs
def iEnum (a : ME) : MI := fun σ h => (a σ h).bind fun x h1 => match h1.seq x with
  | some xs => .ok ⟨numbered 0 xs, fun h' => decide (h'.seq x = some xs)⟩ h1
  | none => .bad
/-! ### targets -/
def gN (i : Nat) : MG := fun d σ h => .ok (σ.set i (some d)) h
def gsAll : List MG → List D → Env → Hm → R Env
  | [], [], σ, h => .ok σ h
  | g :: gs, d :: ds, σ, h => (g d σ h).bind fun σ1 h1 => gsAll gs ds σ1 h1
  | _, _, _, _ => .bad
def gT (n : Nat) (gs : List MG) : MG := fun d σ h => match d with
  | .tup ds => ifR (decide (ds.length = n)) (gsAll gs ds σ h)
  | _ => .bad
/-- o[i] = .. of a list -/
def gIx (o i : ME) : MG := fun d σ h => (o σ h).bind fun x h1 => (i σ h1).bind fun y h2 => match x, y with
  | .loc l, .int k => match h2.g l with
    | some (.lst xs) => match ixI xs.length k with
      | some j => .ok σ (h2.put l (.lst (xs.set j d)))
      | none => .bad
    | _ => .bad
  | _, _ => .bad
/-- o.f = .. -/
def fldK (cs : List Nat) (f : Str) (d : D) (σ : Env) (x : D) (h1 : Hm) : R Env := match x with
  | .loc l => match h1.g l with
    | some (.ins c fs) => ifR (cs.contains c && decide (fs.length < 1000)) (.ok σ (h1.put l (.ins c (putF f d fs))))
    | _ => .bad
  | _ => .bad
def gFld (a : ME) (cs : List Nat) (f : Str) : MG := fun d σ h => (a σ h).bind (fldK cs f d σ)
/-! ### statements -/
def sNext : MS := fun σ h => .nx σ h
def sSeq (a b : MS) : MS := fun σ h => match a σ h with
  | .nx σ1 h1 => b σ1 h1
  | r => r
def sExpr (e : ME) : MS := fun σ h => (e σ h).stm fun _ h1 => .nx σ h1
def sAsg (e : ME) (g : MG) : MS := fun σ h => (e σ h).stm fun x h1 => (g x σ h1).stm fun σ1 h2 => .nx σ1 h2
/-- i, j = .. (two names): stored from the right -/
def sPar (is : List Nat) (as : MA) : MS := fun σ h => (as σ h).stm fun ds h1 => match is, ds with
  | [i, j], [x, y] => .nx ((σ.set i (some x)).set j (some y)) h1
  | [i, j, k], [x, y, z] => .nx (((σ.set i (some x)).set j (some y)).set k (some z)) h1
  | _, _ => .bad
def sAug (i : Nat) (f : D → D → Hm → R D) (e : ME) : MS := fun σ h => match σ[i]? with
  | some (some x) => (e σ h).stm fun y h1 => (f x y h1).stm fun z h2 => .nx (σ.set i (some z)) h2
  | _ => .bad
def sFld (a : ME) (cs : List Nat) (f : Str) (e : ME) : MS := fun σ h => (e σ h).stm fun y h1 => (a σ h1).stm fun x h2 => match x with
  | .loc l => match h2.g l with
    | some (.ins c fs) => match cs.contains c && decide (fs.length < 1000) with
      | true => .nx σ (h2.put l (.ins c (putF f y fs)))
      | false => .bad
    | _ => .bad
  | _ => .bad
/-- a.f op= e -/
def sAugF (a : ME) (cs : List Nat) (f : Str) (op : D → D → Hm → R D) (e : ME) : MS := fun σ h => (a σ h).stm fun x h1 => match x with
  | .loc l => match h1.g l with
    | some (.ins c fs) => match cs.contains c, lookF f fs with
      | true, some v => (e σ h1).stm fun y h2 => (op v y h2).stm fun z h3 => match h3.g l with
        | some (.ins c' fs') => match c' == c && decide (fs'.length < 1000) with
          | true => .nx σ (h3.put l (.ins c (putF f z fs')))
          | false => .bad
        | _ => .bad
      | _, _ => .bad
    | _ => .bad
  | _ => .bad
/-- d[k] = e of a dict -/
def sDPut (d k e : ME) : MS := fun σ h => (e σ h).stm fun v h1 => (d σ h1).stm fun x h2 => (k σ h2).stm fun y h3 => match x with
  | .loc l => match h3.g l, kOf y with
    | some (.dic kvs), some q => match decide (kvs.length < SL) with
      | true => .nx σ (h3.put l (.dic (putK kvs q v)))
      | false => .bad
    | _, _ => .bad
  | _ => .bad
def sRet (e : ME) : MS := fun σ h => (e σ h).stm fun x h1 => .rt x h1
def sRetN : MS := fun _ h => .rt .non h
def sIf (t : MT) (a b : MS) : MS := fun σ h => (t σ h).stm fun c h1 => match c with
  | true => a σ h1
  | false => b σ h1
def sBad : MS := fun _ _ => .bad
def sBreak : MS := fun σ h => .bk σ h
def sCont : MS := fun σ h => .ct σ h
def forGo (g : MG) (body : MS) (ok : Hm → Bool) : List D → MS
  | [] => fun σ h => match ok h with
    | true => .nx σ h
    | false => .bad
  | d :: ds => fun σ h => match ok h with
    | false => .bad
    | true => (g d σ h).stm fun σ1 h1 => match body σ1 h1 with
      | .nx σ2 h2 => forGo g body ok ds σ2 h2
      | .ct σ2 h2 => forGo g body ok ds σ2 h2
      | .bk σ2 h2 => .nx σ2 h2
      | .rt d h2 => .rt d h2
      | .exc c fs h2 => .exc c fs h2
      | .bad => .bad
def sFor (it : MI) (g : MG) (body : MS) : MS := fun σ h => (it σ h).stm fun J h1 => forGo g body J.ok J.xs σ h1
def whileGo (t : MT) (body : MS) : Nat → MS
  | 0 => fun _ _ => .bad
  | n + 1 => fun σ h => (t σ h).stm fun c h1 => match c with
    | false => .nx σ h1
    | true => match body σ h1 with
      | .nx σ2 h2 => whileGo t body n σ2 h2
      | .ct σ2 h2 => whileGo t body n σ2 h2
      | .bk σ2 h2 => .nx σ2 h2
      | .rt d h2 => .rt d h2
      | .exc c fs h2 => .exc c fs h2
      | .bad => .bad
def sWhile (n : Nat) (t : MT) (body : MS) : MS := whileGo t body n
/-! ### comprehensions -/
def wipe (σ : Env) : List Nat → Env
  | [] => σ
  | v :: vs => (wipe σ vs).set v none
/-- one name, or several of a tuple -/
def setsN : List Nat → List D → Env → Option Env
  | [], [], σ => some σ
  | i :: is, d :: ds, σ => setsN is ds (σ.set i (some d))
  | _, _, _ => none
def bindC (one : Bool) (is : List Nat) (d : D) (σ : Env) : Option Env := match one, d with
  | true, d => setsN is [d] σ
  | false, .tup ds => setsN is ds σ
  | false, _ => none
/-- nothing may be raised there -/
def R.quiet {α : Type} (r : R α) : R α := match r with
  | .ok a h => .ok a h
  | _ => .bad
def compGo (bd : D → Env → Option Env) (t : MT) (e : ME) (ok : Hm → Bool) (σ : Env) : List D → List D → Hm → R (List D)
  | [], acc, h => ifR (ok h) (.ok acc h)
  | d :: ds, acc, h => match ok h, bd d σ with
    | true, some σ1 => (t σ1 h).quiet.bind fun c h1 => match c with
      | false => compGo bd t e ok σ ds acc h1
      | true => (e σ1 h1).quiet.bind fun y h2 => ifR (decide (acc.length < SL)) (compGo bd t e ok σ ds (acc ++ [y]) h2)
    | _, _ => .bad
def eComp (it : MI) (own : List Nat) (one : Bool) (is : List Nat) (t : MT) (e : ME) : ME := fun σ h => (it σ h).bind fun J h1 =>
  (compGo (bindC one is) t e J.ok (wipe σ own) J.xs [] h1).bind fun acc h2 => .ok (.loc h2.n) (h2.new (.lst acc))
/-! ### a def -/
def fnOf (N : Nat) (body : MS) : Fn := fun ds h => match body (ds.map some ++ List.replicate (N - ds.length) none) h with
  | .nx _ h1 => .ok .non h1
  | .rt d h1 => .ok d h1
  | .exc c fs h1 => .exc c fs h1
  | _ => .bad
end Mo
end
section
/-! Reasoning about M: what a result must be (Ev), what a statement must come to (EvS). -/
namespace Mo
open PySem
abbrev XE := Nat → List (Str × D) → Hm → Prop
def Ev {α : Type} (E : XE) (r : R α) (Q : α → Hm → Prop) : Prop := match r with
  | .ok a h => Q a h
  | .exc c fs h => E c fs h
  | .bad => False
structure Po where
  nx : Env → Hm → Prop
  rt : D → Hm → Prop
  bk : Env → Hm → Prop
  ct : Env → Hm → Prop
/-- the same, but for what comes next -/
abbrev Po.nxt (P : Po) (K : Env → Hm → Prop) : Po := ⟨K, P.rt, P.bk, P.ct⟩
def EvS (E : XE) (r : RS) (P : Po) : Prop := match r with
  | .nx σ h => P.nx σ h
  | .rt d h => P.rt d h
  | .bk σ h => P.bk σ h
  | .ct σ h => P.ct σ h
  | .exc c fs h => E c fs h
  | .bad => False
theorem eqv_int {i j : Int} : PyData.eqv (.int i) (.int j) = decide (i = j) := by
  rw [Bool.eq_iff_iff]
  simp [PyData.eqv]
theorem eqv_str {i j : Str} : PyData.eqv (.str i) (.str j) = @decide (i = j) (strDec i j) := by
  rw [Bool.eq_iff_iff]
  simp [PyData.eqv]
/-! ### named shapes of what is asked -/
def NB (x : D) (K : Bool → Prop) : Prop := ∃ v, x = .bl v ∧ K v
theorem nb {v : Bool} {K : Bool → Prop} (q : K v) : NB (.bl v) K := ⟨v, rfl, q⟩
def NI (x : D) (K : Int → Prop) : Prop := ∃ v, x = .int v ∧ K v
theorem ni {v : Int} {K : Int → Prop} (q : K v) : NI (.int v) K := ⟨v, rfl, q⟩
def NN (x : D) (K : Prop) : Prop := x = .non ∧ K
theorem nn {K : Prop} (q : K) : NN .non K := ⟨rfl, q⟩
def TL (ds : List D) (K : Prop) : Prop := Nat.ble ds.length SL = true ∧ K
theorem tl {ds : List D} {K : Prop} (e : Nat.ble ds.length SL = true) (q : K) : TL ds K := ⟨e, q⟩
def P2 (ds : List D) (K : D → D → Prop) : Prop := ∃ x y, ds = [x, y] ∧ K x y
theorem p2 {x y : D} {K : D → D → Prop} (q : K x y) : P2 [x, y] K := ⟨x, y, rfl, q⟩
def P3_ (ds : List D) (K : D → D → D → Prop) : Prop := ∃ x y z, ds = [x, y, z] ∧ K x y z
theorem p3 {x y z : D} {K : D → D → D → Prop} (q : K x y z) : P3_ [x, y, z] K := ⟨x, y, z, rfl, q⟩
def SQ (h : Hm) (x : D) (K : List D → Prop) : Prop := ∃ xs, h.seq x = some xs ∧ K xs
theorem seq_loc {h : Hm} {l : Nat} {xs : List D} (e : h.g l = some (.lst xs)) : h.seq (.loc l) = some xs := by
  unfold Hm.seq
  simp only [e]
theorem sqL {h : Hm} {l : Nat} {xs : List D} {K : List D → Prop} (e : h.g l = some (.lst xs)) (q : K xs) : SQ h (.loc l) K := ⟨xs, seq_loc e, q⟩
theorem sqK {h : Hm} {xs : List D} {K : List D → Prop} (q : K xs) : SQ h (.kl xs) K := ⟨xs, rfl, q⟩
def IT (h : Hm) (x : D) (K : It → Prop) : Prop := (∃ xs, x = .tup xs ∧ K ⟨xs, fun _ => true⟩) ∨ ∃ xs, h.seq x = some xs ∧ (∀ ds, x ≠ .tup ds) ∧ K ⟨xs, fun h' => decide (h'.seq x = some xs)⟩
theorem itT {h : Hm} {xs : List D} {K : It → Prop} (q : K ⟨xs, fun _ => true⟩) : IT h (.tup xs) K := .inl ⟨xs, rfl, q⟩
theorem itL {h : Hm} {l : Nat} {xs : List D} {K : It → Prop} (e : h.g l = some (.lst xs)) (q : K ⟨xs, fun h' => decide (h'.seq (.loc l) = some xs)⟩) : IT h (.loc l) K := .inr ⟨xs, seq_loc e, (fun _ z => nomatch z), q⟩
theorem itK {h : Hm} {xs : List D} {K : It → Prop} (q : K ⟨xs, fun _ => true⟩) : IT h (.kl xs) K := .inr ⟨xs, rfl, (fun _ z => nomatch z), by
  have e : (fun h' : Hm => decide (h'.seq (.kl xs) = some xs)) = fun _ => true := funext fun h' => decide_eq_true rfl
  rw [e]
  exact q⟩
def FL (h : Hm) (cs : List Nat) (f : Str) (x : D) (K : D → Prop) : Prop := ∃ l c fs v, x = .loc l ∧ h.g l = some (.ins c fs) ∧ cs.contains c = true ∧ lookF f fs = some v ∧ K v
theorem fl {h : Hm} {cs : List Nat} {f : Str} {l c : Nat} {fs : List (Str × D)} {v : D} {K : D → Prop} (e1 : h.g l = some (.ins c fs)) (e2 : cs.contains c = true) (e3 : lookF f fs = some v) (q : K v) : FL h cs f (.loc l) K := ⟨l, c, fs, v, rfl, e1, e2, e3, q⟩
def SM (m : Str) (ms : List (Nat × (List D → List D → Hm → R D))) (h : Hm) (x : D) (K : (List D → List D → Hm → R D) → Prop) : Prop := ∃ F, selM m ms h x = some F ∧ K F
theorem sm {m : Str} {ms : List (Nat × (List D → List D → Hm → R D))} {h : Hm} {l c : Nat} {fs : List (Str × D)} {F : List D → List D → Hm → R D} {K : (List D → List D → Hm → R D) → Prop} (e : h.g l = some (.ins c fs)) (e1 : pickF c ms = some F) (e2 : lookF m fs = none) (q : K F) : SM m ms h (.loc l) K := ⟨F, by
  unfold selM
  simp only [e, e1, e2], q⟩
def PF (h : Hm) (cs : List Nat) (x : D) (K : Nat → Nat → List (Str × D) → Prop) : Prop := ∃ l c fs, x = .loc l ∧ h.g l = some (.ins c fs) ∧ cs.contains c = true ∧ fs.length < 1000 ∧ K l c fs
theorem pf {h : Hm} {cs : List Nat} {l c : Nat} {fs : List (Str × D)} {K : Nat → Nat → List (Str × D) → Prop} (e1 : h.g l = some (.ins c fs)) (e2 : cs.contains c = true) (e3 : Nat.ble (fs.length + 1) 1000 = true) (q : K l c fs) : PF h cs (.loc l) K := ⟨l, c, fs, rfl, e1, e2, Nat.le_of_ble_eq_true e3, q⟩
def GI (h : Hm) (x y : D) (K : Nat → List D → Nat → Prop) : Prop := ∃ l i xs j, x = .loc l ∧ y = .int i ∧ h.g l = some (.lst xs) ∧ ixI xs.length i = some j ∧ K l xs j
theorem gi {h : Hm} {l : Nat} {i : Int} {xs : List D} {j : Nat} {K : Nat → List D → Nat → Prop} (e1 : h.g l = some (.lst xs)) (e2 : ixI xs.length i = some j) (q : K l xs j) : GI h (.loc l) (.int i) K := ⟨l, i, xs, j, rfl, rfl, e1, e2, q⟩
def DP (h : Hm) (x y : D) (K : Nat → List (Key × D) → Key → Prop) : Prop := ∃ l kvs k, x = .loc l ∧ h.g l = some (.dic kvs) ∧ kOf y = some k ∧ kvs.length < SL ∧ K l kvs k
theorem dp {h : Hm} {l : Nat} {y : D} {kvs : List (Key × D)} {k : Key} {K : Nat → List (Key × D) → Key → Prop} (e1 : h.g l = some (.dic kvs)) (e2 : kOf y = some k) (e3 : kvs.length < SL) (q : K l kvs k) : DP h (.loc l) y K := ⟨l, kvs, k, rfl, e1, e2, e3, q⟩
def R1 (ds : List D) (K : Int → Prop) : Prop := ∃ j, ds = [.int j] ∧ (-(2 ^ 62) ≤ j ∧ j < 2 ^ 62) ∧ K j
theorem r1 {j : Int} {K : Int → Prop} (e : -(2 ^ 62) ≤ j ∧ j < 2 ^ 62) (q : K j) : R1 [.int j] K := ⟨j, rfl, e, q⟩
def R2_ (ds : List D) (K : Int → Int → Prop) : Prop := ∃ i j, ds = [.int i, .int j] ∧ (-(2 ^ 62) ≤ i ∧ i < 2 ^ 62 ∧ -(2 ^ 62) ≤ j ∧ j < 2 ^ 62) ∧ K i j
theorem r2 {i j : Int} {K : Int → Int → Prop} (e : -(2 ^ 62) ≤ i ∧ i < 2 ^ 62 ∧ -(2 ^ 62) ≤ j ∧ j < 2 ^ 62) (q : K i j) : R2_ [.int i, .int j] K := ⟨i, j, rfl, e, q⟩
def KD (qs : List (D × D)) (K : List (Key × D) → Prop) : Prop := ∃ kvs, keyed qs = some kvs ∧ kvs.length ≤ 15 ∧ K (kvs.foldl (fun acc kv => putK acc kv.1 kv.2) [])
theorem kd {qs : List (D × D)} {kvs kws : List (Key × D)} {K : List (Key × D) → Prop} (e : keyed qs = some kvs) (e2 : Nat.ble kvs.length 15 = true) (e3 : kvs.foldl (fun acc kv => putK acc kv.1 kv.2) [] = kws) (q : K kws) : KD qs K := ⟨kvs, e, Nat.le_of_ble_eq_true e2, by rw [e3]; exact q⟩
def TY (h : Hm) (x : D) (T : String) (K : Prop) : Prop := tyD h x = some T ∧ K
theorem tyL {h : Hm} {l : Nat} {xs : List D} {K : Prop} (e : h.g l = some (.lst xs)) (q : K) : TY h (.loc l) "list" K := ⟨by unfold tyD; simp only [e], q⟩
theorem tyDc {h : Hm} {l : Nat} {xs : List (Key × D)} {K : Prop} (e : h.g l = some (.dic xs)) (q : K) : TY h (.loc l) "dict" K := ⟨by unfold tyD; simp only [e], q⟩
def sel (c : Bool) (A B : Prop) : Prop := match c with
  | true => A
  | false => B
section
variable {α β : Type} {E : XE} {σ : Env} {h : Hm}
theorem Ev.mono {r : R α} {Q Q' : α → Hm → Prop} (w : Ev E r Q) (k : ∀ a h, Q a h → Q' a h) : Ev E r Q' := by
  cases r with
  | ok a h => exact k a h w
  | exc c fs h => exact w
  | bad => exact w
theorem EvS.mono {r : RS} {P P' : Po} (w : EvS E r P) (k1 : ∀ σ h, P.nx σ h → P'.nx σ h) (k2 : ∀ d h, P.rt d h → P'.rt d h) (k3 : ∀ σ h, P.bk σ h → P'.bk σ h) (k4 : ∀ σ h, P.ct σ h → P'.ct σ h): EvS E r P' := by
  cases r with
  | nx σ h => exact k1 _ _ w
  | rt d h => exact k2 _ _ w
  | bk σ h => exact k3 _ _ w
  | ct σ h => exact k4 _ _ w
  | exc c fs h => exact w
  | bad => exact w
theorem ev_ok {a : α} {Q : α → Hm → Prop} (q : Q a h) : Ev E (.ok a h) Q := q
theorem ev_bind {r : R α} {f : α → Hm → R β} {Q : β → Hm → Prop} (w : Ev E r fun a h1 => Ev E (f a h1) Q) : Ev E (r.bind f) Q := by
  cases r with
  | ok a h => exact w
  | exc c fs h => exact w
  | bad => exact w
theorem ev_of_bind {r : R α} {f : α → Hm → R β} {Q : β → Hm → Prop} (w : Ev E (r.bind f) Q) : Ev E r fun a h1 => Ev E (f a h1) Q := by
  cases r with
  | ok a h => exact w
  | exc c fs h => exact w
  | bad => exact w
theorem es_stm {P : Po} {r : R α} {f : α → Hm → RS} (w : Ev E r fun a h1 => EvS E (f a h1) P) : EvS E (r.stm f) P := by
  cases r with
  | ok a h => exact w
  | exc c fs h => exact w
  | bad => exact w
theorem ev_ifR {c : Bool} {r : R α} {Q : α → Hm → Prop} (hc : c = true) (w : Ev E r Q) : Ev E (ifR c r) Q := by
  rw [hc]
  exact w
/-! ### expressions -/
variable {Q : D → Hm → Prop} {QL : List D → Hm → Prop} {QB : Bool → Hm → Prop} {a b c : ME} {as ks : MA} {t u : MT}
theorem ev_var {i : Nat} {d : D} (e : σ[i]? = some (some d)) (q : Q d h) : Ev E (eV i σ h) Q := by
  unfold eV
  rw [e]
  exact q
theorem ev_c {d : D} (q : Q d h) : Ev E (eC d σ h) Q := q
theorem ev_op {f : D → D → Hm → R D} (q : Ev E (a σ h) fun x h1 => Ev E (b σ h1) fun y h2 => Ev E (f x y h2) Q) : Ev E (eOp f a b σ h) Q := ev_bind (q.mono fun x h1 w => ev_bind w)
theorem ev_un {f : D → Hm → R D} (q : Ev E (a σ h) fun x h1 => Ev E (f x h1) Q) : Ev E (eUn f a σ h) Q := ev_bind q
theorem ev_nil (q : QL [] h) : Ev E (aNil σ h) QL := q
theorem ev_cons (q : Ev E (a σ h) fun x h1 => Ev E (as σ h1) fun xs h2 => QL (x :: xs) h2) : Ev E (aCons a as σ h) QL := ev_bind (q.mono fun x h1 w => ev_bind w)
theorem ev_tup (q : Ev E (as σ h) fun ds h1 => TL ds (Q (.tup ds) h1)) : Ev E (eTup as σ h) Q := ev_bind (q.mono fun ds h1 w => ev_ifR (decide_eq_true (Nat.le_of_ble_eq_true w.1)) w.2)
theorem ev_lst (q : Ev E (as σ h) fun ds h1 => TL ds (Q (.loc h1.n) (h1.new (.lst ds)))) : Ev E (eLst as σ h) Q := ev_bind (q.mono fun ds h1 w => ev_ifR (decide_eq_true (Nat.le_of_ble_eq_true w.1)) w.2)
theorem sel_t {c : Bool} {A B : Prop} (hc : c = true) (w : A) : sel c A B := by
  rw [hc]
  exact w
theorem sel_f {c : Bool} {A B : Prop} (hc : c = false) (w : B) : sel c A B := by
  rw [hc]
  exact w
theorem sel_of {c : Bool} {A B : Prop} (k1 : c = true → A) (k2 : c = false → B) : sel c A B := by
  cases c with
  | true => exact k1 rfl
  | false => exact k2 rfl
theorem ev_eIf (q : Ev E (t σ h) fun c h1 => sel c (Ev E (a σ h1) Q) (Ev E (b σ h1) Q)) : Ev E (eIf t a b σ h) Q := ev_bind (q.mono fun c h1 w => by cases c <;> exact w)
theorem ev_and (q : Ev E (a σ h) fun x h1 => NB x fun v => sel v (Ev E (b σ h1) Q) (Q (.bl false) h1)) : Ev E (eAnd a b σ h) Q := ev_bind (q.mono fun x h1 ⟨v, e, w⟩ => by subst e; cases v <;> exact w)
theorem ev_or (q : Ev E (a σ h) fun x h1 => NB x fun v => sel v (Q (.bl true) h1) (Ev E (b σ h1) Q)) : Ev E (eOr a b σ h) Q := ev_bind (q.mono fun x h1 ⟨v, e, w⟩ => by subst e; cases v <;> exact w)
theorem ev_not (q : Ev E (a σ h) fun x h1 => NB x fun v => Q (.bl (!v)) h1) : Ev E (eNot a σ h) Q := ev_bind (q.mono fun x h1 ⟨v, e, w⟩ => by subst e; exact w)
theorem ev_chain {f g : D → D → Hm → R D} (q : Ev E (a σ h) fun x h1 => Ev E (b σ h1) fun y h2 => Ev E (f x y h2) fun z h3 => NB z fun v => sel v (Ev E (c σ h3) fun w h4 => Ev E (g y w h4) Q) (Q (.bl false) h3)) : Ev E (eChain f g a b c σ h) Q :=
  ev_bind (q.mono fun x h1 w => ev_bind (w.mono fun y h2 w => ev_bind (w.mono fun z h3 ⟨v, e, w⟩ => by
    subst e
    cases v with
    | true => exact ev_bind w
    | false => exact w)))
/-! ### tests -/
theorem ev_tB (q : Ev E (a σ h) fun x h1 => NB x fun v => QB v h1) : Ev E (tB a σ h) QB := ev_bind (q.mono fun x h1 ⟨v, e, w⟩ => by subst e; exact w)
theorem ev_tAnd (q : Ev E (t σ h) fun c h1 => sel c (Ev E (u σ h1) QB) (QB false h1)) : Ev E (tAnd t u σ h) QB := ev_bind (q.mono fun c h1 w => by cases c <;> exact w)
theorem ev_tOr (q : Ev E (t σ h) fun c h1 => sel c (QB true h1) (Ev E (u σ h1) QB)) : Ev E (tOr t u σ h) QB := ev_bind (q.mono fun c h1 w => by cases c <;> exact w)
theorem ev_tNot (q : Ev E (t σ h) fun c h1 => QB (!c) h1) : Ev E (tNot t σ h) QB := ev_bind q
theorem ev_tYes (q : QB true h) : Ev E (tYes σ h) QB := q
/-! ### operators -/
theorem ev_add {i j : Int} (q : Q (.int (i + j)) h) : Ev E (opAdd (.int i) (.int j) h) Q := q
theorem ev_cat {l m : Nat} {xs ys : List D} (e1 : h.g l = some (.lst xs)) (e2 : h.g m = some (.lst ys)) (k : xs.length + ys.length ≤ SL) (q : Q (.loc h.n) (h.new (.lst (xs ++ ys)))) : Ev E (opAdd (.loc l) (.loc m) h) Q := by
  unfold opAdd
  simp only [e1, e2]
  exact ev_ifR (decide_eq_true k) q
theorem ev_sub {i j : Int} (q : Q (.int (i - j)) h) : Ev E (opSub (.int i) (.int j) h) Q := q
theorem ev_mul {i j : Int} (k : (-(2 ^ 64) < i ∧ i < 2 ^ 64) ∨ (-(2 ^ 64) < j ∧ j < 2 ^ 64)) (q : Q (.int (i * j)) h) : Ev E (opMul (.int i) (.int j) h) Q := ev_ifR (decide_eq_true k) q
theorem ev_rep {l : Nat} {xs : List D} {k : Int} (e : h.g l = some (.lst xs)) (k1 : -(2 ^ 63) ≤ k ∧ k < 2 ^ 63 ∧ xs.length * k.toNat ≤ SL) (q : Q (.loc h.n) (h.new (.lst (List.replicate k.toNat xs).flatten))) : Ev E (opMul (.loc l) (.int k) h) Q := by
  unfold opMul
  simp only [e]
  exact ev_ifR (decide_eq_true k1) q
theorem ev_mod {i j : Int} (k : 0 < j) (q : Q (.int (i % j)) h) : Ev E (opMod (.int i) (.int j) h) Q := ev_ifR (decide_eq_true k) q
theorem ev_fdiv {i j : Int} (k : 0 < j ∧ j < 1073741824) (q : Q (.int (i / j)) h) : Ev E (opFDiv (.int i) (.int j) h) Q := ev_ifR (decide_eq_true k) q
theorem ev_pow {i j : Int} (k : 0 ≤ j ∧ j ≤ 1000000 ∧ i.natAbs < 2 ^ 64) (q : Q (.int (i ^ j.toNat)) h) : Ev E (opPow (.int i) (.int j) h) Q := ev_ifR (decide_eq_true k) q
theorem ev_neg {i : Int} (q : Q (.int (-i)) h) : Ev E (opNeg (.int i) h) Q := q
theorem ev_lt {i j : Int} (q : Q (.bl (decide (i < j))) h) : Ev E (opLt (.int i) (.int j) h) Q := q
theorem ev_le {i j : Int} (q : Q (.bl (decide (i ≤ j))) h) : Ev E (opLe (.int i) (.int j) h) Q := q
theorem ev_gt {i j : Int} (q : Q (.bl (decide (j < i))) h) : Ev E (opGt (.int i) (.int j) h) Q := q
theorem ev_ge {i j : Int} (q : Q (.bl (decide (j ≤ i))) h) : Ev E (opGe (.int i) (.int j) h) Q := q
theorem ev_eqI {i j : Int} (q : Q (.bl (decide (i = j))) h) : Ev E (opEq (.int i) (.int j) h) Q := q
theorem ev_neI {i j : Int} (q : Q (.bl (!decide (i = j))) h) : Ev E (opNe (.int i) (.int j) h) Q := q
theorem ev_eqS {i j : Str} (q : Q (.bl (@decide (i = j) (strDec i j))) h) : Ev E (opEq (.str i) (.str j) h) Q := q
theorem ev_neS {i j : Str} (q : Q (.bl (!@decide (i = j) (strDec i j))) h) : Ev E (opNe (.str i) (.str j) h) Q := q
theorem dat_int {n : Nat} {i : Int} : dat (n + 1) h (.int i) = some (.int i) := rfl
theorem dat_str {n : Nat} {x : Str} {p : PyData} (e : dat (n + 1) h (.str x) = some p) : p = .str x := by
  unfold dat at e
  simp only at e
  cases k : PyData.strOk x with
  | true => rw [k] at e; exact (Option.some.inj e).symm
  | false => rw [k] at e; cases e
theorem ev_eqD {x y : D} {p r : PyData} (e1 : dat DEP h x = some p) (e2 : dat DEP h y = some r) (q : Q (.bl (PyData.eqv p r)) h) : Ev E (opEq x y h) Q := by
  unfold opEq
  split
  · cases (show some _ = some _ from e1)
    cases (show some _ = some _ from e2)
    rw [eqv_int] at q
    exact q
  · cases dat_str e1
    cases dat_str e2
    rw [eqv_str] at q
    exact q
  · simp only [e1, e2]
    exact q
theorem ev_neD {x y : D} {p r : PyData} (e1 : dat DEP h x = some p) (e2 : dat DEP h y = some r) (q : Q (.bl (!PyData.eqv p r)) h) : Ev E (opNe x y h) Q := by
  unfold opNe
  split
  · cases (show some _ = some _ from e1)
    cases (show some _ = some _ from e2)
    rw [eqv_int] at q
    exact q
  · cases dat_str e1
    cases dat_str e2
    rw [eqv_str] at q
    exact q
  · simp only [e1, e2]
    exact q
theorem ev_isN {x : D} (q : Q (.bl (decide (x = .non))) h) : Ev E (opIsN x h) Q := q
theorem ev_notN {x : D} (q : Q (.bl (!decide (x = .non))) h) : Ev E (opNotN x h) Q := q
/-! ### places -/
theorem ev_ixT {ds : List D} {i : Int} {d : D} (e : nth ds i = some d) (q : Q d h) : Ev E (opIx (.tup ds) (.int i) h) Q := by
  unfold opIx
  simp only [e]
  exact q
theorem ev_ixL {l : Nat} {xs : List D} {i : Int} {d : D} (e1 : h.g l = some (.lst xs)) (e : nth xs i = some d) (q : Q d h) : Ev E (opIx (.loc l) (.int i) h) Q := by
  unfold opIx Hm.seq
  simp only [e1, e]
  exact q
theorem ev_ixK {xs : List D} {i : Int} {d : D} (e : nth xs i = some d) (q : Q d h) : Ev E (opIx (.kl xs) (.int i) h) Q := by
  unfold opIx Hm.seq
  simp only [e]
  exact q
theorem ev_dgetS {l : Nat} {kvs : List (Key × D)} {k : Str} {d : D} (e1 : h.g l = some (.dic kvs)) (e : lookA (.inr k) kvs = some d) (q : Q d h) : Ev E (opDGet (.loc l) (.str k) h) Q := by
  unfold opDGet
  simp only [e1, kOf, e]
  exact q
theorem ev_dgetI {l : Nat} {kvs : List (Key × D)} {k : Int} {d : D} (e1 : h.g l = some (.dic kvs)) (e : lookA (.inl k) kvs = some d) (q : Q d h) : Ev E (opDGet (.loc l) (.int k) h) Q := by
  unfold opDGet
  simp only [e1, kOf, e]
  exact q
theorem ev_oNone {QO : Option Int → Hm → Prop} (q : QO none h) : Ev E (oNone σ h) QO := q
theorem ev_oSome {QO : Option Int → Hm → Prop} (q : Ev E (a σ h) fun x h1 => NI x fun i => QO (some i) h1) : Ev E (oSome a σ h) QO := ev_bind (q.mono fun x h1 ⟨i, e, w⟩ => by subst e; exact w)
theorem ev_sl {lo hi : MO} (q : Ev E (a σ h) fun x h1 => Ev E (lo σ h1) fun l h2 => Ev E (hi σ h2) fun u h3 => SQ h3 x fun xs => Q (.loc h3.n) (h3.new (.lst (cutL xs l u)))) : Ev E (eSl a lo hi σ h) Q :=
  ev_bind (q.mono fun x h1 w => ev_bind (w.mono fun l h2 w => ev_bind (w.mono fun u h3 ⟨xs, e, w⟩ => by simp only [e]; exact w)))
/-! ### objects, calls -/
theorem ev_fld {cs : List Nat} {f : Str} (q : Ev E (a σ h) fun x h1 => FL h1 cs f x fun v => Q v h1) : Ev E (eFld a cs f σ h) Q := ev_bind (q.mono fun x h1 ⟨l, c, fs, v, e, e1, e2, e3, w⟩ => by
  subst e
  simp only [e1, e2, e3]
  exact w)
theorem ev_call {f : List D → List D → Hm → R D} (q : Ev E (as σ h) fun ds h1 => Ev E (ks σ h1) fun es h2 => Ev E (f ds es h2) Q) : Ev E (eCall f as ks σ h) Q := ev_bind (q.mono fun x h1 w => ev_bind w)
theorem ev_callP {n m : Nat} {p : List D → List D → List D} {f : Fn} {ds es : List D} (k1 : ds.length = n) (k2 : es.length = m) (q : Ev E (f (p ds es) h) Q) : Ev E (callP n m p f ds es h) Q := ev_ifR (by rw [k1, k2]; simp) q
theorem ev_meth {m : Str} {ms : List (Nat × (List D → List D → Hm → R D))} (q : Ev E (a σ h) fun x h1 => SM m ms h1 x fun F => Ev E (as σ h1) fun ds h2 => Ev E (ks σ h2) fun es h3 => Ev E (F (x :: ds) es h3) Q) : Ev E (eMeth a m ms as ks σ h) Q := ev_bind (q.mono fun x h1 ⟨F, e, w⟩ => by
  simp only [e]
  exact ev_bind (w.mono fun ds h2 w => ev_bind w))
theorem ev_new {c : Nat} {f : List D → List D → Hm → R D} {ds es : List D} (q : Ev E (f (.loc h.n :: ds) es (h.new (.ins c []))) fun v h1 => NN v (Q (.loc h.n) h1)) : Ev E (mkNew c f ds es h) Q := ev_bind (q.mono fun v h1 ⟨e, w⟩ => by subst e; exact w)
theorem ev_bi {f : Bi} (q : Ev E (as σ h) fun ds h1 => Ev E (f ds h1) Q) : Ev E (eBi f as σ h) Q := ev_bind q
theorem ev_lenT {ds : List D} (q : Q (.int ds.length) h) : Ev E (bLen [.tup ds] h) Q := q
theorem ev_lenK {ds : List D} (q : Q (.int ds.length) h) : Ev E (bLen [.kl ds] h) Q := q
theorem ev_lenL {l : Nat} {xs : List D} (e : h.g l = some (.lst xs)) (q : Q (.int xs.length) h) : Ev E (bLen [.loc l] h) Q := by
  unfold bLen
  simp only [e]
  exact q
theorem ev_lenD {l : Nat} {kvs : List (Key × D)} (e : h.g l = some (.dic kvs)) (q : Q (.int kvs.length) h) : Ev E (bLen [.loc l] h) Q := by
  unfold bLen
  simp only [e]
  exact q
theorem ev_listT {ds : List D} (q : Q (.loc h.n) (h.new (.lst ds))) : Ev E (bList [.tup ds] h) Q := q
theorem ev_listK {ds : List D} (q : Q (.loc h.n) (h.new (.lst ds))) : Ev E (bList [.kl ds] h) Q := q
theorem ev_listL {l : Nat} {xs : List D} (e : h.g l = some (.lst xs)) (q : Q (.loc h.n) (h.new (.lst xs))) : Ev E (bList [.loc l] h) Q := by
  unfold bList Hm.seq
  simp only [e]
  exact q
theorem ev_tupL {l : Nat} {xs : List D} (e : h.g l = some (.lst xs)) (q : Q (.tup xs) h) : Ev E (bTuple [.loc l] h) Q := by
  unfold bTuple Hm.seq
  simp only [e]
  exact q
theorem ev_tupT {ds : List D} (q : Q (.tup ds) h) : Ev E (bTuple [.tup ds] h) Q := q
theorem ev_tupK {ds : List D} (q : Q (.tup ds) h) : Ev E (bTuple [.kl ds] h) Q := q
theorem ev_repr {x : D} {p : PyData} (e : dat DEP h x = some p) (k : fits p = true) (q : Q (.str p.shown) h) : Ev E (bRepr [x] h) Q := by
  unfold bRepr
  simp only [e]
  exact ev_ifR k q
theorem ev_isi {T t : String} {x : D} (e : tyD h x = some t) (q : Q (.bl (t == T || (t == "bool" && T == "int"))) h) : Ev E (bIsi T [x, .ty T] h) Q := by
  unfold bIsi
  simp only [e, decide_eq_true rfl]
  exact q
theorem ev_bm {T : String} {f : Mb} (q : Ev E (a σ h) fun x h1 => TY h1 x T (Ev E (as σ h1) fun ds h2 => Ev E (f x ds h2) Q)) : Ev E (eBM T f a as σ h) Q := ev_bind (q.mono fun x h1 ⟨e, w⟩ => ev_ifR (decide_eq_true e) (ev_bind w))
theorem tyD_lst {l : Nat} {xs : List D} (e : h.g l = some (.lst xs)) : tyD h (.loc l) = some "list" := by
  unfold tyD
  simp only [e]
theorem tyD_dic {l : Nat} {kvs : List (Key × D)} (e : h.g l = some (.dic kvs)) : tyD h (.loc l) = some "dict" := by
  unfold tyD
  simp only [e]
theorem ev_append {l : Nat} {xs : List D} {y : D} (e : h.g l = some (.lst xs)) (k : xs.length < SL) (q : Q .non (h.put l (.lst (xs ++ [y])))) : Ev E (mAppend (.loc l) [y] h) Q := by
  unfold mAppend
  simp only [e]
  exact ev_ifR (decide_eq_true k) q
theorem ev_pnil {QP : List (D × D) → Hm → Prop} (q : QP [] h) : Ev E (pairsM [] σ h) QP := q
theorem ev_pcons {QP : List (D × D) → Hm → Prop} {ps : List (ME × ME)} (q : Ev E (a σ h) fun x h1 => Ev E (b σ h1) fun y h2 => Ev E (pairsM ps σ h2) fun r h3 => QP ((x, y) :: r) h3) : Ev E (pairsM ((a, b) :: ps) σ h) QP := ev_bind (q.mono fun x h1 w => ev_bind (w.mono fun y h2 w => ev_bind w))
theorem ev_dict {ps : List (ME × ME)} (q : Ev E (pairsM ps σ h) fun qs h1 => KD qs fun kvs => Q (.loc h1.n) (h1.new (.dic kvs))) : Ev E (eDict ps σ h) Q := ev_bind (q.mono fun qs h1 ⟨kvs, e, k, w⟩ => by
  simp only [e]
  exact ev_ifR (decide_eq_true k) w)
/-! ### targets -/
variable {QE : Env → Hm → Prop} {g : MG}
theorem ev_gN {i : Nat} {d : D} (q : QE (σ.set i (some d)) h) : Ev E (gN i d σ h) QE := q
theorem ev_gnil (q : QE σ h) : Ev E (gsAll [] [] σ h) QE := q
theorem ev_gcons {gs : List MG} {d : D} {ds : List D} (q : Ev E (g d σ h) fun σ1 h1 => Ev E (gsAll gs ds σ1 h1) QE) : Ev E (gsAll (g :: gs) (d :: ds) σ h) QE := ev_bind q
theorem ev_gT {n : Nat} {gs : List MG} {ds : List D} (k : ds.length = n) (q : Ev E (gsAll gs ds σ h) QE) : Ev E (gT n gs (.tup ds) σ h) QE := ev_ifR (decide_eq_true k) q
theorem ev_gIx {d : D} (q : Ev E (a σ h) fun x h1 => Ev E (b σ h1) fun y h2 => GI h2 x y fun l xs j => QE σ (h2.put l (.lst (xs.set j d)))) : Ev E (gIx a b d σ h) QE := ev_bind (q.mono fun x h1 w => ev_bind (w.mono fun y h2 ⟨l, i, xs, j, e1, e2, e3, e4, w2⟩ => by
  subst e1 e2
  simp only [e3, e4]
  exact w2))
theorem ev_gFld {cs : List Nat} {f : Str} {d : D} (q : Ev E (a σ h) fun x h1 => PF h1 cs x fun l c fs => QE σ (h1.put l (.ins c (putF f d fs)))) : Ev E (gFld a cs f d σ h) QE := ev_bind (q.mono fun x h1 ⟨l, c, fs, e, e1, e2, e3, w⟩ => by
  subst e
  unfold fldK
  simp only [e1]
  exact ev_ifR (by rw [e2, decide_eq_true e3]; rfl) w)
/-! ### statements -/
variable {P : Po} {s1 s2 : MS}
theorem es_next (q : P.nx σ h) : EvS E (sNext σ h) P := q
theorem es_seq (q : EvS E (s1 σ h) (P.nxt fun σ1 h1 => EvS E (s2 σ1 h1) P)) : EvS E (sSeq s1 s2 σ h) P := by
  unfold sSeq
  cases e : s1 σ h with
  | nx σ1 h1 => rw [e] at q; exact q
  | _ => rw [e] at q; exact q
theorem es_expr (q : Ev E (a σ h) fun _ h1 => P.nx σ h1) : EvS E (sExpr a σ h) P := es_stm q
theorem es_asg (q : Ev E (a σ h) fun x h1 => Ev E (g x σ h1) fun σ1 h2 => P.nx σ1 h2) : EvS E (sAsg a g σ h) P := es_stm (q.mono fun x h1 w => es_stm w)
theorem es_par2 {i j : Nat} (q : Ev E (as σ h) fun ds h1 => P2 ds fun x y => P.nx ((σ.set i (some x)).set j (some y)) h1) : EvS E (sPar [i, j] as σ h) P := es_stm (q.mono fun ds h1 ⟨x, y, e, w⟩ => by subst e; exact w)
theorem es_par3 {i j k : Nat} (q : Ev E (as σ h) fun ds h1 => P3_ ds fun x y z => P.nx (((σ.set i (some x)).set j (some y)).set k (some z)) h1) : EvS E (sPar [i, j, k] as σ h) P := es_stm (q.mono fun ds h1 ⟨x, y, z, e, w⟩ => by subst e; exact w)
theorem es_aug {i : Nat} {f : D → D → Hm → R D} {x : D} (e : σ[i]? = some (some x)) (q : Ev E (a σ h) fun y h1 => Ev E (f x y h1) fun z h2 => P.nx (σ.set i (some z)) h2) : EvS E (sAug i f a σ h) P := by
  unfold sAug
  rw [e]
  exact es_stm (q.mono fun y h1 w => es_stm w)
theorem es_fld {cs : List Nat} {f : Str} (q : Ev E (b σ h) fun y h1 => Ev E (a σ h1) fun x h2 => PF h2 cs x fun l c fs => P.nx σ (h2.put l (.ins c (putF f y fs)))) : EvS E (sFld a cs f b σ h) P := es_stm (q.mono fun y h1 w => es_stm (w.mono fun x h2 ⟨l, c, fs, e, e1, e2, e3, w⟩ => by
  subst e
  have k : (cs.contains c && decide (fs.length < 1000)) = true := by rw [e2, decide_eq_true e3]; rfl
  simp only [e1, k]
  exact w))
theorem es_augF {cs : List Nat} {f : Str} {op : D → D → Hm → R D} (q : Ev E (a σ h) fun x h1 => ∃ l c fs v, x = .loc l ∧ h1.g l = some (.ins c fs) ∧ cs.contains c = true ∧ lookF f fs = some v ∧ Ev E (b σ h1) fun y h2 => Ev E (op v y h2) fun z h3 => ∃ fs', h3.g l = some (.ins c fs') ∧ fs'.length < 1000 ∧ P.nx σ (h3.put l (.ins c (putF f z fs')))) : EvS E (sAugF a cs f op b σ h) P :=
  es_stm (q.mono fun x h1 ⟨l, c, fs, v, e, e1, e2, e3, w⟩ => by
    subst e
    simp only [e1, e2, e3]
    refine es_stm (w.mono fun y h2 w => es_stm (w.mono fun z h3 ⟨fs', e4, e5, w⟩ => ?_))
    have k : (c == c && decide (fs'.length < 1000)) = true := by rw [beq_self_eq_true, decide_eq_true e5]; rfl
    simp only [e4, k]
    exact w)
theorem es_dputS {d k : ME} (q : Ev E (a σ h) fun v h1 => Ev E (d σ h1) fun x h2 => Ev E (k σ h2) fun y h3 => DP h3 x y fun l kvs kk => P.nx σ (h3.put l (.dic (putK kvs kk v)))) : EvS E (sDPut d k a σ h) P :=
  es_stm (q.mono fun v h1 w => es_stm (w.mono fun x h2 w => es_stm (w.mono fun y h3 ⟨l, kvs, kk, e, e1, e2, e3, w2⟩ => by
    subst e
    simp only [e1, e2, decide_eq_true e3]
    exact w2)))
theorem es_ret (q : Ev E (a σ h) P.rt) : EvS E (sRet a σ h) P := es_stm q
theorem es_retN (q : P.rt .non h) : EvS E (sRetN σ h) P := q
theorem es_if (q : Ev E (t σ h) fun c h1 => sel c (EvS E (s1 σ h1) P) (EvS E (s2 σ h1) P)) : EvS E (sIf t s1 s2 σ h) P := es_stm (q.mono fun c h1 w => by cases c <;> exact w)
theorem es_break (q : P.bk σ h) : EvS E (sBreak σ h) P := q
theorem es_cont (q : P.ct σ h) : EvS E (sCont σ h) P := q
/-- a def's body -/
abbrev poF (Q : D → Hm → Prop) : Po := ⟨fun _ h => Q .non h, Q, fun _ _ => False, fun _ _ => False⟩
theorem ev_fn {N : Nat} {body : MS} {ds : List D} (q : EvS E (body (ds.map some ++ List.replicate (N - ds.length) none) h) (poF Q)) : Ev E (fnOf N body ds h) Q := by
  unfold fnOf
  cases e : body (ds.map some ++ List.replicate (N - ds.length) none) h with
  | nx σ h1 => rw [e] at q; exact q
  | rt d h1 => rw [e] at q; exact q
  | exc c fs h1 => rw [e] at q; exact q
  | bk σ h1 => rw [e] at q; exact q.elim
  | ct σ h1 => rw [e] at q; exact q.elim
  | bad => rw [e] at q; exact q.elim
/-! ### loops -/
theorem ev_iSeq {QI : It → Hm → Prop} (q : Ev E (a σ h) fun x h1 => IT h1 x fun J => QI J h1) : Ev E (iSeq a σ h) QI := ev_bind (q.mono fun x h1 w => by
  rcases w with ⟨xs, e, w⟩ | ⟨xs, e, n, w⟩
  · subst e
    exact w
  · cases x with
    | tup ds => exact absurd rfl (n ds)
    | _ => simp only [e]; exact w)
theorem ev_rng1 {QI : It → Hm → Prop} (q : Ev E (as σ h) fun ds h1 => R1 ds fun j => QI ⟨intsFrom 0 j.toNat, fun _ => true⟩ h1) : Ev E (iRng as σ h) QI := ev_bind (q.mono fun ds h1 ⟨j, e, k, w⟩ => by subst e; exact ev_ifR (decide_eq_true k) w)
theorem ev_rng2 {QI : It → Hm → Prop} (q : Ev E (as σ h) fun ds h1 => R2_ ds fun i j => QI ⟨intsFrom i (j - i).toNat, fun _ => true⟩ h1) : Ev E (iRng as σ h) QI := ev_bind (q.mono fun ds h1 ⟨i, j, e, k, w⟩ => by subst e; exact ev_ifR (decide_eq_true k) w)
theorem ev_enum {QI : It → Hm → Prop} (q : Ev E (a σ h) fun x h1 => SQ h1 x fun xs => QI ⟨numbered 0 xs, fun h' => decide (h'.seq x = some xs)⟩ h1) : Ev E (iEnum a σ h) QI := ev_bind (q.mono fun x h1 ⟨xs, e, w⟩ => by simp only [e]; exact w)
theorem es_for {it : MI} {body : MS} (q : Ev E (it σ h) fun J h1 => EvS E (forGo g body J.ok J.xs σ h1) P) : EvS E (sFor it g body σ h) P := es_stm q
theorem for_nil {body : MS} {ok : Hm → Bool} (k : ok h = true) (q : P.nx σ h) : EvS E (forGo g body ok [] σ h) P := by
  unfold forGo
  rw [k]
  exact q
theorem for_cons {body : MS} {ok : Hm → Bool} {d : D} {ds : List D} (k : ok h = true) (q : Ev E (g d σ h) fun σ1 h1 => EvS E (body σ1 h1) ⟨fun σ2 h2 => EvS E (forGo g body ok ds σ2 h2) P, P.rt, P.nx, fun σ2 h2 => EvS E (forGo g body ok ds σ2 h2) P⟩) : EvS E (forGo g body ok (d :: ds) σ h) P := by
  unfold forGo
  rw [k]
  refine es_stm (q.mono fun σ1 h1 w => ?_)
  cases e : body σ1 h1 with
  | nx σ2 h2 => rw [e] at w; exact w
  | ct σ2 h2 => rw [e] at w; exact w
  | bk σ2 h2 => rw [e] at w; exact w
  | rt d h2 => rw [e] at w; exact w
  | exc c fs h2 => rw [e] at w; exact w
  | bad => rw [e] at w; exact w
/-- a walk by an invariant: I i before the i-th thing -/
theorem for_inv {body : MS} {ok : Hm → Bool} (I : Nat → Env → Hm → Prop) : ∀ (xs : List D) (n : Nat) (σ : Env) (h : Hm), I n σ h → (∀ i σ h, n ≤ i → i ≤ n + xs.length → I i σ h → ok h = true) →
    (∀ i d σ h, xs[i]? = some d → I (n + i) σ h → Ev E (g d σ h) fun σ1 h1 => EvS E (body σ1 h1) ⟨I (n + i + 1), P.rt, P.nx, I (n + i + 1)⟩) → (∀ σ h, I (n + xs.length) σ h → P.nx σ h) → EvS E (forGo g body ok xs σ h) P
  | [], n, σ, h, i0, iok, _, fin => by
    unfold forGo
    rw [iok n σ h (Nat.le_refl _) (Nat.le_refl _) i0]
    exact fin _ _ i0
  | d :: ds, n, σ, h, i0, iok, step, fin => by
    unfold forGo
    rw [iok n σ h (Nat.le_refl _) (Nat.le_add_right _ _) i0]
    refine es_stm ((step 0 d σ h rfl i0).mono fun σ1 h1 w => ?_)
    have nxt : ∀ σ2 h2, I (n + 1) σ2 h2 → EvS E (forGo g body ok ds σ2 h2) P := fun σ2 h2 i1 => for_inv I ds (n + 1) σ2 h2 i1 (fun i σ h k1 k2 => iok i σ h (by omega) (by simp only [List.length_cons]; omega)) (fun i d σ h e j => by
      have z := step (i + 1) d σ h (by simpa using e) (by rw [show n + (i + 1) = n + 1 + i by omega]; exact j)
      rw [show n + (i + 1) = n + 1 + i by omega] at z
      exact z) fun σ h j => fin σ h (by rw [List.length_cons, show n + (ds.length + 1) = n + 1 + ds.length by omega]; exact j)
    cases e : body σ1 h1 with
    | nx σ2 h2 => rw [e] at w; exact nxt _ _ w
    | ct σ2 h2 => rw [e] at w; exact nxt _ _ w
    | bk σ2 h2 => rw [e] at w; exact w
    | rt d h2 => rw [e] at w; exact w
    | exc c fs h2 => rw [e] at w; exact w
    | bad => rw [e] at w; exact w
theorem es_while_inv {body : MS} (I : Nat → Env → Hm → Prop) : ∀ (m n : Nat) (σ : Env) (h : Hm), m < n → I m σ h →
    (∀ m σ h, I m σ h → Ev E (t σ h) fun c h1 => sel c (EvS E (body σ h1) ⟨fun σ h => ∃ m', m' < m ∧ I m' σ h, P.rt, P.nx, fun σ h => ∃ m', m' < m ∧ I m' σ h⟩) (P.nx σ h1)) → EvS E (whileGo t body n σ h) P
  | m, 0, _, _, lt, _, _ => absurd lt (Nat.not_lt_zero _)
  | m, n + 1, σ, h, lt, i0, step => by
    unfold whileGo
    refine es_stm ((step m σ h i0).mono fun c h1 w => ?_)
    cases c with
    | false => exact w
    | true =>
      have nxt : ∀ σ2 h2, (∃ m', m' < m ∧ I m' σ2 h2) → EvS E (whileGo t body n σ2 h2) P := fun σ2 h2 ⟨m', k, j⟩ => es_while_inv I m' n σ2 h2 (by omega) j step
      show EvS E (match body σ h1 with | .nx σ2 h2 => whileGo t body n σ2 h2 | .ct σ2 h2 => whileGo t body n σ2 h2 | .bk σ2 h2 => .nx σ2 h2 | .rt d h2 => .rt d h2 | .exc c fs h2 => .exc c fs h2 | .bad => .bad) P
      have w : EvS E (body σ h1) ⟨fun σ h => ∃ m', m' < m ∧ I m' σ h, P.rt, P.nx, fun σ h => ∃ m', m' < m ∧ I m' σ h⟩ := w
      cases e : body σ h1 with
      | nx σ2 h2 => rw [e] at w; exact nxt _ _ w
      | ct σ2 h2 => rw [e] at w; exact nxt _ _ w
      | bk σ2 h2 => rw [e] at w; exact w
      | rt d h2 => rw [e] at w; exact w
      | exc c fs h2 => rw [e] at w; exact w
      | bad => rw [e] at w; exact w
theorem ev_quiet {r : R α} {Q : α → Hm → Prop} (w : Ev (fun _ _ _ => False) r Q) : Ev E r.quiet Q := by
  cases r with
  | ok a h => exact w
  | exc c fs h => exact w
  | bad => exact w
theorem ev_comp {it : MI} {own is : List Nat} {one : Bool} (q : Ev E (it σ h) fun J h1 => Ev E (compGo (bindC one is) t a J.ok (wipe σ own) J.xs [] h1) fun acc h2 => Q (.loc h2.n) (h2.new (.lst acc))) : Ev E (eComp it own one is t a σ h) Q := ev_bind (q.mono fun J h1 w => ev_bind w)
/-- a comprehension by an invariant: acc what is told so far -/
theorem comp_inv {bd : D → Env → Option Env} {ok : Hm → Bool} (I : Nat → List D → Hm → Prop) : ∀ (xs : List D) (n : Nat) (acc : List D) (h : Hm), I n acc h → (∀ i acc h, n ≤ i → i ≤ n + xs.length → I i acc h → ok h = true) →
    (∀ i d acc h, xs[i]? = some d → I (n + i) acc h → ∃ σ1, bd d σ = some σ1 ∧ Ev (fun _ _ _ => False) (t σ1 h) fun c h1 => sel c (Ev (fun _ _ _ => False) (a σ1 h1) fun y h2 => acc.length < SL ∧ I (n + i + 1) (acc ++ [y]) h2) (I (n + i + 1) acc h1)) →
    (∀ acc h, I (n + xs.length) acc h → QL acc h) → Ev E (compGo bd t a ok σ xs acc h) QL
  | [], n, acc, h, i0, iok, _, fin => by
    unfold compGo
    exact ev_ifR (iok n acc h (Nat.le_refl _) (Nat.le_refl _) i0) (fin _ _ i0)
  | d :: ds, n, acc, h, i0, iok, step, fin => by
    unfold compGo
    rw [iok n acc h (Nat.le_refl _) (Nat.le_add_right _ _) i0]
    obtain ⟨σ1, e, w⟩ := step 0 d acc h rfl i0
    rw [e]
    have nxt : ∀ acc2 h2, I (n + 1) acc2 h2 → Ev E (compGo bd t a ok σ ds acc2 h2) QL := fun acc2 h2 i1 => comp_inv I ds (n + 1) acc2 h2 i1 (fun i acc h k1 k2 => iok i acc h (by omega) (by simp only [List.length_cons]; omega)) (fun i d acc h e j => by
      have z := step (i + 1) d acc h (by simpa using e) (by rw [show n + (i + 1) = n + 1 + i by omega]; exact j)
      rw [show n + (i + 1) = n + 1 + i by omega] at z
      exact z) fun acc h j => fin acc h (by rw [List.length_cons, show n + (ds.length + 1) = n + 1 + ds.length by omega]; exact j)
    refine ev_bind (ev_quiet (w.mono fun c h1 w => ?_))
    cases c with
    | false => exact nxt _ _ w
    | true => exact ev_bind (ev_quiet (Ev.mono w fun y h2 ⟨k, w⟩ => ev_ifR (decide_eq_true k) (nxt _ _ w)))
end
/-! ### heaps -/
section
variable {h : Hm} {l k : Nat} {o : O}
theorem put_eq (e : k = l) : (h.put l o).g k = some o := by unfold Hm.put; simp [e]
theorem put_ne (e : k ≠ l) : (h.put l o).g k = h.g k := by unfold Hm.put; simp [e]
theorem new_eq (e : k = h.n) : (h.new o).g k = some o := by unfold Hm.new; simp [e]
theorem new_ne (e : k ≠ h.n) : (h.new o).g k = h.g k := by unfold Hm.new; simp [e]
theorem put_put {o' : O} : (h.put l o).put l o' = h.put l o' := by
  unfold Hm.put
  simp only [Hm.mk.injEq, true_and]
  funext k
  by_cases e : k = l <;> simp [e]
theorem put_n : (h.put l o).n = h.n := rfl
theorem new_n : (h.new o).n = h.n + 1 := rfl
end
/-- what stood ahead, but at S, is as it was -/
structure Fr (S : List Nat) (h h' : Hm) : Prop where
  n : h.n ≤ h'.n
  g : ∀ l, l < h.n → l ∉ S → h'.g l = h.g l
theorem Fr.refl (S : List Nat) (h : Hm) : Fr S h h := ⟨Nat.le_refl _, fun _ _ _ => rfl⟩
theorem Fr.trans {S : List Nat} {h h1 h2 : Hm} (a : Fr S h h1) (b : Fr S h1 h2) : Fr S h h2 := ⟨Nat.le_trans a.n b.n, fun l k1 k2 => (b.g l (Nat.lt_of_lt_of_le k1 a.n) k2).trans (a.g l k1 k2)⟩
theorem Fr.new {S : List Nat} {h h1 : Hm} (a : Fr S h h1) (o : O) : Fr S h (h1.new o) := ⟨Nat.le_succ_of_le a.n, fun l k1 k2 => (new_ne (Nat.ne_of_lt (Nat.lt_of_lt_of_le k1 a.n))).trans (a.g l k1 k2)⟩
theorem Fr.put {S : List Nat} {h h1 : Hm} (a : Fr S h h1) {l : Nat} (o : O) (k : l ∈ S ∨ h.n ≤ l) : Fr S h (h1.put l o) := ⟨a.n, fun m k1 k2 => (put_ne (fun e => by
  subst e
  rcases k with k | k
  · exact k2 k
  · omega)).trans (a.g m k1 k2)⟩
theorem Fr.after {S T : List Nat} {h h1 h2 : Hm} (a : Fr S h h1) (b : Fr T h1 h2) (k : ∀ l ∈ T, h.n ≤ l ∨ l ∈ S) : Fr S h h2 := ⟨Nat.le_trans a.n b.n, fun l k1 k2 => (b.g l (Nat.lt_of_lt_of_le k1 a.n) fun z => by
  rcases k l z with y | y
  · omega
  · exact k2 y).trans (a.g l k1 k2)⟩
theorem Fr.sub {S T : List Nat} {h h1 : Hm} (a : Fr S h h1) (k : ∀ l ∈ S, l < h.n → l ∈ T) : Fr T h h1 := ⟨a.n, fun l k1 k2 => a.g l k1 fun z => k2 (k l z k1)⟩
theorem nth_in {α : Type} {xs : List α} {z : Int} (k0 : 0 ≤ z) (k1 : z < xs.length) : nth xs z = some (xs[z.toNat]'(by omega)) := by
  unfold nth ixI
  rw [if_pos k0, if_pos k1]
  show xs[z.toNat]? = _
  rw [List.getElem?_eq_getElem (by omega)]
theorem ixI_at {n : Nat} {z : Int} (k0 : 0 ≤ z) (k1 : z < n) : ixI n z = some z.toNat := by
  unfold ixI
  rw [if_pos k0, if_pos k1]
theorem ints_at {lo : Int} {n i : Nat} {d : D} (e : (Mo.intsFrom lo n)[i]? = some d) : d = .int (lo + i) ∧ i < n := by
  unfold Mo.intsFrom at e
  rw [List.getElem?_map] at e
  obtain ⟨j, e1, e2⟩ := Option.map_eq_some_iff.mp e
  have k := (List.getElem?_eq_some_iff.mp e1).1
  rw [List.length_range] at k
  rw [List.getElem?_range k] at e1
  cases e1
  exact ⟨e2.symm, k⟩
theorem ints_len {lo : Int} {n : Nat} : (Mo.intsFrom lo n).length = n := by rw [Mo.intsFrom, List.length_map, List.length_range]
theorem take_snoc {α : Type} {xs : List α} {i : Nat} (k : i < xs.length) : xs.take i ++ [xs[i]] = xs.take (i + 1) := by
  rw [List.take_succ, List.getElem?_eq_getElem k]
  rfl
theorem ok_seq {h : Hm} {l : Nat} {xs : List D} (e : h.g l = some (.lst xs)) : decide (h.seq (.loc l) = some xs) = true := decide_eq_true (seq_loc e)
theorem cut_from {α : Type} {xs : List α} {i : Nat} (k : i ≤ xs.length) : cutL xs (some (i : Int)) none = xs.drop i := by
  unfold cutL sIx
  simp only
  rw [if_neg (by omega), show min (i : Int).toNat xs.length = i by omega]
  exact List.take_of_length_le (by rw [List.length_drop]; omega)
theorem cut_to {α : Type} {xs : List α} {i : Nat} : cutL xs none (some (i : Int)) = xs.take i := by
  unfold cutL sIx
  simp only
  rw [if_neg (by omega), Int.toNat_natCast, Nat.sub_zero, List.drop_zero]
  by_cases k : i ≤ xs.length
  · rw [Nat.min_eq_left k]
  · rw [Nat.min_eq_right (by omega), List.take_of_length_le (Nat.le_refl _), List.take_of_length_le (by omega)]
theorem cut_mid {α : Type} {xs : List α} {f m : Int} (k0 : 0 ≤ f) (k1 : 0 ≤ m) (k : f + m ≤ xs.length) : cutL xs (some f) (some (f + m)) = (xs.drop f.toNat).take m.toNat := by
  unfold cutL sIx
  simp only
  rw [if_neg (by omega), if_neg (by omega), show min f.toNat xs.length = f.toNat by omega, show min (f + m).toNat xs.length = f.toNat + m.toNat by omega, Nat.add_sub_cancel_left]
/-! ### data that leans on no heap -/
theorem datL_imp {f g : D → Option PyData} (k : ∀ x p, f x = some p → g x = some p) : ∀ {xs : List D} {ps : List PyData}, datL f xs = some ps → datL g xs = some ps
  | [], _, e => e
  | x :: xs, ps, e => by
    unfold datL at e ⊢
    cases e1 : f x with
    | none => simp only [e1] at e; cases e
    | some p =>
      cases e2 : datL f xs with
      | none => simp only [e1, e2] at e; cases e
      | some qs =>
        simp only [e1, e2] at e
        simp only [k x p e1, datL_imp k e2]
        exact e
theorem dat_imp {h h' : Hm} (k : ∀ l o, h.g l = some o → h'.g l = some o) : ∀ (n : Nat) (x : D) (p : PyData), dat n h x = some p → dat n h' x = some p
  | 0, _, _, e => nomatch e
  | n + 1, x, p, e => by
    cases x with
    | tup ds =>
      obtain ⟨ps, e1, e2⟩ := Option.map_eq_some_iff.mp (show (datL (dat n h) ds).map PyData.tuple = some p from e)
      exact Option.map_eq_some_iff.mpr ⟨ps, datL_imp (dat_imp k n) e1, e2⟩
    | kl ds =>
      obtain ⟨ps, e1, e2⟩ := Option.map_eq_some_iff.mp (show (datL (dat n h) ds).map PyData.list = some p from e)
      exact Option.map_eq_some_iff.mpr ⟨ps, datL_imp (dat_imp k n) e1, e2⟩
    | loc l =>
      unfold dat at e ⊢
      simp only at e ⊢
      cases e1 : h.g l with
      | none => rw [e1] at e; cases e
      | some o =>
        rw [e1] at e
        rw [k l o e1]
        cases o with
        | lst xs =>
          obtain ⟨ps, e1, e2⟩ := Option.map_eq_some_iff.mp (show (datL (dat n h) xs).map PyData.list = some p from e)
          exact Option.map_eq_some_iff.mpr ⟨ps, datL_imp (dat_imp k n) e1, e2⟩
        | _ => cases e
    | _ => exact e
theorem dat_start {n : Nat} {h : Hm} {x : D} {p : PyData} (e : dat n Hm.start x = some p) : dat n h x = some p := dat_imp (fun l o z => by cases (show (none : Option O) = some o from z)) n x p e
theorem dat_up {h : Hm} : ∀ (n : Nat) (x : D) (p : PyData), dat n h x = some p → dat (n + 1) h x = some p
  | 0, _, _, e => nomatch e
  | n + 1, x, p, e => by
    cases x with
    | tup ds =>
      obtain ⟨ps, e1, e2⟩ := Option.map_eq_some_iff.mp (show (datL (dat n h) ds).map PyData.tuple = some p from e)
      exact Option.map_eq_some_iff.mpr ⟨ps, datL_imp (dat_up n) e1, e2⟩
    | kl ds =>
      obtain ⟨ps, e1, e2⟩ := Option.map_eq_some_iff.mp (show (datL (dat n h) ds).map PyData.list = some p from e)
      exact Option.map_eq_some_iff.mpr ⟨ps, datL_imp (dat_up n) e1, e2⟩
    | loc l =>
      unfold dat at e ⊢
      simp only at e ⊢
      cases e1 : h.g l with
      | none => rw [e1] at e; cases e
      | some o =>
        rw [e1] at e
        cases o with
        | lst xs =>
          obtain ⟨ps, e1, e2⟩ := Option.map_eq_some_iff.mp (show (datL (dat n h) xs).map PyData.list = some p from e)
          exact Option.map_eq_some_iff.mpr ⟨ps, datL_imp (dat_up n) e1, e2⟩
        | _ => cases e
    | _ => exact e
theorem dat_ups {h : Hm} {n m : Nat} {x : D} {p : PyData} (k : n ≤ m) (e : dat n h x = some p) : dat m h x = some p := by
  obtain ⟨j, rfl⟩ := Nat.le.dest k
  induction j with
  | zero => exact e
  | succ j ih => exact dat_up _ _ _ (ih (Nat.le_add_right _ _))
theorem datL_ints {n : Nat} {h : Hm} : ∀ ns : List Int, datL (dat (n + 1) h) (ns.map D.int) = some (ns.map PyData.int)
  | [] => rfl
  | a :: l => by
    have ih := datL_ints (n := n) (h := h) l
    show (match dat (n + 1) h (.int a), datL (dat (n + 1) h) (l.map D.int) with | some p, some ps => some (p :: ps) | _, _ => none) = _
    rw [ih]
    rfl
/-- a small thing that leans on no heap -/
def Okw (x : D) : Prop := ∃ p, dat 9 Hm.start x = some p ∧ tame p = true ∧ p.bulk ≤ 200
theorem okw_list : ∀ {xs : List D}, (∀ x ∈ xs, Okw x) → ∃ ps, datL (dat 9 Hm.start) xs = some ps ∧ tameL ps = true ∧ PyData.bulkAll ps ≤ 201 * xs.length
  | [], _ => ⟨[], rfl, by simp only [tameL], by simp only [PyData.bulkAll]; omega⟩
  | x :: xs, k => by
    obtain ⟨p, a1, a2, a3⟩ := k x List.mem_cons_self
    obtain ⟨ps, b1, b2, b3⟩ := okw_list (xs := xs) fun y hy => k y (List.mem_cons_of_mem _ hy)
    refine ⟨p :: ps, by unfold datL; simp only [a1, b1], by simp only [tameL, a2, b2, Bool.and_self], ?_⟩
    simp only [PyData.bulkAll, List.length_cons]
    omega
theorem dat_lst {h : Hm} {l : Nat} {xs : List D} {ps : List PyData} (e : h.g l = some (.lst xs)) (k : datL (dat 9 Hm.start) xs = some ps) : dat DEP h (.loc l) = some (.list ps) := by
  show dat 12 h (.loc l) = _
  unfold dat
  simp only [e]
  exact Option.map_eq_some_iff.mpr ⟨ps, datL_imp (fun x p z => dat_ups (by decide) (dat_start z)) k, rfl⟩
theorem dat_okw {h : Hm} {x : D} {p : PyData} (k : dat 9 Hm.start x = some p) : dat DEP h x = some p := dat_ups (by decide) (dat_start k)
theorem tup_okw {h : Hm} {xs : List D} {ps : List PyData} (k : datL (dat 9 Hm.start) xs = some ps) : dat DEP h (.tup xs) = some (.tuple ps) := Option.map_eq_some_iff.mpr ⟨ps, datL_imp (fun x p z => dat_ups (by decide) (dat_start z)) k, rfl⟩
mutual
theorem eqv_of_tame : ∀ d : PyData, tame d = true → PyData.eqv d d = true
  | .none, _ => rfl
  | .bool b, _ => by simp [PyData.eqv]
  | .int i, _ => by simp [PyData.eqv]
  | .str x, _ => by simp [PyData.eqv]
  | .list xs, h => by rw [PyData.eqv]; exact eqvAll_of_tame xs (by simpa only [tame] using h)
  | .tuple xs, h => by rw [PyData.eqv]; exact eqvAll_of_tame xs (by simpa only [tame] using h)
  | .dict _, h => by simp only [tame] at h; cases h
theorem eqvAll_of_tame : ∀ xs : List PyData, tameL xs = true → PyData.eqvAll xs xs = true
  | [], _ => rfl
  | x :: xs, h => by
    have h' : tame x = true ∧ tameL xs = true := by simpa only [tameL, Bool.and_eq_true] using h
    rw [PyData.eqvAll, eqv_of_tame x h'.1, eqvAll_of_tame xs h'.2]
    rfl
end
/-- lists of the same small things are shown alike -/
theorem fits_list {xs : List D} (k : ∀ x ∈ xs, Okw x) (n : xs.length ≤ 400) : ∃ ps, datL (dat 9 Hm.start) xs = some ps ∧ fits (.list ps) = true := by
  obtain ⟨ps, b1, b2, b3⟩ := okw_list k
  refine ⟨ps, b1, ?_⟩
  unfold fits
  rw [show tame (.list ps) = true from by simp only [tame]; exact b2, Bool.true_and]
  have e : PyData.bulk (.list ps) = PyData.bulkAll ps := by simp only [PyData.bulk]
  rw [e]
  exact decide_eq_true (by omega)
end Mo
end
section
/-! What the defs that law_k19_parts_of_parts reaches do, as terms of M. -/
namespace Lw
open PySem Mo
def q_cells : Str := ⟨#[99, 101, 108, 108, 115]⟩
theorem ok_q_cells : PyData.strOk q_cells = true := by decide +kernel
def q_at : Str := ⟨#[97, 116]⟩
theorem ok_q_at : PyData.strOk q_at = true := by decide +kernel
def q_left : Str := ⟨#[108, 101, 102, 116]⟩
theorem ok_q_left : PyData.strOk q_left = true := by decide +kernel
def q_most_here : Str := ⟨#[109, 111, 115, 116, 95, 104, 101, 114, 101]⟩
theorem ok_q_most_here : PyData.strOk q_most_here = true := by decide +kernel
def q_all_owners : Str := ⟨#[97, 108, 108, 95, 111, 119, 110, 101, 114, 115]⟩
theorem ok_q_all_owners : PyData.strOk q_all_owners = true := by decide +kernel
def q_all_places : Str := ⟨#[97, 108, 108, 95, 112, 108, 97, 99, 101, 115]⟩
theorem ok_q_all_places : PyData.strOk q_all_places = true := by decide +kernel
def q_touched : Str := ⟨#[116, 111, 117, 99, 104, 101, 100]⟩
theorem ok_q_touched : PyData.strOk q_touched = true := by decide +kernel
def q_num : Str := ⟨#[110, 117, 109]⟩
theorem ok_q_num : PyData.strOk q_num = true := by decide +kernel
def q_room : Str := ⟨#[114, 111, 111, 109]⟩
theorem ok_q_room : PyData.strOk q_room = true := by decide +kernel
def q_make_room : Str := ⟨#[109, 97, 107, 101, 95, 114, 111, 111, 109]⟩
theorem ok_q_make_room : PyData.strOk q_make_room = true := by decide +kernel
def q_need_there : Str := ⟨#[110, 101, 101, 100, 95, 116, 104, 101, 114, 101]⟩
theorem ok_q_need_there : PyData.strOk q_need_there = true := by decide +kernel
def q_part_of : Str := ⟨#[112, 97, 114, 116, 95, 111, 102]⟩
theorem ok_q_part_of : PyData.strOk q_part_of = true := by decide +kernel
def q_touches : Str := ⟨#[116, 111, 117, 99, 104, 101, 115]⟩
theorem ok_q_touches : PyData.strOk q_touches = true := by decide +kernel
def q_size_of : Str := ⟨#[115, 105, 122, 101, 95, 111, 102]⟩
theorem ok_q_size_of : PyData.strOk q_size_of = true := by decide +kernel
def q_place_of : Str := ⟨#[112, 108, 97, 99, 101, 95, 111, 102]⟩
theorem ok_q_place_of : PyData.strOk q_place_of = true := by decide +kernel
def q_word_at : Str := ⟨#[119, 111, 114, 100, 95, 97, 116]⟩
theorem ok_q_word_at : PyData.strOk q_word_at = true := by decide +kernel
def q_proc : Str := ⟨#[112, 114, 111, 99]⟩
theorem ok_q_proc : PyData.strOk q_proc = true := by decide +kernel
def q_put_at : Str := ⟨#[112, 117, 116, 95, 97, 116]⟩
theorem ok_q_put_at : PyData.strOk q_put_at = true := by decide +kernel
def q_need_made : Str := ⟨#[110, 101, 101, 100, 95, 109, 97, 100, 101]⟩
theorem ok_q_need_made : PyData.strOk q_need_made = true := by decide +kernel
def q_places_of : Str := ⟨#[112, 108, 97, 99, 101, 115, 95, 111, 102]⟩
theorem ok_q_places_of : PyData.strOk q_places_of = true := by decide +kernel
/- _law_draws: 0 _law_script, 1 _law_cells, 2 _law_found, 3 _law_k, 4 _law_cell -/
/- is_whole: 0 thing, 1 least, 2 most -/
/- Rooms.__init__: 0 self, 1 most -/
/- _law_take: 0 _law_draw, 1 _law_many, 2 _law_added, 3 _law_number, 4 _law_found, 5 _law_at, 6 _law_cells -/
/- number_of: 0 word -/
/- Rooms.make_room: 0 self, 1 many, 2 owner, 3 size, 4 number -/
/- Rooms.need_there: 0 self, 1 word, 2 kind, 3 number, 4 start, 5 size -/
/- Rooms.part_of: 0 self, 1 word, 2 start, 3 many, 4 first, 5 size -/
/- _law_parts: 0 _law_draw, 1 _law_rooms, 2 _law_size, 3 _law_whole, 4 _law_found, 5 _law_turn, 6 _law_step, 7 _law_less, 8 _law_word, 9 _law_first, 10 _law_many -/
/- Rooms.touches: 0 self -/
/- Rooms.size_of: 0 self, 1 word -/
/- Rooms.place_of: 0 self, 1 word, 2 at, 3 step -/
/- Rooms.word_at: 0 self, 1 word, 2 at, 3 place -/
/- _law_told_right: 0 _law_rooms, 1 _law_parts_here, 2 _law_due, 3 _law_word, 4 _law_first, 5 _law_many, 6 _law_told, 7 _law_k -/
/- Rooms.put_at: 0 self, 1 word, 2 at, 3 other, 4 place -/
/- is_number: 0 thing -/
/- Rooms.need_made: 0 self, 1 number -/
/- Rooms.places_of: 0 self, 1 number, 2 places -/
/- law: 0 _law_script, 1 _law_draw, 2 _law_other, 3 _law_turn, 4 _law_rooms, 5 _law_size, 6 _law_parts_here, 7 _law_due, 8 _law_before, 9 _law_word, 10 _law_first, 11 _law_many, 12 _law_step, 13 _law_fresh -/
def l_draws_1 : MS := sExpr (eBM "list" mAppend (eV 2) (aCons (eDict [(eC (.str q_cells), eOp opAdd (eSl (eV 1) (oSome (eV 3)) oNone) (eSl (eV 1) oNone (oSome (eV 3)))), (eC (.str q_at), eOp opMul (eC (.int 89)) (eV 3)), (eC (.str q_left), eIf (tB (eOp opGe (eV 4) (eOp opPow (eC (.int 10)) (eC (.int 18))))) (eV 4) (eC (.int 0)))]) (aNil)))
def b_draws : MS := sSeq (sAsg (eIf (tB (eOp opNe (eV 0) (eLst (aNil)))) (eBi bList (aCons (eV 0) (aNil))) (eLst (aCons (eC (.int 0)) (aNil)))) (gN 1))
  (sSeq (sAsg (eLst (aNil)) (gN 2))
  (sSeq (sFor (iEnum (eSl (eV 1) oNone (oSome (eC (.int 6))))) (gT 2 [gN 3, gN 4]) l_draws_1)
  (sRet (eV 2))))
def f_draws : Fn := fnOf 5 b_draws
theorem u_draws {E : XE} {Q : D → Hm → Prop} {h : Hm} {d0 : D} (w : EvS E (b_draws [some d0, none, none, none, none] h) (poF Q)) : Ev E (f_draws [d0] h) Q := ev_fn w
def b_is_whole : MS := sRet (eAnd (eBi (bIsi "int") (aCons (eV 0) (aCons (eC (.ty "int")) aNil))) (eAnd (eNot (eBi (bIsi "bool") (aCons (eV 0) (aCons (eC (.ty "bool")) aNil)))) (eChain opLe opLe (eV 1) (eV 0) (eV 2))))
def f_is_whole : Fn := fnOf 3 b_is_whole
theorem u_is_whole {E : XE} {Q : D → Hm → Prop} {h : Hm} {d0 d1 d2 : D} (w : EvS E (b_is_whole [some d0, some d1, some d2] h) (poF Q)) : Ev E (f_is_whole [d0, d1, d2] h) Q := ev_fn w
def b_Rooms_init : MS := sSeq (sIf (tNot (tB (eCall (callP 1 1 (fun ds es => ds ++ (([.int 0].drop 0).take 1 ++ ((es.drop 0).take 1))) f_is_whole) (aCons (eV 1) (aNil)) (aCons (eC (.int 1000)) (aNil))))) (sBad) (sNext))
  (sSeq (sFld (eV 0) [0] q_most_here (eV 1))
  (sAsg (eTup (aCons (eLst (aNil)) (aCons (eLst (aNil)) (aCons (eLst (aNil)) (aNil))))) (gT 3 [gFld (eV 0) [0] q_all_owners, gFld (eV 0) [0] q_all_places, gFld (eV 0) [0] q_touched])))
def f_Rooms_init : Fn := fnOf 2 b_Rooms_init
theorem u_Rooms_init {E : XE} {Q : D → Hm → Prop} {h : Hm} {d0 d1 : D} (w : EvS E (b_Rooms_init [some d0, some d1] h) (poF Q)) : Ev E (f_Rooms_init [d0, d1] h) Q := ev_fn w
def b_take : MS := sSeq (sDPut (eV 0) (eC (.str q_at)) (eOp opAdd (eOp opDGet (eV 0) (eC (.str q_at))) (eC (.int 1))))
  (sSeq (sIf (tB (eOp opGt (eOp opDGet (eV 0) (eC (.str q_left))) (eC (.int 0)))) (sSeq (sAsg (eOp opMod (eOp opDGet (eV 0) (eC (.str q_left))) (eV 1)) (gN 4))
  (sSeq (sDPut (eV 0) (eC (.str q_left)) (eOp opFDiv (eOp opDGet (eV 0) (eC (.str q_left))) (eV 1)))
  (sRet (eV 4)))) (sNext))
  (sSeq (sPar [5, 6] (aCons (eOp opDGet (eV 0) (eC (.str q_at))) (aCons (eOp opDGet (eV 0) (eC (.str q_cells))) (aNil))))
  (sSeq (sAsg (eOp opAdd (eOp opAdd (eOp opMul (eOp opMul (eC (.int 7907)) (eV 5)) (eV 5)) (eOp opMul (eC (.int 104723)) (eV 5))) (eC (.int 11))) (gN 2))
  (sSeq (sAsg (eOp opAdd (eOp opMod (eOp opIx (eV 6) (eOp opMod (eV 5) (eBi bLen (aCons (eV 6) (aNil))))) (eC (.int 2147483629))) (eV 2)) (gN 3))
  (sSeq (sAsg (eOp opMod (eOp opPow (eV 3) (eC (.int 5))) (eC (.int 2147483647))) (gN 3))
  (sRet (eOp opMod (eOp opFDiv (eOp opMod (eOp opMul (eV 3) (eC (.int 48271))) (eC (.int 2147483629))) (eC (.int 7))) (eV 1))))))))
def f_take : Fn := fnOf 7 b_take
theorem u_take {E : XE} {Q : D → Hm → Prop} {h : Hm} {d0 d1 : D} (w : EvS E (b_take [some d0, some d1, none, none, none, none, none] h) (poF Q)) : Ev E (f_take [d0, d1] h) Q := ev_fn w
def b_number_of : MS := sSeq (sIf (tB (eOp opNe (eOp opIx (eV 0) (eC (.int 0))) (eC (.str q_num)))) (sBad) (sNext))
  (sRet (eOp opIx (eV 0) (eC (.int 1))))
def f_number_of : Fn := fnOf 1 b_number_of
theorem u_number_of {E : XE} {Q : D → Hm → Prop} {h : Hm} {d0 : D} (w : EvS E (b_number_of [some d0] h) (poF Q)) : Ev E (f_number_of [d0] h) Q := ev_fn w
def b_Rooms_make_room : MS := sSeq (sAsg (eCall (callP 1 0 (fun ds _ => ds) f_number_of) (aCons (eV 1) (aNil)) (aNil)) (gN 3))
  (sSeq (sIf (tNot (tB (eChain opLe opLe (eC (.int 0)) (eV 3) (eC (.int 64))))) (sBad) (sNext))
  (sSeq (sAsg (eBi bLen (aCons (eFld (eV 0) [0] q_all_owners) (aNil))) (gN 4))
  (sSeq (sIf (tB (eOp opGe (eV 4) (eFld (eV 0) [0] q_most_here))) (sBad) (sNext))
  (sSeq (sExpr (eBM "list" mAppend (eFld (eV 0) [0] q_all_owners) (aCons (eV 2) (aNil))))
  (sSeq (sExpr (eBM "list" mAppend (eFld (eV 0) [0] q_all_places) (aCons (eOp opMul (eLst (aCons (eC (.tup [.str q_num, .int 0])) (aNil))) (eV 3)) (aNil))))
  (sSeq (sExpr (eBM "list" mAppend (eFld (eV 0) [0] q_touched) (aCons (eV 4) (aNil))))
  (sRet (eTup (aCons (eC (.str q_room)) (aCons (eV 4) (aCons (eC (.int 0)) (aCons (eV 3) (aNil)))))))))))))
def f_Rooms_make_room : Fn := fnOf 5 b_Rooms_make_room
theorem u_Rooms_make_room {E : XE} {Q : D → Hm → Prop} {h : Hm} {d0 d1 d2 : D} (w : EvS E (b_Rooms_make_room [some d0, some d1, some d2, none, none] h) (poF Q)) : Ev E (f_Rooms_make_room [d0, d1, d2] h) Q := ev_fn w
def b_Rooms_need_there : MS := sSeq (sAsg (eV 1) (gT 4 [gN 2, gN 3, gN 4, gN 5]))
  (sSeq (sIf (tOr (tB (eOp opGe (eV 3) (eBi bLen (aCons (eFld (eV 0) [0] q_all_places) (aNil))))) (tB (eUn opIsN (eOp opIx (eFld (eV 0) [0] q_all_places) (eV 3))))) (sBad) (sNext))
  (sIf (tB (eOp opGt (eOp opAdd (eV 4) (eV 5)) (eBi bLen (aCons (eOp opIx (eFld (eV 0) [0] q_all_places) (eV 3)) (aNil))))) (sBad) (sNext)))
def f_Rooms_need_there : Fn := fnOf 6 b_Rooms_need_there
theorem u_Rooms_need_there {E : XE} {Q : D → Hm → Prop} {h : Hm} {d0 d1 : D} (w : EvS E (b_Rooms_need_there [some d0, some d1, none, none, none, none] h) (poF Q)) : Ev E (f_Rooms_need_there [d0, d1] h) Q := ev_fn w
def b_Rooms_part_of : MS := sSeq (sIf (tB (eOp opNe (eOp opIx (eV 1) (eC (.int 0))) (eC (.str q_room)))) (sBad) (sNext))
  (sSeq (sPar [4, 5] (aCons (eCall (callP 1 0 (fun ds _ => ds) f_number_of) (aCons (eV 2) (aNil)) (aNil)) (aCons (eCall (callP 1 0 (fun ds _ => ds) f_number_of) (aCons (eV 3) (aNil)) (aNil)) (aNil))))
  (sSeq (sExpr (eMeth (eV 0) q_need_there [(0, callP 2 0 (fun ds _ => ds) f_Rooms_need_there)] (aCons (eV 1) (aNil)) (aNil)))
  (sSeq (sIf (tOr (tB (eOp opLt (eV 4) (eC (.int 0)))) (tOr (tB (eOp opLt (eV 5) (eC (.int 0)))) (tB (eOp opGt (eOp opAdd (eV 4) (eV 5)) (eOp opIx (eV 1) (eC (.int 3))))))) (sBad) (sNext))
  (sRet (eTup (aCons (eC (.str q_room)) (aCons (eOp opIx (eV 1) (eC (.int 1))) (aCons (eOp opAdd (eOp opIx (eV 1) (eC (.int 2))) (eV 4)) (aCons (eV 5) (aNil))))))))))
def f_Rooms_part_of : Fn := fnOf 6 b_Rooms_part_of
theorem u_Rooms_part_of {E : XE} {Q : D → Hm → Prop} {h : Hm} {d0 d1 d2 d3 : D} (w : EvS E (b_Rooms_part_of [some d0, some d1, some d2, some d3, none, none] h) (poF Q)) : Ev E (f_Rooms_part_of [d0, d1, d2, d3] h) Q := ev_fn w
def l_parts_1 : MS := sSeq (sAsg (eOp opIx (eV 4) (eCall (callP 2 0 (fun ds _ => ds) f_take) (aCons (eV 0) (aCons (eBi bLen (aCons (eV 4) (aNil))) (aNil))) (aNil))) (gT 3 [gN 8, gN 9, gN 10]))
  (sSeq (sAsg (eCall (callP 2 0 (fun ds _ => ds) f_take) (aCons (eV 0) (aCons (eOp opAdd (eV 10) (eC (.int 1))) (aNil))) (aNil)) (gN 6))
  (sSeq (sAsg (eOp opIx (eLst (aCons (eOp opSub (eV 10) (eV 6)) (aCons (eCall (callP 2 0 (fun ds _ => ds) f_take) (aCons (eV 0) (aCons (eOp opAdd (eOp opSub (eV 10) (eV 6)) (eC (.int 1))) (aNil))) (aNil)) (aCons (eC (.int 0)) (aNil))))) (eCall (callP 2 0 (fun ds _ => ds) f_take) (aCons (eV 0) (aCons (eC (.int 3)) (aNil))) (aNil))) (gN 7))
  (sExpr (eBM "list" mAppend (eV 4) (aCons (eTup (aCons (eMeth (eV 1) q_part_of [(0, callP 4 0 (fun ds _ => ds) f_Rooms_part_of)] (aCons (eV 8) (aCons (eTup (aCons (eC (.str q_num)) (aCons (eV 6) (aNil)))) (aCons (eTup (aCons (eC (.str q_num)) (aCons (eV 7) (aNil)))) (aNil)))) (aNil)) (aCons (eOp opAdd (eV 9) (eV 6)) (aCons (eV 7) (aNil))))) (aNil))))))
def b_parts : MS := sSeq (sAsg (eMeth (eV 1) q_make_room [(0, callP 3 0 (fun ds _ => ds) f_Rooms_make_room)] (aCons (eTup (aCons (eC (.str q_num)) (aCons (eV 2) (aNil)))) (aCons (eC (.int 3)) (aNil))) (aNil)) (gN 3))
  (sSeq (sAsg (eLst (aCons (eTup (aCons (eV 3) (aCons (eC (.int 0)) (aCons (eV 2) (aNil))))) (aNil))) (gN 4))
  (sSeq (sFor (iRng (aCons (eCall (callP 2 0 (fun ds _ => ds) f_take) (aCons (eV 0) (aCons (eC (.int 12)) (aNil))) (aNil)) (aNil))) (gN 5) l_parts_1)
  (sRet (eV 4))))
def f_parts : Fn := fnOf 11 b_parts
theorem u_parts {E : XE} {Q : D → Hm → Prop} {h : Hm} {d0 d1 d2 : D} (w : EvS E (b_parts [some d0, some d1, some d2, none, none, none, none, none, none, none, none] h) (poF Q)) : Ev E (f_parts [d0, d1, d2] h) Q := ev_fn w
def b_Rooms_touches : MS := sRet (eBi bTuple (aCons (eFld (eV 0) [0] q_touched) (aNil)))
def f_Rooms_touches : Fn := fnOf 1 b_Rooms_touches
theorem u_Rooms_touches {E : XE} {Q : D → Hm → Prop} {h : Hm} {d0 : D} (w : EvS E (b_Rooms_touches [some d0] h) (poF Q)) : Ev E (f_Rooms_touches [d0] h) Q := ev_fn w
def b_Rooms_size_of : MS := sSeq (sIf (tB (eOp opNe (eOp opIx (eV 1) (eC (.int 0))) (eC (.str q_room)))) (sBad) (sNext))
  (sSeq (sExpr (eMeth (eV 0) q_need_there [(0, callP 2 0 (fun ds _ => ds) f_Rooms_need_there)] (aCons (eV 1) (aNil)) (aNil)))
  (sRet (eTup (aCons (eC (.str q_num)) (aCons (eOp opIx (eV 1) (eC (.int 3))) (aNil))))))
def f_Rooms_size_of : Fn := fnOf 2 b_Rooms_size_of
theorem u_Rooms_size_of {E : XE} {Q : D → Hm → Prop} {h : Hm} {d0 d1 : D} (w : EvS E (b_Rooms_size_of [some d0, some d1] h) (poF Q)) : Ev E (f_Rooms_size_of [d0, d1] h) Q := ev_fn w
def b_Rooms_place_of : MS := sSeq (sIf (tB (eOp opNe (eOp opIx (eV 1) (eC (.int 0))) (eC (.str q_room)))) (sBad) (sNext))
  (sSeq (sAsg (eCall (callP 1 0 (fun ds _ => ds) f_number_of) (aCons (eV 2) (aNil)) (aNil)) (gN 3))
  (sSeq (sExpr (eMeth (eV 0) q_need_there [(0, callP 2 0 (fun ds _ => ds) f_Rooms_need_there)] (aCons (eV 1) (aNil)) (aNil)))
  (sSeq (sIf (tNot (tB (eChain opLe opLt (eC (.int 0)) (eV 3) (eOp opIx (eV 1) (eC (.int 3)))))) (sBad) (sNext))
  (sRet (eOp opAdd (eOp opIx (eV 1) (eC (.int 2))) (eV 3))))))
def f_Rooms_place_of : Fn := fnOf 4 b_Rooms_place_of
theorem u_Rooms_place_of {E : XE} {Q : D → Hm → Prop} {h : Hm} {d0 d1 d2 : D} (w : EvS E (b_Rooms_place_of [some d0, some d1, some d2, none] h) (poF Q)) : Ev E (f_Rooms_place_of [d0, d1, d2] h) Q := ev_fn w
def b_Rooms_word_at : MS := sSeq (sAsg (eMeth (eV 0) q_place_of [(0, callP 3 0 (fun ds _ => ds) f_Rooms_place_of)] (aCons (eV 1) (aCons (eV 2) (aNil))) (aNil)) (gN 3))
  (sSeq (sExpr (eBM "list" mAppend (eFld (eV 0) [0] q_touched) (aCons (eOp opIx (eV 1) (eC (.int 1))) (aNil))))
  (sRet (eOp opIx (eOp opIx (eFld (eV 0) [0] q_all_places) (eOp opIx (eV 1) (eC (.int 1)))) (eV 3))))
def f_Rooms_word_at : Fn := fnOf 4 b_Rooms_word_at
theorem u_Rooms_word_at {E : XE} {Q : D → Hm → Prop} {h : Hm} {d0 d1 d2 : D} (w : EvS E (b_Rooms_word_at [some d0, some d1, some d2, none] h) (poF Q)) : Ev E (f_Rooms_word_at [d0, d1, d2] h) Q := ev_fn w
def c_told_right_1 : ME := eMeth (eV 0) q_word_at [(0, callP 3 0 (fun ds _ => ds) f_Rooms_word_at)] (aCons (eV 3) (aCons (eTup (aCons (eC (.str q_num)) (aCons (eV 7) (aNil)))) (aNil))) (aNil)
def l_told_right_2 : MS := sSeq (sIf (tB (eOp opNe (eMeth (eV 0) q_size_of [(0, callP 2 0 (fun ds _ => ds) f_Rooms_size_of)] (aCons (eV 3) (aNil)) (aNil)) (eTup (aCons (eC (.str q_num)) (aCons (eV 5) (aNil)))))) (sRet (eC (.bl false))) (sNext))
  (sSeq (sAsg (eComp (iRng (aCons (eV 5) (aNil))) [7] true [7] (tYes) c_told_right_1) (gN 6))
  (sIf (tB (eOp opNe (eBi bRepr (aCons (eV 6) (aNil))) (eBi bRepr (aCons (eSl (eV 2) (oSome (eV 4)) (oSome (eOp opAdd (eV 4) (eV 5)))) (aNil))))) (sRet (eC (.bl false))) (sNext)))
def b_told_right : MS := sSeq (sFor (iSeq (eV 1)) (gT 3 [gN 3, gN 4, gN 5]) l_told_right_2)
  (sRet (eC (.bl true)))
def f_told_right : Fn := fnOf 8 b_told_right
theorem u_told_right {E : XE} {Q : D → Hm → Prop} {h : Hm} {d0 d1 d2 : D} (w : EvS E (b_told_right [some d0, some d1, some d2, none, none, none, none, none] h) (poF Q)) : Ev E (f_told_right [d0, d1, d2] h) Q := ev_fn w
def b_Rooms_put_at : MS := sSeq (sAsg (eMeth (eV 0) q_place_of [(0, callP 3 0 (fun ds _ => ds) f_Rooms_place_of)] (aCons (eV 1) (aCons (eV 2) (aNil))) (aNil)) (gN 4))
  (sSeq (sExpr (eBM "list" mAppend (eFld (eV 0) [0] q_touched) (aCons (eOp opIx (eV 1) (eC (.int 1))) (aNil))))
  (sAsg (eV 3) (gIx (eOp opIx (eFld (eV 0) [0] q_all_places) (eOp opIx (eV 1) (eC (.int 1)))) (eV 4))))
def f_Rooms_put_at : Fn := fnOf 5 b_Rooms_put_at
theorem u_Rooms_put_at {E : XE} {Q : D → Hm → Prop} {h : Hm} {d0 d1 d2 d3 : D} (w : EvS E (b_Rooms_put_at [some d0, some d1, some d2, some d3, none] h) (poF Q)) : Ev E (f_Rooms_put_at [d0, d1, d2, d3] h) Q := ev_fn w
def b_is_number : MS := sRet (eAnd (eBi (bIsi "int") (aCons (eV 0) (aCons (eC (.ty "int")) aNil))) (eNot (eBi (bIsi "bool") (aCons (eV 0) (aCons (eC (.ty "bool")) aNil)))))
def f_is_number : Fn := fnOf 1 b_is_number
theorem u_is_number {E : XE} {Q : D → Hm → Prop} {h : Hm} {d0 : D} (w : EvS E (b_is_number [some d0] h) (poF Q)) : Ev E (f_is_number [d0] h) Q := ev_fn w
def b_Rooms_need_made : MS := sIf (tOr (tNot (tB (eCall (callP 1 0 (fun ds _ => ds) f_is_number) (aCons (eV 1) (aNil)) (aNil)))) (tNot (tB (eChain opLe opLt (eC (.int 0)) (eV 1) (eBi bLen (aCons (eFld (eV 0) [0] q_all_owners) (aNil))))))) (sBad) (sNext)
def f_Rooms_need_made : Fn := fnOf 2 b_Rooms_need_made
theorem u_Rooms_need_made {E : XE} {Q : D → Hm → Prop} {h : Hm} {d0 d1 : D} (w : EvS E (b_Rooms_need_made [some d0, some d1] h) (poF Q)) : Ev E (f_Rooms_need_made [d0, d1] h) Q := ev_fn w
def b_Rooms_places_of : MS := sSeq (sExpr (eMeth (eV 0) q_need_made [(0, callP 2 0 (fun ds _ => ds) f_Rooms_need_made)] (aCons (eV 1) (aNil)) (aNil)))
  (sSeq (sAsg (eOp opIx (eFld (eV 0) [0] q_all_places) (eV 1)) (gN 2))
  (sRet (eIf (tB (eUn opIsN (eV 2))) (eLst (aNil)) (eBi bList (aCons (eV 2) (aNil))))))
def f_Rooms_places_of : Fn := fnOf 3 b_Rooms_places_of
theorem u_Rooms_places_of {E : XE} {Q : D → Hm → Prop} {h : Hm} {d0 d1 : D} (w : EvS E (b_Rooms_places_of [some d0, some d1, none] h) (poF Q)) : Ev E (f_Rooms_places_of [d0, d1] h) Q := ev_fn w
def l_law_1 : MS := sSeq (sAsg (eOp opIx (eV 6) (eCall (callP 2 0 (fun ds _ => ds) f_take) (aCons (eV 1) (aCons (eBi bLen (aCons (eV 6) (aNil))) (aNil))) (aNil))) (gT 3 [gN 9, gN 10, gN 11]))
  (sSeq (sAsg (eBi bLen (aCons (eMeth (eV 4) q_touches [(0, callP 1 0 (fun ds _ => ds) f_Rooms_touches)] (aNil) (aNil)) (aNil))) (gN 8))
  (sSeq (sIf (tB (eOp opGt (eV 11) (eC (.int 0)))) (sSeq (sAsg (eCall (callP 2 0 (fun ds _ => ds) f_take) (aCons (eV 1) (aCons (eV 11) (aNil))) (aNil)) (gN 12))
  (sSeq (sAsg (eOp opIx (eLst (aCons (eTup (aCons (eC (.str q_num)) (aCons (eOp opAdd (eC (.int 9)) (eV 3)) (aNil)))) (aCons (eTup (aCons (eC (.str q_proc)) (aCons (eV 3) (aCons (eC (.int 0)) (aNil))))) (aCons (eOp opIx (eOp opIx (eV 6) (eC (.int 0))) (eC (.int 0))) (aNil))))) (eCall (callP 2 0 (fun ds _ => ds) f_take) (aCons (eV 1) (aCons (eC (.int 3)) (aNil))) (aNil))) (gN 13))
  (sSeq (sIf (tOr (tB (eUn opNotN (eMeth (eV 4) q_put_at [(0, callP 4 0 (fun ds _ => ds) f_Rooms_put_at)] (aCons (eV 9) (aCons (eTup (aCons (eC (.str q_num)) (aCons (eV 12) (aNil)))) (aCons (eV 13) (aNil)))) (aNil)))) (tB (eOp opNe (eBi bLen (aCons (eMeth (eV 4) q_touches [(0, callP 1 0 (fun ds _ => ds) f_Rooms_touches)] (aNil) (aNil)) (aNil))) (eOp opAdd (eV 8) (eC (.int 1)))))) (sRet (eC (.bl false))) (sNext))
  (sAsg (eV 13) (gIx (eV 7) (eOp opAdd (eV 10) (eV 12))))))) (sNext))
  (sIf (tOr (tNot (tB (eCall (callP 3 0 (fun ds _ => ds) f_told_right) (aCons (eV 4) (aCons (eV 6) (aCons (eV 7) (aNil)))) (aNil)))) (tB (eOp opNe (eBi bRepr (aCons (eMeth (eV 4) q_places_of [(0, callP 2 0 (fun ds _ => ds) f_Rooms_places_of)] (aCons (eC (.int 1)) (aNil)) (aNil)) (aNil))) (eBi bRepr (aCons (eV 7) (aNil)))))) (sRet (eC (.bl false))) (sNext))))
def l_law_2 : MS := sSeq (sPar [4, 5] (aCons (eCall (mkNew 0 (callP 1 1 (fun ds es => ds ++ ((es.drop 0).take 1)) f_Rooms_init)) (aNil) (aCons (eC (.int 3)) (aNil))) (aCons (eOp opIx (eLst (aCons (eC (.int 1)) (aCons (eC (.int 2)) (aCons (eC (.int 5)) (aCons (eC (.int 17)) (aCons (eC (.int 63)) (aCons (eC (.int 64)) (aNil)))))))) (eCall (callP 2 0 (fun ds _ => ds) f_take) (aCons (eV 1) (aCons (eC (.int 6)) (aNil))) (aNil))) (aNil))))
  (sSeq (sAsg (eMeth (eV 4) q_make_room [(0, callP 3 0 (fun ds _ => ds) f_Rooms_make_room)] (aCons (eTup (aCons (eC (.str q_num)) (aCons (eC (.int 4)) (aNil)))) (aCons (eC (.int 3)) (aNil))) (aNil)) (gN 2))
  (sSeq (sPar [6, 7] (aCons (eCall (callP 3 0 (fun ds _ => ds) f_parts) (aCons (eV 1) (aCons (eV 4) (aCons (eV 5) (aNil)))) (aNil)) (aCons (eOp opMul (eLst (aCons (eTup (aCons (eC (.str q_num)) (aCons (eC (.int 0)) (aNil)))) (aNil))) (eV 5)) (aNil))))
  (sSeq (sIf (tOr (tB (eOp opNe (eMeth (eV 4) q_touches [(0, callP 1 0 (fun ds _ => ds) f_Rooms_touches)] (aNil) (aNil)) (eTup (aCons (eC (.int 0)) (aCons (eC (.int 1)) (aNil)))))) (tNot (tB (eCall (callP 3 0 (fun ds _ => ds) f_told_right) (aCons (eV 4) (aCons (eV 6) (aCons (eV 7) (aNil)))) (aNil))))) (sRet (eC (.bl false))) (sNext))
  (sSeq (sFor (iRng (aCons (eC (.int 8)) (aNil))) (gN 3) l_law_1)
  (sIf (tOr (tB (eOp opNe (eMeth (eV 4) q_places_of [(0, callP 2 0 (fun ds _ => ds) f_Rooms_places_of)] (aCons (eC (.int 0)) (aNil)) (aNil)) (eOp opMul (eLst (aCons (eTup (aCons (eC (.str q_num)) (aCons (eC (.int 0)) (aNil)))) (aNil))) (eC (.int 4))))) (tB (eOp opNe (eMeth (eV 4) q_size_of [(0, callP 2 0 (fun ds _ => ds) f_Rooms_size_of)] (aCons (eV 2) (aNil)) (aNil)) (eTup (aCons (eC (.str q_num)) (aCons (eC (.int 4)) (aNil))))))) (sRet (eC (.bl false))) (sNext))))))
def b_law : MS := sSeq (sFor (iSeq (eCall (callP 1 0 (fun ds _ => ds) f_draws) (aCons (eV 0) (aNil)) (aNil))) (gN 1) l_law_2)
  (sRet (eC (.bl true)))
def f_law : Fn := fnOf 14 b_law
theorem u_law {E : XE} {Q : D → Hm → Prop} {h : Hm} {d0 : D} (w : EvS E (b_law [some d0, none, none, none, none, none, none, none, none, none, none, none, none, none] h) (poF Q)) : Ev E (f_law [d0] h) Q := ev_fn w
end Lw
end
section
local macro_rules | `(tactic| walk_at "mH") => `(tactic| (first | assumption | ((repeat (first | ((with_reducible refine Eq.trans (Mo.put_ne ?_) ?_); (focus (first | omega | (simp only [Mo.put_n, Mo.new_n]; omega)))) | ((with_reducible refine Eq.trans (Mo.new_ne ?_) ?_); (focus (first | omega | (simp only [Mo.put_n, Mo.new_n]; omega)))))); (first | assumption | ((with_reducible refine Eq.trans (Mo.new_eq ?_) ?_); (focus (first | exact rfl | omega | (simp only [Mo.put_n, Mo.new_n]; omega))); (exact rfl)) | ((with_reducible refine Eq.trans (Mo.put_eq ?_) ?_); (focus (first | exact rfl | omega | (simp only [Mo.put_n, Mo.new_n]; omega))); (exact rfl))))))
local macro_rules | `(tactic| walk_at "mA") => `(tactic| (first | omega | exact Nat.le_of_ble_eq_true rfl | (simp only [List.length_cons, List.length_nil, List.length_map, List.length_append]; omega) | (unfold Mo.SL; omega) | (simp only [List.length_cons, List.length_nil, List.length_append, List.length_map]; unfold Mo.SL; omega) | decide | assumption))
local macro_rules | `(tactic| walk_at "mL") => `(tactic| (first | exact rfl | decide +kernel))
local macro_rules | `(tactic| walk_at "mC") => `(tactic| (first | exact rfl | assumption | (simp only [Bool.not_eq_eq_eq_not, Bool.not_true, Bool.not_false, decide_eq_true_eq, decide_eq_false_iff_not]; omega) | (simp only [Bool.not_eq_eq_eq_not, Bool.not_true, Bool.not_false, decide_eq_true_eq, decide_eq_false_iff_not, List.length_map, List.length_cons, List.length_nil, List.length_append]; omega)))
local macro_rules | `(tactic| walk_at "m1") => `(tactic| (first | ((with_reducible apply Mo.ev_var); (· exact rfl)) | with_reducible refine Mo.ev_c ?_ | with_reducible refine Mo.ev_op ?_ | with_reducible refine Mo.ev_cons ?_ | with_reducible refine Mo.ev_nil ?_ | with_reducible refine Mo.es_seq ?_ | with_reducible refine Mo.es_asg ?_ | with_reducible refine Mo.es_expr ?_ | with_reducible refine Mo.es_ret ?_ | with_reducible refine Mo.es_retN ?_ | with_reducible refine Mo.es_if ?_ | with_reducible refine Mo.es_next ?_ | with_reducible refine Mo.es_par2 ?_ | with_reducible refine Mo.es_par3 ?_ | with_reducible refine Mo.es_break ?_ | with_reducible refine Mo.es_cont ?_ | with_reducible refine Mo.es_fld ?_ | with_reducible refine Mo.es_dputS ?_ | with_reducible refine Mo.es_for ?_ | with_reducible refine Mo.ev_op ?_ | with_reducible refine Mo.ev_un ?_ | with_reducible refine Mo.ev_cons ?_ | with_reducible refine Mo.ev_nil ?_ | with_reducible refine Mo.ev_c ?_ | with_reducible refine Mo.ev_tup ?_ | with_reducible refine Mo.ev_lst ?_ | with_reducible refine Mo.ev_eIf ?_ | with_reducible refine Mo.ev_and ?_ | with_reducible refine Mo.ev_or ?_ | with_reducible refine Mo.ev_not ?_ | with_reducible refine Mo.ev_chain ?_ | with_reducible refine Mo.ev_tB ?_ | with_reducible refine Mo.ev_tAnd ?_ | with_reducible refine Mo.ev_tOr ?_ | with_reducible refine Mo.ev_tNot ?_ | with_reducible refine Mo.ev_tYes ?_ | with_reducible refine Mo.ev_add ?_ | with_reducible refine Mo.ev_sub ?_ | with_reducible refine Mo.ev_neg ?_ | with_reducible refine Mo.ev_lt ?_ | with_reducible refine Mo.ev_le ?_ | with_reducible refine Mo.ev_gt ?_ | with_reducible refine Mo.ev_ge ?_ | with_reducible refine Mo.ev_eqI ?_ | with_reducible refine Mo.ev_neI ?_ | with_reducible refine Mo.ev_eqS ?_ | with_reducible refine Mo.ev_neS ?_ | with_reducible refine Mo.ev_isN ?_ | with_reducible refine Mo.ev_notN ?_ | with_reducible refine Mo.ev_oNone ?_ | with_reducible refine Mo.ev_oSome ?_ | with_reducible refine Mo.ev_sl ?_ | with_reducible refine Mo.ev_fld ?_ | with_reducible refine Mo.ev_call ?_ | with_reducible refine Mo.ev_meth ?_ | with_reducible refine Mo.ev_new ?_ | with_reducible refine Mo.ev_bi ?_ | with_reducible refine Mo.ev_lenT ?_ | with_reducible refine Mo.ev_lenK ?_ | with_reducible refine Mo.ev_listT ?_ | with_reducible refine Mo.ev_listK ?_ | with_reducible refine Mo.ev_tupT ?_ | with_reducible refine Mo.ev_tupK ?_ | with_reducible refine Mo.ev_bm ?_ | with_reducible refine Mo.ev_pnil ?_ | with_reducible refine Mo.ev_pcons ?_ | with_reducible refine Mo.ev_dict ?_ | with_reducible refine Mo.ev_gN ?_ | with_reducible refine Mo.ev_gnil ?_ | with_reducible refine Mo.ev_gcons ?_ | with_reducible refine Mo.ev_gIx ?_ | with_reducible refine Mo.ev_gFld ?_ | with_reducible refine Mo.ev_iSeq ?_ | with_reducible refine Mo.ev_rng1 ?_ | with_reducible refine Mo.ev_rng2 ?_ | with_reducible refine Mo.ev_enum ?_ | with_reducible refine Mo.ev_comp ?_ | with_reducible refine Mo.nb ?_ | with_reducible refine Mo.ni ?_ | with_reducible refine Mo.nn ?_ | with_reducible refine Mo.p2 ?_ | with_reducible refine Mo.p3 ?_ | with_reducible refine Mo.sqK ?_ | with_reducible refine Mo.itT ?_ | with_reducible refine Mo.itK ?_ | ((with_reducible apply Mo.ev_var); (· exact rfl)) | ((with_reducible apply Mo.ev_mod); (· walk_at "mA")) | ((with_reducible apply Mo.ev_fdiv); (· walk_at "mA")) | ((with_reducible apply Mo.ev_mul); (· walk_at "mA")) | ((with_reducible apply Mo.ev_pow); (· walk_at "mA")) | ((with_reducible apply Mo.ev_ixT); (· exact rfl)) | ((with_reducible apply Mo.ev_dgetS); (· walk_at "mH"); (· walk_at "mL")) | ((with_reducible apply Mo.ev_lenL); (· walk_at "mH")) | ((with_reducible apply Mo.ev_lenD); (· walk_at "mH")) | ((with_reducible apply Mo.ev_listL); (· walk_at "mH")) | ((with_reducible apply Mo.ev_tupL); (· walk_at "mH")) | ((with_reducible apply Mo.ev_append); (· walk_at "mH"); (· walk_at "mA")) | ((with_reducible apply Mo.tl); (· exact rfl)) | ((with_reducible apply Mo.sqL); (· walk_at "mH")) | ((with_reducible apply Mo.itL); (· walk_at "mH")) | ((with_reducible apply Mo.fl); (· walk_at "mH"); (· exact rfl); (· walk_at "mL")) | ((with_reducible apply Mo.sm); (· walk_at "mH"); (· exact rfl); (· walk_at "mL")) | ((with_reducible apply Mo.pf); (· walk_at "mH"); (· exact rfl); (· exact rfl)) | ((with_reducible apply Mo.dp); (· walk_at "mH"); (· exact rfl); (· walk_at "mA")) | ((with_reducible apply Mo.r1); (· walk_at "mA")) | ((with_reducible apply Mo.r2); (· walk_at "mA")) | ((with_reducible apply Mo.tyL); (· walk_at "mH")) | ((with_reducible apply Mo.tyDc); (· walk_at "mH")) | ((with_reducible apply Mo.ev_gT); (· exact rfl)) | ((with_reducible apply Mo.ev_callP); (· exact rfl); (· exact rfl)) | ((with_reducible apply Mo.kd); (· exact rfl); (· exact rfl); (· exact rfl)) | ((with_reducible apply Mo.ev_isi); (· exact rfl)) | ((with_reducible apply Mo.sel_t); (· walk_at "mC")) | ((with_reducible apply Mo.sel_f); (· walk_at "mC"))))
namespace Lw
open PySem Mo
theorem nth_mod {cs : List Int} {a : Int} (hc : cs ≠ []) (h0 : 0 ≤ a) : ∃ c, nth (cs.map D.int) (a % ((cs.map D.int).length : Int)) = some (.int c) := by
  rw [List.length_map]
  have hp : 0 < (cs.length : Int) := by
    cases cs with
    | nil => exact absurd rfl hc
    | cons c r => simp only [List.length_cons]; omega
  have k1 := Int.emod_nonneg a (Int.ne_of_gt hp)
  have k2 := Int.emod_lt_of_pos a hp
  refine ⟨cs[(a % (cs.length : Int)).toNat]'(by omega), ?_⟩
  unfold nth ixI
  rw [List.length_map, if_pos k1, if_pos k2]
  show (cs.map D.int)[(a % (cs.length : Int)).toNat]? = _
  rw [List.getElem?_map, List.getElem?_eq_getElem (by omega)]
  rfl
/-- the object of a draw -/
def dicO (lc : Nat) (a lf : Int) : O := .dic [(.inr q_cells, .loc lc), (.inr q_at, .int a), (.inr q_left, .int lf)]
theorem sq_lt {a : Int} (h0 : 0 ≤ a) (h1 : a < 1000000) : 0 ≤ 7907 * a ∧ 7907 * a < 7907000000 ∧ 0 ≤ 7907 * a * a ∧ 7907 * a * a < 7907000000000000 := by
  have e1 : 0 ≤ 7907 * a := by omega
  have e2 : 7907 * a < 7907000000 := by omega
  refine ⟨e1, e2, Int.mul_nonneg e1 h0, ?_⟩
  have := Int.mul_le_mul_of_nonneg_right (show 7907 * a ≤ 7907000000 from Int.le_of_lt e2) h0
  omega
theorem take_ok {E : XE} {Q : D → Hm → Prop} {h : Hm} {l lc : Nat} {a lf m : Int} {cs : List Int} (e1 : h.g l = some (dicO lc a lf)) (e2 : h.g lc = some (.lst (cs.map .int))) (hc : cs ≠ []) (hl : lc ≠ l) (h0 : 0 ≤ a) (h1 : a < 900000) (hm : 0 < m) (hm2 : m < 1073741824)
    (q : ∀ v lf' : Int, 0 ≤ v → v < m → Q (.int v) (h.put l (dicO lc (a + 1) lf'))) : Ev E (f_take [.loc l, .int m] h) Q := by
  unfold dicO at e1
  refine u_take ?_
  unfold b_take
  repeat (walk_at "m1")
  refine sel_of (fun c => ?_) (fun c => ?_)
  · repeat (walk_at "m1")
    rw [put_put]
    exact q _ _ (Int.emod_nonneg _ (by omega)) (Int.emod_lt_of_pos _ hm)
  · have p := sq_lt (a := a + 1) (by omega) (by omega)
    have hp : 0 < (cs.length : Int) := by
      cases cs with
      | nil => exact absurd rfl hc
      | cons c r => simp only [List.length_cons]; omega
    obtain ⟨c0, e3⟩ := nth_mod (a := a + 1) hc (by omega)
    repeat (walk_at "m1")
    refine ev_ixL (by walk_at "mH") e3 ?_
    have p3 := Int.emod_nonneg c0 (show (2147483629 : Int) ≠ 0 by omega)
    have p4 := Int.emod_lt_of_pos c0 (show (0 : Int) < 2147483629 by omega)
    repeat (walk_at "m1")
    exact q _ _ (Int.emod_nonneg _ (by omega)) (Int.emod_lt_of_pos _ hm)
end Lw
end
section
local macro_rules | `(tactic| walk_at "mH") => `(tactic| (first | assumption | ((repeat (first | ((with_reducible refine Eq.trans (Mo.put_ne ?_) ?_); (focus (first | omega | (simp only [Mo.put_n, Mo.new_n]; omega)))) | ((with_reducible refine Eq.trans (Mo.new_ne ?_) ?_); (focus (first | omega | (simp only [Mo.put_n, Mo.new_n]; omega)))))); (first | assumption | ((with_reducible refine Eq.trans (Mo.new_eq ?_) ?_); (focus (first | exact rfl | omega | (simp only [Mo.put_n, Mo.new_n]; omega))); (exact rfl)) | ((with_reducible refine Eq.trans (Mo.put_eq ?_) ?_); (focus (first | exact rfl | omega | (simp only [Mo.put_n, Mo.new_n]; omega))); (exact rfl))))))
local macro_rules | `(tactic| walk_at "mA") => `(tactic| (first | omega | exact Nat.le_of_ble_eq_true rfl | (simp only [List.length_cons, List.length_nil, List.length_map, List.length_append]; omega) | (unfold Mo.SL; omega) | (simp only [List.length_cons, List.length_nil, List.length_append, List.length_map]; unfold Mo.SL; omega) | decide | assumption))
local macro_rules | `(tactic| walk_at "mL") => `(tactic| (first | exact rfl | decide +kernel))
local macro_rules | `(tactic| walk_at "mC") => `(tactic| (first | exact rfl | assumption | (simp only [Bool.not_eq_eq_eq_not, Bool.not_true, Bool.not_false, decide_eq_true_eq, decide_eq_false_iff_not]; omega) | (simp only [Bool.not_eq_eq_eq_not, Bool.not_true, Bool.not_false, decide_eq_true_eq, decide_eq_false_iff_not, List.length_map, List.length_cons, List.length_nil, List.length_append]; omega)))
local macro_rules | `(tactic| walk_at "m1") => `(tactic| (first | ((with_reducible apply Mo.ev_var); (· exact rfl)) | with_reducible refine Mo.ev_c ?_ | with_reducible refine Mo.ev_op ?_ | with_reducible refine Mo.ev_cons ?_ | with_reducible refine Mo.ev_nil ?_ | with_reducible refine Mo.es_seq ?_ | with_reducible refine Mo.es_asg ?_ | with_reducible refine Mo.es_expr ?_ | with_reducible refine Mo.es_ret ?_ | with_reducible refine Mo.es_retN ?_ | with_reducible refine Mo.es_if ?_ | with_reducible refine Mo.es_next ?_ | with_reducible refine Mo.es_par2 ?_ | with_reducible refine Mo.es_par3 ?_ | with_reducible refine Mo.es_break ?_ | with_reducible refine Mo.es_cont ?_ | with_reducible refine Mo.es_fld ?_ | with_reducible refine Mo.es_dputS ?_ | with_reducible refine Mo.es_for ?_ | with_reducible refine Mo.ev_op ?_ | with_reducible refine Mo.ev_un ?_ | with_reducible refine Mo.ev_cons ?_ | with_reducible refine Mo.ev_nil ?_ | with_reducible refine Mo.ev_c ?_ | with_reducible refine Mo.ev_tup ?_ | with_reducible refine Mo.ev_lst ?_ | with_reducible refine Mo.ev_eIf ?_ | with_reducible refine Mo.ev_and ?_ | with_reducible refine Mo.ev_or ?_ | with_reducible refine Mo.ev_not ?_ | with_reducible refine Mo.ev_chain ?_ | with_reducible refine Mo.ev_tB ?_ | with_reducible refine Mo.ev_tAnd ?_ | with_reducible refine Mo.ev_tOr ?_ | with_reducible refine Mo.ev_tNot ?_ | with_reducible refine Mo.ev_tYes ?_ | with_reducible refine Mo.ev_add ?_ | with_reducible refine Mo.ev_sub ?_ | with_reducible refine Mo.ev_neg ?_ | with_reducible refine Mo.ev_lt ?_ | with_reducible refine Mo.ev_le ?_ | with_reducible refine Mo.ev_gt ?_ | with_reducible refine Mo.ev_ge ?_ | with_reducible refine Mo.ev_eqI ?_ | with_reducible refine Mo.ev_neI ?_ | with_reducible refine Mo.ev_eqS ?_ | with_reducible refine Mo.ev_neS ?_ | with_reducible refine Mo.ev_isN ?_ | with_reducible refine Mo.ev_notN ?_ | with_reducible refine Mo.ev_oNone ?_ | with_reducible refine Mo.ev_oSome ?_ | with_reducible refine Mo.ev_sl ?_ | with_reducible refine Mo.ev_fld ?_ | with_reducible refine Mo.ev_call ?_ | with_reducible refine Mo.ev_meth ?_ | with_reducible refine Mo.ev_new ?_ | with_reducible refine Mo.ev_bi ?_ | with_reducible refine Mo.ev_lenT ?_ | with_reducible refine Mo.ev_lenK ?_ | with_reducible refine Mo.ev_listT ?_ | with_reducible refine Mo.ev_listK ?_ | with_reducible refine Mo.ev_tupT ?_ | with_reducible refine Mo.ev_tupK ?_ | with_reducible refine Mo.ev_bm ?_ | with_reducible refine Mo.ev_pnil ?_ | with_reducible refine Mo.ev_pcons ?_ | with_reducible refine Mo.ev_dict ?_ | with_reducible refine Mo.ev_gN ?_ | with_reducible refine Mo.ev_gnil ?_ | with_reducible refine Mo.ev_gcons ?_ | with_reducible refine Mo.ev_gIx ?_ | with_reducible refine Mo.ev_gFld ?_ | with_reducible refine Mo.ev_iSeq ?_ | with_reducible refine Mo.ev_rng1 ?_ | with_reducible refine Mo.ev_rng2 ?_ | with_reducible refine Mo.ev_enum ?_ | with_reducible refine Mo.ev_comp ?_ | with_reducible refine Mo.nb ?_ | with_reducible refine Mo.ni ?_ | with_reducible refine Mo.nn ?_ | with_reducible refine Mo.p2 ?_ | with_reducible refine Mo.p3 ?_ | with_reducible refine Mo.sqK ?_ | with_reducible refine Mo.itT ?_ | with_reducible refine Mo.itK ?_ | ((with_reducible apply Mo.ev_var); (· exact rfl)) | ((with_reducible apply Mo.ev_mod); (· walk_at "mA")) | ((with_reducible apply Mo.ev_fdiv); (· walk_at "mA")) | ((with_reducible apply Mo.ev_mul); (· walk_at "mA")) | ((with_reducible apply Mo.ev_pow); (· walk_at "mA")) | ((with_reducible apply Mo.ev_ixT); (· exact rfl)) | ((with_reducible apply Mo.ev_dgetS); (· walk_at "mH"); (· walk_at "mL")) | ((with_reducible apply Mo.ev_lenL); (· walk_at "mH")) | ((with_reducible apply Mo.ev_lenD); (· walk_at "mH")) | ((with_reducible apply Mo.ev_listL); (· walk_at "mH")) | ((with_reducible apply Mo.ev_tupL); (· walk_at "mH")) | ((with_reducible apply Mo.ev_append); (· walk_at "mH"); (· walk_at "mA")) | ((with_reducible apply Mo.tl); (· exact rfl)) | ((with_reducible apply Mo.sqL); (· walk_at "mH")) | ((with_reducible apply Mo.itL); (· walk_at "mH")) | ((with_reducible apply Mo.fl); (· walk_at "mH"); (· exact rfl); (· walk_at "mL")) | ((with_reducible apply Mo.sm); (· walk_at "mH"); (· exact rfl); (· walk_at "mL")) | ((with_reducible apply Mo.pf); (· walk_at "mH"); (· exact rfl); (· exact rfl)) | ((with_reducible apply Mo.dp); (· walk_at "mH"); (· exact rfl); (· walk_at "mA")) | ((with_reducible apply Mo.r1); (· walk_at "mA")) | ((with_reducible apply Mo.r2); (· walk_at "mA")) | ((with_reducible apply Mo.tyL); (· walk_at "mH")) | ((with_reducible apply Mo.tyDc); (· walk_at "mH")) | ((with_reducible apply Mo.ev_gT); (· exact rfl)) | ((with_reducible apply Mo.ev_callP); (· exact rfl); (· exact rfl)) | ((with_reducible apply Mo.kd); (· exact rfl); (· exact rfl); (· exact rfl)) | ((with_reducible apply Mo.ev_isi); (· exact rfl)) | ((with_reducible apply Mo.sel_t); (· walk_at "mC")) | ((with_reducible apply Mo.sel_f); (· walk_at "mC"))))
namespace Lw
open PySem Mo
abbrev num (k : Int) : D := .tup [.str q_num, .int k]
theorem dat_num {n : Nat} {h : Hm} {k : Int} : dat (n + 2) h (num k) = some (.tuple [.str q_num, .int k]) := by simp only [dat, datL, ok_q_num, Option.map]
abbrev rmw (n f m : Int) : D := .tup [.str q_room, .int n, .int f, .int m]
abbrev roomsF (mo : Int) (lo lp lt : Nat) : List (Str × D) := [(q_most_here, .int mo), (q_all_owners, .loc lo), (q_all_places, .loc lp), (q_touched, .loc lt)]
section
variable {E : XE} {Q : D → Hm → Prop} {h : Hm} {lr lo lp lt p : Nat} {mo : Int} {own pl tc ws : List D} {n f m k : Int}
theorem number_of_ok (q : Q (.int k) h) : Ev E (f_number_of [num k] h) Q := by
  refine u_number_of ?_
  unfold b_number_of
  repeat (walk_at "m1")
  exact q
theorem is_whole_ok {a b : Int} (k1 : a ≤ k) (k2 : k ≤ b) (q : Q (.bl true) h) : Ev E (f_is_whole [.int k, .int a, .int b] h) Q := by
  refine u_is_whole ?_
  unfold b_is_whole
  repeat (walk_at "m1")
  rw [decide_eq_true k2]
  exact q
theorem is_number_ok (q : Q (.bl true) h) : Ev E (f_is_number [.int k] h) Q := by
  refine u_is_number ?_
  unfold b_is_number
  repeat (walk_at "m1")
  exact q
theorem need_there_ok (e1 : h.g lr = some (.ins 0 (roomsF mo lo lp lt))) (e2 : h.g lp = some (.lst pl)) (e3 : nth pl n = some (.loc p)) (e4 : h.g p = some (.lst ws)) (k1 : n < pl.length) (k2 : f + m ≤ ws.length) (q : Q .non h) : Ev E (f_Rooms_need_there [.loc lr, rmw n f m] h) Q := by
  refine u_Rooms_need_there ?_
  unfold b_Rooms_need_there
  repeat (walk_at "m1")
  refine ev_ixL e2 e3 ?_
  repeat (walk_at "m1")
  refine ev_ixL e2 e3 ?_
  repeat (walk_at "m1")
  exact q
theorem place_of_ok (e1 : h.g lr = some (.ins 0 (roomsF mo lo lp lt))) (e2 : h.g lp = some (.lst pl)) (e3 : nth pl n = some (.loc p)) (e4 : h.g p = some (.lst ws)) (k1 : n < pl.length) (k2 : f + m ≤ ws.length) (k3 : 0 ≤ k) (k4 : k < m) (q : Q (.int (f + k)) h) : Ev E (f_Rooms_place_of [.loc lr, rmw n f m, num k] h) Q := by
  refine u_Rooms_place_of ?_
  unfold b_Rooms_place_of
  repeat (first | with_reducible refine number_of_ok ?_ | ((with_reducible apply need_there_ok); (· assumption); (· assumption); (· assumption); (· assumption); (· assumption); (· assumption)) | walk_at "m1")
  exact q
theorem word_at_ok {w : D} (e1 : h.g lr = some (.ins 0 (roomsF mo lo lp lt))) (e2 : h.g lp = some (.lst pl)) (e3 : nth pl n = some (.loc p)) (e4 : h.g p = some (.lst ws)) (e5 : h.g lt = some (.lst tc)) (k1 : n < pl.length) (k2 : f + m ≤ ws.length) (k3 : 0 ≤ k) (k4 : k < m) (k5 : tc.length < 90000) (ne1 : lr ≠ lt) (ne2 : lp ≠ lt) (ne3 : p ≠ lt) (kw : nth ws (f + k) = some w)
    (q : Q w (h.put lt (.lst (tc ++ [.int n])))) : Ev E (f_Rooms_word_at [.loc lr, rmw n f m, num k] h) Q := by
  refine u_Rooms_word_at ?_
  unfold b_Rooms_word_at
  repeat (first | ((with_reducible apply place_of_ok); (· assumption); (· assumption); (· assumption); (· assumption); (· assumption); (· assumption); (· assumption); (· assumption)) | walk_at "m1")
  refine ev_ixL (by walk_at "mH") e3 ?_
  repeat (walk_at "m1")
  refine ev_ixL (by walk_at "mH") kw ?_
  repeat (walk_at "m1")
  exact q
theorem put_at_ok {w : D} {j : Nat} (e1 : h.g lr = some (.ins 0 (roomsF mo lo lp lt))) (e2 : h.g lp = some (.lst pl)) (e3 : nth pl n = some (.loc p)) (e4 : h.g p = some (.lst ws)) (e5 : h.g lt = some (.lst tc)) (k1 : n < pl.length) (k2 : f + m ≤ ws.length) (k3 : 0 ≤ k) (k4 : k < m) (k5 : tc.length < 90000) (ne1 : lr ≠ lt) (ne2 : lp ≠ lt) (ne3 : p ≠ lt) (kw : ixI ws.length (f + k) = some j)
    (q : Q .non ((h.put lt (.lst (tc ++ [.int n]))).put p (.lst (ws.set j w)))) : Ev E (f_Rooms_put_at [.loc lr, rmw n f m, num k, w] h) Q := by
  refine u_Rooms_put_at ?_
  unfold b_Rooms_put_at
  repeat (first | ((with_reducible apply place_of_ok); (· assumption); (· assumption); (· assumption); (· assumption); (· assumption); (· assumption); (· assumption); (· assumption)) | walk_at "m1")
  refine ev_ixL (by walk_at "mH") e3 ?_
  repeat (walk_at "m1")
  refine gi (by walk_at "mH") kw ?_
  repeat (walk_at "m1")
  exact q
theorem part_of_ok {a b : Int} (e1 : h.g lr = some (.ins 0 (roomsF mo lo lp lt))) (e2 : h.g lp = some (.lst pl)) (e3 : nth pl n = some (.loc p)) (e4 : h.g p = some (.lst ws)) (k1 : n < pl.length) (k2 : f + m ≤ ws.length) (k3 : 0 ≤ a) (k4 : 0 ≤ b) (k5 : a + b ≤ m) (q : Q (rmw n (f + a) b) h) : Ev E (f_Rooms_part_of [.loc lr, rmw n f m, num a, num b] h) Q := by
  refine u_Rooms_part_of ?_
  unfold b_Rooms_part_of
  repeat (first | with_reducible refine number_of_ok ?_ | ((with_reducible apply need_there_ok); (· assumption); (· assumption); (· assumption); (· assumption); (· assumption); (· assumption)) | walk_at "m1")
  exact q
theorem size_of_ok (e1 : h.g lr = some (.ins 0 (roomsF mo lo lp lt))) (e2 : h.g lp = some (.lst pl)) (e3 : nth pl n = some (.loc p)) (e4 : h.g p = some (.lst ws)) (k1 : n < pl.length) (k2 : f + m ≤ ws.length) (q : Q (num m) h) : Ev E (f_Rooms_size_of [.loc lr, rmw n f m] h) Q := by
  refine u_Rooms_size_of ?_
  unfold b_Rooms_size_of
  repeat (first | ((with_reducible apply need_there_ok); (· assumption); (· assumption); (· assumption); (· assumption); (· assumption); (· assumption)) | walk_at "m1")
  exact q
theorem touches_ok (e1 : h.g lr = some (.ins 0 (roomsF mo lo lp lt))) (e5 : h.g lt = some (.lst tc)) (q : Q (.tup tc) h) : Ev E (f_Rooms_touches [.loc lr] h) Q := by
  refine u_Rooms_touches ?_
  unfold b_Rooms_touches
  repeat (walk_at "m1")
  exact q
theorem places_of_ok (e1 : h.g lr = some (.ins 0 (roomsF mo lo lp lt))) (e0 : h.g lo = some (.lst own)) (e2 : h.g lp = some (.lst pl)) (e3 : nth pl n = some (.loc p)) (e4 : h.g p = some (.lst ws)) (k0 : 0 ≤ n) (k1 : n < own.length) (q : Q (.loc h.n) (h.new (.lst ws))) : Ev E (f_Rooms_places_of [.loc lr, .int n] h) Q := by
  refine u_Rooms_places_of ?_
  unfold b_Rooms_places_of
  repeat (walk_at "m1")
  refine u_Rooms_need_made ?_
  unfold b_Rooms_need_made
  repeat (first | with_reducible refine is_number_ok ?_ | walk_at "m1")
  refine ev_ixL e2 e3 ?_
  repeat (walk_at "m1")
  exact q
theorem make_room_ok (e1 : h.g lr = some (.ins 0 (roomsF mo lo lp lt))) (e0 : h.g lo = some (.lst own)) (e2 : h.g lp = some (.lst pl)) (e5 : h.g lt = some (.lst tc)) (c : lr < lo ∧ lo < lp ∧ lp < lt ∧ lt < h.n) (k1 : 0 ≤ m) (k2 : m ≤ 64) (k3 : own.length < mo) (k4 : own.length = pl.length) (k5 : own.length < 90000) (k6 : tc.length < 90000) {w : D}
    (q : ∀ h', Fr [lo, lp, lt] h h' → h'.n = h.n + 2 → h'.g lo = some (.lst (own ++ [w])) → h'.g lp = some (.lst (pl ++ [.loc (h.n + 1)])) → h'.g lt = some (.lst (tc ++ [.int own.length])) → h'.g (h.n + 1) = some (.lst (List.replicate m.toNat (num 0))) → Q (rmw own.length 0 m) h') : Ev E (f_Rooms_make_room [.loc lr, num m, w] h) Q := by
  refine u_Rooms_make_room ?_
  unfold b_Rooms_make_room
  repeat (first | with_reducible refine number_of_ok ?_ | walk_at "m1")
  refine ev_rep (xs := [num 0]) (by walk_at "mH") (by simp only [List.length_cons, List.length_nil]; unfold SL; omega) ?_
  repeat (walk_at "m1")
  have e : (List.replicate m.toNat [D.tup [D.str q_num, D.int 0]]).flatten = List.replicate m.toNat (num 0) := by
    simp
  rw [e]
  refine q _ ?_ rfl (by walk_at "mH") (by walk_at "mH") (by walk_at "mH") (by walk_at "mH")
  exact ((((((Fr.refl _ h).put _ (.inl (by simp))).new _).new _).put _ (.inl (by simp))).put _ (.inl (by simp)))
end
end Lw
end
section
local macro_rules | `(tactic| walk_at "mH") => `(tactic| (first | assumption | ((repeat (first | ((with_reducible refine Eq.trans (Mo.put_ne ?_) ?_); (focus (first | omega | (simp only [Mo.put_n, Mo.new_n]; omega)))) | ((with_reducible refine Eq.trans (Mo.new_ne ?_) ?_); (focus (first | omega | (simp only [Mo.put_n, Mo.new_n]; omega)))))); (first | assumption | ((with_reducible refine Eq.trans (Mo.new_eq ?_) ?_); (focus (first | exact rfl | omega | (simp only [Mo.put_n, Mo.new_n]; omega))); (exact rfl)) | ((with_reducible refine Eq.trans (Mo.put_eq ?_) ?_); (focus (first | exact rfl | omega | (simp only [Mo.put_n, Mo.new_n]; omega))); (exact rfl))))))
local macro_rules | `(tactic| walk_at "mA") => `(tactic| (first | omega | exact Nat.le_of_ble_eq_true rfl | (simp only [List.length_cons, List.length_nil, List.length_map, List.length_append]; omega) | (unfold Mo.SL; omega) | (simp only [List.length_cons, List.length_nil, List.length_append, List.length_map]; unfold Mo.SL; omega) | decide | assumption))
local macro_rules | `(tactic| walk_at "mL") => `(tactic| (first | exact rfl | decide +kernel))
local macro_rules | `(tactic| walk_at "mC") => `(tactic| (first | exact rfl | assumption | (simp only [Bool.not_eq_eq_eq_not, Bool.not_true, Bool.not_false, decide_eq_true_eq, decide_eq_false_iff_not]; omega) | (simp only [Bool.not_eq_eq_eq_not, Bool.not_true, Bool.not_false, decide_eq_true_eq, decide_eq_false_iff_not, List.length_map, List.length_cons, List.length_nil, List.length_append]; omega)))
local macro_rules | `(tactic| walk_at "m1") => `(tactic| (first | ((with_reducible apply Mo.ev_var); (· exact rfl)) | with_reducible refine Mo.ev_c ?_ | with_reducible refine Mo.ev_op ?_ | with_reducible refine Mo.ev_cons ?_ | with_reducible refine Mo.ev_nil ?_ | with_reducible refine Mo.es_seq ?_ | with_reducible refine Mo.es_asg ?_ | with_reducible refine Mo.es_expr ?_ | with_reducible refine Mo.es_ret ?_ | with_reducible refine Mo.es_retN ?_ | with_reducible refine Mo.es_if ?_ | with_reducible refine Mo.es_next ?_ | with_reducible refine Mo.es_par2 ?_ | with_reducible refine Mo.es_par3 ?_ | with_reducible refine Mo.es_break ?_ | with_reducible refine Mo.es_cont ?_ | with_reducible refine Mo.es_fld ?_ | with_reducible refine Mo.es_dputS ?_ | with_reducible refine Mo.es_for ?_ | with_reducible refine Mo.ev_op ?_ | with_reducible refine Mo.ev_un ?_ | with_reducible refine Mo.ev_cons ?_ | with_reducible refine Mo.ev_nil ?_ | with_reducible refine Mo.ev_c ?_ | with_reducible refine Mo.ev_tup ?_ | with_reducible refine Mo.ev_lst ?_ | with_reducible refine Mo.ev_eIf ?_ | with_reducible refine Mo.ev_and ?_ | with_reducible refine Mo.ev_or ?_ | with_reducible refine Mo.ev_not ?_ | with_reducible refine Mo.ev_chain ?_ | with_reducible refine Mo.ev_tB ?_ | with_reducible refine Mo.ev_tAnd ?_ | with_reducible refine Mo.ev_tOr ?_ | with_reducible refine Mo.ev_tNot ?_ | with_reducible refine Mo.ev_tYes ?_ | with_reducible refine Mo.ev_add ?_ | with_reducible refine Mo.ev_sub ?_ | with_reducible refine Mo.ev_neg ?_ | with_reducible refine Mo.ev_lt ?_ | with_reducible refine Mo.ev_le ?_ | with_reducible refine Mo.ev_gt ?_ | with_reducible refine Mo.ev_ge ?_ | with_reducible refine Mo.ev_eqI ?_ | with_reducible refine Mo.ev_neI ?_ | with_reducible refine Mo.ev_eqS ?_ | with_reducible refine Mo.ev_neS ?_ | with_reducible refine Mo.ev_isN ?_ | with_reducible refine Mo.ev_notN ?_ | with_reducible refine Mo.ev_oNone ?_ | with_reducible refine Mo.ev_oSome ?_ | with_reducible refine Mo.ev_sl ?_ | with_reducible refine Mo.ev_fld ?_ | with_reducible refine Mo.ev_call ?_ | with_reducible refine Mo.ev_meth ?_ | with_reducible refine Mo.ev_new ?_ | with_reducible refine Mo.ev_bi ?_ | with_reducible refine Mo.ev_lenT ?_ | with_reducible refine Mo.ev_lenK ?_ | with_reducible refine Mo.ev_listT ?_ | with_reducible refine Mo.ev_listK ?_ | with_reducible refine Mo.ev_tupT ?_ | with_reducible refine Mo.ev_tupK ?_ | with_reducible refine Mo.ev_bm ?_ | with_reducible refine Mo.ev_pnil ?_ | with_reducible refine Mo.ev_pcons ?_ | with_reducible refine Mo.ev_dict ?_ | with_reducible refine Mo.ev_gN ?_ | with_reducible refine Mo.ev_gnil ?_ | with_reducible refine Mo.ev_gcons ?_ | with_reducible refine Mo.ev_gIx ?_ | with_reducible refine Mo.ev_gFld ?_ | with_reducible refine Mo.ev_iSeq ?_ | with_reducible refine Mo.ev_rng1 ?_ | with_reducible refine Mo.ev_rng2 ?_ | with_reducible refine Mo.ev_enum ?_ | with_reducible refine Mo.ev_comp ?_ | with_reducible refine Mo.nb ?_ | with_reducible refine Mo.ni ?_ | with_reducible refine Mo.nn ?_ | with_reducible refine Mo.p2 ?_ | with_reducible refine Mo.p3 ?_ | with_reducible refine Mo.sqK ?_ | with_reducible refine Mo.itT ?_ | with_reducible refine Mo.itK ?_ | ((with_reducible apply Mo.ev_var); (· exact rfl)) | ((with_reducible apply Mo.ev_mod); (· walk_at "mA")) | ((with_reducible apply Mo.ev_fdiv); (· walk_at "mA")) | ((with_reducible apply Mo.ev_mul); (· walk_at "mA")) | ((with_reducible apply Mo.ev_pow); (· walk_at "mA")) | ((with_reducible apply Mo.ev_ixT); (· exact rfl)) | ((with_reducible apply Mo.ev_dgetS); (· walk_at "mH"); (· walk_at "mL")) | ((with_reducible apply Mo.ev_lenL); (· walk_at "mH")) | ((with_reducible apply Mo.ev_lenD); (· walk_at "mH")) | ((with_reducible apply Mo.ev_listL); (· walk_at "mH")) | ((with_reducible apply Mo.ev_tupL); (· walk_at "mH")) | ((with_reducible apply Mo.ev_append); (· walk_at "mH"); (· walk_at "mA")) | ((with_reducible apply Mo.tl); (· exact rfl)) | ((with_reducible apply Mo.sqL); (· walk_at "mH")) | ((with_reducible apply Mo.itL); (· walk_at "mH")) | ((with_reducible apply Mo.fl); (· walk_at "mH"); (· exact rfl); (· walk_at "mL")) | ((with_reducible apply Mo.sm); (· walk_at "mH"); (· exact rfl); (· walk_at "mL")) | ((with_reducible apply Mo.pf); (· walk_at "mH"); (· exact rfl); (· exact rfl)) | ((with_reducible apply Mo.dp); (· walk_at "mH"); (· exact rfl); (· walk_at "mA")) | ((with_reducible apply Mo.r1); (· walk_at "mA")) | ((with_reducible apply Mo.r2); (· walk_at "mA")) | ((with_reducible apply Mo.tyL); (· walk_at "mH")) | ((with_reducible apply Mo.tyDc); (· walk_at "mH")) | ((with_reducible apply Mo.ev_gT); (· exact rfl)) | ((with_reducible apply Mo.ev_callP); (· exact rfl); (· exact rfl)) | ((with_reducible apply Mo.kd); (· exact rfl); (· exact rfl); (· exact rfl)) | ((with_reducible apply Mo.ev_isi); (· exact rfl)) | ((with_reducible apply Mo.sel_t); (· walk_at "mC")) | ((with_reducible apply Mo.sel_f); (· walk_at "mC"))))
namespace Lw
open PySem Mo
theorem init_ok {E : XE} {Q : D → Hm → Prop} {h : Hm} {l : Nat} (e : h.g l = some (.ins 0 [])) (k : l < h.n) (q : ∀ h', Fr [l] h h' → h'.n = h.n + 3 → h'.g l = some (.ins 0 (roomsF 3 h.n (h.n + 1) (h.n + 2))) → h'.g h.n = some (.lst []) → h'.g (h.n + 1) = some (.lst []) → h'.g (h.n + 2) = some (.lst []) → Q .non h') : Ev E (f_Rooms_init [.loc l, .int 3] h) Q := by
  refine u_Rooms_init ?_
  unfold b_Rooms_init
  repeat (walk_at "m1")
  refine is_whole_ok (by omega) (by omega) ?_
  repeat (walk_at "m1")
  refine q _ ?_ rfl (by walk_at "mH") (by walk_at "mH") (by walk_at "mH") (by walk_at "mH")
  exact ((((((((Fr.refl _ h).put _ (.inl (by simp))).new _).new _).new _).put _ (.inl (by simp))).put _ (.inl (by simp)))).put _ (.inl (by simp))
/-- the objects about a draw and its rooms -/
structure Wd (H0 h : Hm) (cs : List Int) (lc ld lr lo lp lt : Nat) (b : Int) (own pl tc : List D) : Prop where
  hc : cs ≠ []
  c : h.g lc = some (.lst (cs.map .int))
  d : ∃ a lf, h.g ld = some (dicO lc a lf) ∧ 0 ≤ a ∧ a ≤ b
  r : h.g lr = some (.ins 0 (roomsF 3 lo lp lt))
  o : h.g lo = some (.lst own)
  p : h.g lp = some (.lst pl)
  t : h.g lt = some (.lst tc)
  ch : lc < ld ∧ ld < H0.n ∧ H0.n ≤ lr ∧ lr < lo ∧ lo < lp ∧ lp < lt ∧ lt < h.n
  fr : Fr [ld] H0 h
section
variable {E : XE} {Q : D → Hm → Prop} {H0 h : Hm} {cs : List Int} {lc ld lr lo lp lt : Nat} {b m : Int} {own pl tc : List D}
theorem Wd.new (w : Wd H0 h cs lc ld lr lo lp lt b own pl tc) (o : O) : Wd H0 (h.new o) cs lc ld lr lo lp lt b own pl tc := by
  obtain ⟨a1, a2, ⟨a, lf, a3, a4, a5⟩, a6, a7, a8, a9, ch, fr⟩ := w
  exact ⟨a1, by walk_at "mH", ⟨a, lf, by walk_at "mH", a4, a5⟩, by walk_at "mH", by walk_at "mH", by walk_at "mH", by walk_at "mH", by rw [new_n]; omega, fr.new _⟩
theorem Wd.putx (w : Wd H0 h cs lc ld lr lo lp lt b own pl tc) {x : Nat} (k : lt < x) (o : O) : Wd H0 (h.put x o) cs lc ld lr lo lp lt b own pl tc := by
  obtain ⟨a1, a2, ⟨a, lf, a3, a4, a5⟩, a6, a7, a8, a9, ch, fr⟩ := w
  exact ⟨a1, by walk_at "mH", ⟨a, lf, by walk_at "mH", a4, a5⟩, by walk_at "mH", by walk_at "mH", by walk_at "mH", by walk_at "mH", ch, fr.put _ (.inr (by omega))⟩
theorem Wd.putt (w : Wd H0 h cs lc ld lr lo lp lt b own pl tc) (tc' : List D) : Wd H0 (h.put lt (.lst tc')) cs lc ld lr lo lp lt b own pl tc' := by
  obtain ⟨a1, a2, ⟨a, lf, a3, a4, a5⟩, a6, a7, a8, a9, ch, fr⟩ := w
  exact ⟨a1, by walk_at "mH", ⟨a, lf, by walk_at "mH", a4, a5⟩, by walk_at "mH", by walk_at "mH", by walk_at "mH", by walk_at "mH", ch, fr.put _ (.inr (by omega))⟩
theorem Wd.le (w : Wd H0 h cs lc ld lr lo lp lt b own pl tc) {b' : Int} (k : b ≤ b') : Wd H0 h cs lc ld lr lo lp lt b' own pl tc := by
  obtain ⟨a1, a2, ⟨a, lf, a3, a4, a5⟩, a6, a7, a8, a9, ch, fr⟩ := w
  exact ⟨a1, a2, ⟨a, lf, a3, a4, by omega⟩, a6, a7, a8, a9, ch, fr⟩
theorem take_w (w : Wd H0 h cs lc ld lr lo lp lt b own pl tc) (hb : b < 900000) (hm : 0 < m) (hm2 : m < 1073741824) (q : ∀ v h', 0 ≤ v → v < m → Wd H0 h' cs lc ld lr lo lp lt (b + 1) own pl tc → h'.n = h.n → (∀ l, l ≠ ld → h'.g l = h.g l) → Q (.int v) h') : Ev E (f_take [.loc ld, .int m] h) Q := by
  obtain ⟨a1, a2, ⟨a, lf, a3, a4, a5⟩, a6, a7, a8, a9, ch, fr⟩ := w
  refine take_ok a3 a2 a1 (by omega) a4 (by omega) hm hm2 fun v lf' k1 k2 => q v _ k1 k2 ?_ rfl fun l k => put_ne k
  exact ⟨a1, by walk_at "mH", ⟨a + 1, lf', by walk_at "mH", by omega, by omega⟩, by walk_at "mH", by walk_at "mH", by walk_at "mH", by walk_at "mH", ch, fr.put _ (.inl (by simp))⟩
end
/-- a part and where it lies -/
abbrev pt (q : Int × Int) : D := .tup [rmw 1 q.1 q.2, .int q.1, .int q.2]
def PsOk (N : Int) (ps : List (Int × Int)) : Prop := ∀ q ∈ ps, 0 ≤ q.1 ∧ 0 ≤ q.2 ∧ q.1 + q.2 ≤ N
theorem nth_map {α : Type} {ps : List α} {f : α → D} {v : Int} (k1 : 0 ≤ v) (k2 : v < (ps.map f).length) : ∃ q, q ∈ ps ∧ nth (ps.map f) v = some (f q) := by
  rw [List.length_map] at k2
  refine ⟨ps[v.toNat]'(by omega), List.getElem_mem _, ?_⟩
  unfold nth ixI
  rw [List.length_map, if_pos k1, if_pos k2]
  show (ps.map f)[v.toNat]? = _
  rw [List.getElem?_map, List.getElem?_eq_getElem (by omega)]
  rfl
theorem nth3 {x y z : D} {v : Int} (k1 : 0 ≤ v) (k2 : v < 3) : ∃ w, nth [x, y, z] v = some w ∧ (w = x ∨ w = y ∨ w = z) := by
  have : v = 0 ∨ v = 1 ∨ v = 2 := by omega
  rcases this with rfl | rfl | rfl
  · exact ⟨x, rfl, .inl rfl⟩
  · exact ⟨y, rfl, .inr (.inl rfl)⟩
  · exact ⟨z, rfl, .inr (.inr rfl)⟩
theorem nth6 {v : Int} (k1 : 0 ≤ v) (k2 : v < 6) : ∃ s : Int, nth [D.int 1, .int 2, .int 5, .int 17, .int 63, .int 64] v = some (.int s) ∧ 0 ≤ s ∧ s ≤ 64 := by
  have : v = 0 ∨ v = 1 ∨ v = 2 ∨ v = 3 ∨ v = 4 ∨ v = 5 := by omega
  rcases this with rfl | rfl | rfl | rfl | rfl | rfl
  · exact ⟨1, rfl, by omega⟩
  · exact ⟨2, rfl, by omega⟩
  · exact ⟨5, rfl, by omega⟩
  · exact ⟨17, rfl, by omega⟩
  · exact ⟨63, rfl, by omega⟩
  · exact ⟨64, rfl, by omega⟩
section
variable {E : XE} {Q : D → Hm → Prop} {H0 h : Hm} {cs : List Int} {lc ld lr lo lp lt p0 p1 : Nat} {b m : Int} {own pl tc ws : List D}
theorem parts_ok {s : Int} (w : Wd H0 h cs lc ld lr lo lp lt b [.int 3] [.loc p0] [.int 0]) (hb : b < 800000) (e0 : h.g p0 = some (.lst ws)) (kp : lt < p0 ∧ p0 < h.n) (k1 : 0 ≤ s) (k2 : s ≤ 64)
    (q : ∀ h' lf p1 ps, Wd H0 h' cs lc ld lr lo lp lt (b + 100) [.int 3, .int 3] [.loc p0, .loc p1] [.int 0, .int 1] → h'.g p0 = some (.lst ws) → h'.g p1 = some (.lst (List.replicate s.toNat (num 0))) → h'.g lf = some (.lst (ps.map pt)) → PsOk s ps → ps ≠ [] → ps.length ≤ 12 → p0 < p1 ∧ p1 < lf ∧ lf < h'.n → Q (.loc lf) h') : Ev E (f_parts [.loc ld, .loc lr, .int s] h) Q := by
  refine u_parts ?_
  unfold b_parts
  have wr := w.r
  have ch := w.ch
  repeat (walk_at "m1")
  refine make_room_ok w.r w.o w.p w.t (by omega) k1 k2 (by simp) rfl (by simp) (by simp) fun h1 f1 n1 g1 g2 g3 g4 => ?_
  repeat (walk_at "m1")
  have w1 : Wd H0 h1 cs lc ld lr lo lp lt b [.int 3, .int 3] [.loc p0, .loc (h.n + 1)] [.int 0, .int 1] := by
    obtain ⟨a1, a2, ⟨a, lf, a3, a4, a5⟩, a6, a7, a8, a9, ch, fr⟩ := w
    exact ⟨a1, (f1.g _ (by omega) (by simp; omega)).trans a2, ⟨a, lf, (f1.g _ (by omega) (by simp; omega)).trans a3, a4, a5⟩, (f1.g _ (by omega) (by simp; omega)).trans a6, g1, g2, g3, by omega, fr.after f1 (by simp; omega)⟩
  have e1 : h1.g p0 = some (.lst ws) := (f1.g _ (by omega) (by simp; omega)).trans e0
  refine take_w (w1.new _) (by omega) (by omega) (by omega) fun v h2 v1 v2 w2 n2 k3 => ?_
  have e2 : h2.g p0 = some (.lst ws) := (k3 _ (by omega)).trans (by walk_at "mH")
  have g5 : h2.g (h.n + 1) = some (O.lst (List.replicate s.toNat (num 0))) := (k3 _ (by omega)).trans (by walk_at "mH")
  have g6 : h2.g h1.n = some (.lst ([(0, s)].map pt)) := (k3 _ (by omega)).trans (by walk_at "mH")
  rw [new_n] at n2
  repeat (walk_at "m1")
  refine for_inv (fun i σ h' => ∃ (x5 x6 x7 x8 x9 x10 : Option D) (ps : List (Int × Int)), σ = [some (.loc ld), some (.loc lr), some (.int s), some (rmw 1 0 s), some (.loc h1.n), x5, x6, x7, x8, x9, x10] ∧ Wd H0 h' cs lc ld lr lo lp lt (b + 1 + 4 * i) [.int 3, .int 3] [.loc p0, .loc (h.n + 1)] [.int 0, .int 1] ∧
    h'.g p0 = some (.lst ws) ∧ h'.g (h.n + 1) = some (O.lst (List.replicate s.toNat (num 0))) ∧ h'.g h1.n = some (.lst (ps.map pt)) ∧ PsOk s ps ∧ ps.length = i + 1 ∧ h1.n < h'.n) _ 0 _ _ ?_ ?_ ?_ ?_
  · exact ⟨none, none, none, none, none, none, [(0, s)], rfl, by simpa using w2, e2, g5, g6, by intro q hq; simp at hq; subst hq; simp; omega, rfl, by omega⟩
  · exact fun _ _ _ _ _ _ => rfl
  · rintro i d σ h3 hi ⟨x5, x6, x7, x8, x9, x10, ps, rfl, w3, e3, g7, g8, po, pl, n3⟩
    have hi2 : i < v.toNat := by
      have := (List.getElem?_eq_some_iff.mp hi).1
      rw [Mo.intsFrom, List.length_map, List.length_range] at this
      exact this
    rw [Nat.zero_add] at w3 pl ⊢
    have ch3 := w3.ch
    unfold l_parts_1
    repeat (walk_at "m1")
    refine take_w w3 (by omega) (by simp; omega) (by simp; omega) fun v4 h4 v41 v42 w4 n4 k4 => ?_
    have e4 : h4.g p0 = some (.lst ws) := (k4 _ (by omega)).trans e3
    have g9 : h4.g (h.n + 1) = some (O.lst (List.replicate s.toNat (num 0))) := (k4 _ (by omega)).trans g7
    have g10 : h4.g h1.n = some (.lst (ps.map pt)) := (k4 _ (by omega)).trans g8
    obtain ⟨⟨f, m⟩, hq, nq⟩ := nth_map (f := pt) v41 v42
    obtain ⟨po1, po2, po3⟩ := po _ hq
    simp only at po1 po2 po3
    refine ev_ixL g10 nq ?_
    repeat (walk_at "m1")
    refine take_w w4 (by omega) (by omega) (by omega) fun v5 h5 v51 v52 w5 n5 k5 => ?_
    have e5 : h5.g p0 = some (.lst ws) := (k5 _ (by omega)).trans e4
    have g11 : h5.g (h.n + 1) = some (O.lst (List.replicate s.toNat (num 0))) := (k5 _ (by omega)).trans g9
    have g12 : h5.g h1.n = some (.lst (ps.map pt)) := (k5 _ (by omega)).trans g10
    repeat (walk_at "m1")
    refine take_w w5 (by omega) (by omega) (by omega) fun v6 h6 v61 v62 w6 n6 k6 => ?_
    have e6 : h6.g p0 = some (.lst ws) := (k6 _ (by omega)).trans e5
    have g13 : h6.g (h.n + 1) = some (O.lst (List.replicate s.toNat (num 0))) := (k6 _ (by omega)).trans g11
    have g14 : h6.g h1.n = some (.lst (ps.map pt)) := (k6 _ (by omega)).trans g12
    repeat (walk_at "m1")
    refine take_w (w6.new _) (by omega) (by omega) (by omega) fun v7 h7 v71 v72 w7 n7 k7 => ?_
    rw [new_n] at n7
    have e7 : h7.g p0 = some (.lst ws) := (k7 _ (by omega)).trans (by walk_at "mH")
    have g15 : h7.g (h.n + 1) = some (O.lst (List.replicate s.toNat (num 0))) := (k7 _ (by omega)).trans (by walk_at "mH")
    have g16 : h7.g h1.n = some (.lst (ps.map pt)) := (k7 _ (by omega)).trans (by walk_at "mH")
    obtain ⟨wd, e8, e9⟩ := nth3 (x := .int (m - v5)) (y := .int v6) (z := .int 0) v71 v72
    obtain ⟨u, rfl, u1, u2⟩ : ∃ u : Int, wd = .int u ∧ 0 ≤ u ∧ v5 + u ≤ m := by
      rcases e9 with rfl | rfl | rfl
      · exact ⟨_, rfl, by omega, by omega⟩
      · exact ⟨_, rfl, by omega, by omega⟩
      · exact ⟨_, rfl, by omega, by omega⟩
    have g17 : h7.g h6.n = some (.lst [.int (m - v5), .int v6, .int 0]) := (k7 _ (by omega)).trans (by walk_at "mH")
    refine ev_ixL g17 e8 ?_
    have w7r := w7.r
    repeat (walk_at "m1")
    refine part_of_ok w7.r w7.p rfl g15 (by simp) (by rw [List.length_replicate]; omega) v51 u1 u2 ?_
    repeat (walk_at "m1")
    refine ⟨_, _, _, _, _, _, ps ++ [(f + v5, u)], rfl, (w7.putx (by omega) _).le (by omega), by walk_at "mH", by walk_at "mH", ?_, ?_, ?_, ?_⟩
    · rw [List.map_append]
      exact put_eq rfl
    · intro z hz
      rcases List.mem_append.mp hz with hz | hz
      · exact po z hz
      · rw [List.mem_singleton.mp hz]
        exact ⟨by omega, by omega, by simp only; omega⟩
    · rw [List.length_append, pl]
      rfl
    · rw [put_n]
      omega
  · rintro σ h3 ⟨x5, x6, x7, x8, x9, x10, ps, rfl, w3, e3, g7, g8, po, pl, n3⟩
    rw [Nat.zero_add] at w3 pl
    have hl : (Mo.intsFrom 0 v.toNat).length = v.toNat := by rw [Mo.intsFrom, List.length_map, List.length_range]
    rw [hl] at w3 pl
    repeat (walk_at "m1")
    exact q _ _ _ ps (w3.le (by omega)) e3 g7 g8 po (by intro z; rw [z] at pl; cases pl) (by omega) (by omega)
/-- all parts are told as they are due -/
theorem told_ok {lf lu : Nat} {ps : List (Int × Int)} (w : Wd H0 h cs lc ld lr lo lp lt b own [.loc p0, .loc p1] tc) (e1 : h.g p1 = some (.lst ws)) (ef : h.g lf = some (.lst (ps.map pt))) (eu : h.g lu = some (.lst ws)) (kp : lt < p1 ∧ p1 < h.n ∧ lt < lf ∧ lf < h.n ∧ lt < lu ∧ lu < h.n) (po : PsOk ws.length ps) (hw : ∀ x ∈ ws, Okw x) (hl : ws.length ≤ 64)
    (ht : tc.length + 64 * ps.length < 80000) (q : ∀ h' tc', Wd H0 h' cs lc ld lr lo lp lt b own [.loc p0, .loc p1] tc' → tc'.length ≤ tc.length + 64 * ps.length → Fr [lt] h h' → Q (.bl true) h') : Ev E (f_told_right [.loc lr, .loc lf, .loc lu] h) Q := by
  refine u_told_right ?_
  unfold b_told_right
  have ch := w.ch
  repeat (walk_at "m1")
  refine for_inv (fun i σ h' => ∃ (x3 x4 x5 x6 x7 : Option D) (tc' : List D), σ = [some (.loc lr), some (.loc lf), some (.loc lu), x3, x4, x5, x6, x7] ∧ Wd H0 h' cs lc ld lr lo lp lt b own [.loc p0, .loc p1] tc' ∧ tc'.length ≤ tc.length + 64 * i ∧ Fr [lt] h h') _ 0 _ _ ?_ ?_ ?_ ?_
  · exact ⟨_, _, _, _, _, tc, rfl, w, by omega, Fr.refl _ _⟩
  · rintro i σ h2 _ _ ⟨x3, x4, x5, x6, x7, tc', rfl, w2, k2, f2⟩
    exact ok_seq ((f2.g lf (by omega) (by simp; omega)).trans ef)
  · rintro i d σ h2 hi ⟨x3, x4, x5, x6, x7, tc', rfl, w2, k2, f2⟩
    rw [Nat.zero_add] at k2 ⊢
    have hi2 : i < ps.length := by
      have := (List.getElem?_eq_some_iff.mp hi).1
      rw [List.length_map] at this
      exact this
    obtain ⟨⟨f, m⟩, hq, rfl⟩ : ∃ z, z ∈ ps ∧ pt z = d := by
      obtain ⟨z, hz, e⟩ := List.mem_map.mp (List.mem_of_getElem? hi)
      exact ⟨z, hz, e⟩
    obtain ⟨po1, po2, po3⟩ := po _ hq
    simp only at po1 po2 po3
    have ch2 := w2.ch
    have w2r := w2.r
    have g1 : h2.g p1 = some (.lst ws) := (f2.g _ (by omega) (by simp; omega)).trans e1
    have gu : h2.g lu = some (.lst ws) := (f2.g _ (by omega) (by simp; omega)).trans eu
    unfold l_told_right_2
    repeat (walk_at "m1")
    refine size_of_ok w2.r w2.p rfl g1 (by simp) (by simpa using po3) ?_
    repeat (walk_at "m1")
    refine ev_neD dat_num dat_num ?_
    rw [eqv_of_tame _ (by simp [tame, tameL, ok_q_num]; omega)]
    repeat (walk_at "m1")
    have fm : (ws.drop f.toNat).length = ws.length - f.toNat := List.length_drop
    refine comp_inv (fun j acc h' => acc = (ws.drop f.toNat).take j ∧ ∃ tc2, Wd H0 h' cs lc ld lr lo lp lt b own [.loc p0, .loc p1] tc2 ∧ tc2.length ≤ tc'.length + j ∧ Fr [lt] h h') _ 0 [] _ ?_ ?_ ?_ ?_
    · exact ⟨by simp, tc', w2, by omega, f2⟩
    · exact fun _ _ _ _ _ _ => rfl
    · rintro j d acc h3 hj ⟨rfl, tc2, w3, k3, f3⟩
      rw [Nat.zero_add] at k3 ⊢
      obtain ⟨rfl, hj2⟩ := ints_at hj
      simp only at hj2
      have w3r := w3.r
      have ch3 := w3.ch
      have g3 : h3.g p1 = some (.lst ws) := (f3.g _ (by omega) (by simp; omega)).trans e1
      refine ⟨_, rfl, ?_⟩
      unfold c_told_right_1
      repeat (walk_at "m1")
      refine word_at_ok w3.r w3.p rfl g3 w3.t (by simp) (by simpa using po3) (by omega) (by simp only; omega) (by omega) (by omega) (by omega) (by omega) (nth_in (by simp only; omega) (by simp only; omega)) ?_
      refine ⟨?_, ?_, _, w3.putt _, ?_, f3.put _ (.inl (by simp))⟩
      · rw [List.length_take]
        unfold SL
        omega
      · rw [← take_snoc (by omega)]
        congr 2
        rw [List.getElem_drop]
        congr 1
        simp only
        omega
      · rw [List.length_append]
        simp only [List.length_cons, List.length_nil]
        omega
    · rintro acc h3 ⟨rfl, tc2, w3, k3, f3⟩
      rw [Nat.zero_add, ints_len] at k3 ⊢
      simp only at k3 ⊢
      have ch3 := w3.ch
      have g3 : h3.g p1 = some (.lst ws) := (f3.g _ (by omega) (by simp; omega)).trans e1
      have gu3 : h3.g lu = some (.lst ws) := (f3.g _ (by omega) (by simp; omega)).trans eu
      have n3 := f3.n
      have hwk : ∀ x ∈ (ws.drop f.toNat).take m.toNat, Okw x := fun x hx => hw x (List.mem_of_mem_drop (List.mem_of_mem_take hx))
      obtain ⟨ds, d1, d2⟩ := fits_list hwk (by rw [List.length_take]; omega)
      repeat (walk_at "m1")
      refine ev_repr (dat_lst (new_eq rfl) d1) d2 ?_
      repeat (walk_at "m1")
      rw [cut_mid po1 po2 po3]
      refine ev_repr (dat_lst (new_eq rfl) d1) d2 ?_
      repeat (walk_at "m1")
      refine sel_f (by simp) ?_
      repeat (walk_at "m1")
      refine ⟨_, _, _, _, _, tc2, rfl, (w3.new _).new _, by omega, (f3.new _).new _⟩
  · rintro σ h2 ⟨x3, x4, x5, x6, x7, tc', rfl, w2, k2, f2⟩
    rw [Nat.zero_add, List.length_map] at k2
    repeat (walk_at "m1")
    exact q _ _ w2 k2 f2
end
end Lw
end
section
local macro_rules | `(tactic| walk_at "mH") => `(tactic| (first | assumption | ((repeat (first | ((with_reducible refine Eq.trans (Mo.put_ne ?_) ?_); (focus (first | omega | (simp only [Mo.put_n, Mo.new_n]; omega)))) | ((with_reducible refine Eq.trans (Mo.new_ne ?_) ?_); (focus (first | omega | (simp only [Mo.put_n, Mo.new_n]; omega)))))); (first | assumption | ((with_reducible refine Eq.trans (Mo.new_eq ?_) ?_); (focus (first | exact rfl | omega | (simp only [Mo.put_n, Mo.new_n]; omega))); (exact rfl)) | ((with_reducible refine Eq.trans (Mo.put_eq ?_) ?_); (focus (first | exact rfl | omega | (simp only [Mo.put_n, Mo.new_n]; omega))); (exact rfl))))))
local macro_rules | `(tactic| walk_at "mA") => `(tactic| (first | omega | exact Nat.le_of_ble_eq_true rfl | (simp only [List.length_cons, List.length_nil, List.length_map, List.length_append]; omega) | (unfold Mo.SL; omega) | (simp only [List.length_cons, List.length_nil, List.length_append, List.length_map]; unfold Mo.SL; omega) | decide | assumption))
local macro_rules | `(tactic| walk_at "mL") => `(tactic| (first | exact rfl | decide +kernel))
local macro_rules | `(tactic| walk_at "mC") => `(tactic| (first | exact rfl | assumption | (simp only [Bool.not_eq_eq_eq_not, Bool.not_true, Bool.not_false, decide_eq_true_eq, decide_eq_false_iff_not]; omega) | (simp only [Bool.not_eq_eq_eq_not, Bool.not_true, Bool.not_false, decide_eq_true_eq, decide_eq_false_iff_not, List.length_map, List.length_cons, List.length_nil, List.length_append]; omega)))
local macro_rules | `(tactic| walk_at "m1") => `(tactic| (first | ((with_reducible apply Mo.ev_var); (· exact rfl)) | with_reducible refine Mo.ev_c ?_ | with_reducible refine Mo.ev_op ?_ | with_reducible refine Mo.ev_cons ?_ | with_reducible refine Mo.ev_nil ?_ | with_reducible refine Mo.es_seq ?_ | with_reducible refine Mo.es_asg ?_ | with_reducible refine Mo.es_expr ?_ | with_reducible refine Mo.es_ret ?_ | with_reducible refine Mo.es_retN ?_ | with_reducible refine Mo.es_if ?_ | with_reducible refine Mo.es_next ?_ | with_reducible refine Mo.es_par2 ?_ | with_reducible refine Mo.es_par3 ?_ | with_reducible refine Mo.es_break ?_ | with_reducible refine Mo.es_cont ?_ | with_reducible refine Mo.es_fld ?_ | with_reducible refine Mo.es_dputS ?_ | with_reducible refine Mo.es_for ?_ | with_reducible refine Mo.ev_op ?_ | with_reducible refine Mo.ev_un ?_ | with_reducible refine Mo.ev_cons ?_ | with_reducible refine Mo.ev_nil ?_ | with_reducible refine Mo.ev_c ?_ | with_reducible refine Mo.ev_tup ?_ | with_reducible refine Mo.ev_lst ?_ | with_reducible refine Mo.ev_eIf ?_ | with_reducible refine Mo.ev_and ?_ | with_reducible refine Mo.ev_or ?_ | with_reducible refine Mo.ev_not ?_ | with_reducible refine Mo.ev_chain ?_ | with_reducible refine Mo.ev_tB ?_ | with_reducible refine Mo.ev_tAnd ?_ | with_reducible refine Mo.ev_tOr ?_ | with_reducible refine Mo.ev_tNot ?_ | with_reducible refine Mo.ev_tYes ?_ | with_reducible refine Mo.ev_add ?_ | with_reducible refine Mo.ev_sub ?_ | with_reducible refine Mo.ev_neg ?_ | with_reducible refine Mo.ev_lt ?_ | with_reducible refine Mo.ev_le ?_ | with_reducible refine Mo.ev_gt ?_ | with_reducible refine Mo.ev_ge ?_ | with_reducible refine Mo.ev_eqI ?_ | with_reducible refine Mo.ev_neI ?_ | with_reducible refine Mo.ev_eqS ?_ | with_reducible refine Mo.ev_neS ?_ | with_reducible refine Mo.ev_isN ?_ | with_reducible refine Mo.ev_notN ?_ | with_reducible refine Mo.ev_oNone ?_ | with_reducible refine Mo.ev_oSome ?_ | with_reducible refine Mo.ev_sl ?_ | with_reducible refine Mo.ev_fld ?_ | with_reducible refine Mo.ev_call ?_ | with_reducible refine Mo.ev_meth ?_ | with_reducible refine Mo.ev_new ?_ | with_reducible refine Mo.ev_bi ?_ | with_reducible refine Mo.ev_lenT ?_ | with_reducible refine Mo.ev_lenK ?_ | with_reducible refine Mo.ev_listT ?_ | with_reducible refine Mo.ev_listK ?_ | with_reducible refine Mo.ev_tupT ?_ | with_reducible refine Mo.ev_tupK ?_ | with_reducible refine Mo.ev_bm ?_ | with_reducible refine Mo.ev_pnil ?_ | with_reducible refine Mo.ev_pcons ?_ | with_reducible refine Mo.ev_dict ?_ | with_reducible refine Mo.ev_gN ?_ | with_reducible refine Mo.ev_gnil ?_ | with_reducible refine Mo.ev_gcons ?_ | with_reducible refine Mo.ev_gIx ?_ | with_reducible refine Mo.ev_gFld ?_ | with_reducible refine Mo.ev_iSeq ?_ | with_reducible refine Mo.ev_rng1 ?_ | with_reducible refine Mo.ev_rng2 ?_ | with_reducible refine Mo.ev_enum ?_ | with_reducible refine Mo.ev_comp ?_ | with_reducible refine Mo.nb ?_ | with_reducible refine Mo.ni ?_ | with_reducible refine Mo.nn ?_ | with_reducible refine Mo.p2 ?_ | with_reducible refine Mo.p3 ?_ | with_reducible refine Mo.sqK ?_ | with_reducible refine Mo.itT ?_ | with_reducible refine Mo.itK ?_ | ((with_reducible apply Mo.ev_var); (· exact rfl)) | ((with_reducible apply Mo.ev_mod); (· walk_at "mA")) | ((with_reducible apply Mo.ev_fdiv); (· walk_at "mA")) | ((with_reducible apply Mo.ev_mul); (· walk_at "mA")) | ((with_reducible apply Mo.ev_pow); (· walk_at "mA")) | ((with_reducible apply Mo.ev_ixT); (· exact rfl)) | ((with_reducible apply Mo.ev_dgetS); (· walk_at "mH"); (· walk_at "mL")) | ((with_reducible apply Mo.ev_lenL); (· walk_at "mH")) | ((with_reducible apply Mo.ev_lenD); (· walk_at "mH")) | ((with_reducible apply Mo.ev_listL); (· walk_at "mH")) | ((with_reducible apply Mo.ev_tupL); (· walk_at "mH")) | ((with_reducible apply Mo.ev_append); (· walk_at "mH"); (· walk_at "mA")) | ((with_reducible apply Mo.tl); (· exact rfl)) | ((with_reducible apply Mo.sqL); (· walk_at "mH")) | ((with_reducible apply Mo.itL); (· walk_at "mH")) | ((with_reducible apply Mo.fl); (· walk_at "mH"); (· exact rfl); (· walk_at "mL")) | ((with_reducible apply Mo.sm); (· walk_at "mH"); (· exact rfl); (· walk_at "mL")) | ((with_reducible apply Mo.pf); (· walk_at "mH"); (· exact rfl); (· exact rfl)) | ((with_reducible apply Mo.dp); (· walk_at "mH"); (· exact rfl); (· walk_at "mA")) | ((with_reducible apply Mo.r1); (· walk_at "mA")) | ((with_reducible apply Mo.r2); (· walk_at "mA")) | ((with_reducible apply Mo.tyL); (· walk_at "mH")) | ((with_reducible apply Mo.tyDc); (· walk_at "mH")) | ((with_reducible apply Mo.ev_gT); (· exact rfl)) | ((with_reducible apply Mo.ev_callP); (· exact rfl); (· exact rfl)) | ((with_reducible apply Mo.kd); (· exact rfl); (· exact rfl); (· exact rfl)) | ((with_reducible apply Mo.ev_isi); (· exact rfl)) | ((with_reducible apply Mo.sel_t); (· walk_at "mC")) | ((with_reducible apply Mo.sel_f); (· walk_at "mC"))))
namespace Lw
open PySem Mo
theorem okw_num {k : Int} (h1 : -1000 ≤ k) (h2 : k ≤ 1000) : Okw (num k) := ⟨_, dat_num, by simp [tame, tameL, ok_q_num]; omega, by simp [PyData.bulk, PyData.bulkAll, q_num]⟩
theorem okw_rm {n f m : Int} (h0 : n = 1) (h1 : 0 ≤ f) (h2 : f ≤ 1000) (h3 : 0 ≤ m) (h4 : m ≤ 1000) : Okw (rmw n f m) := ⟨.tuple [.str q_room, .int n, .int f, .int m], by simp only [dat, datL, ok_q_room, Option.map], by simp [tame, tameL, ok_q_room]; omega, by simp [PyData.bulk, PyData.bulkAll, q_room]⟩
theorem okw_proc {k : Int} (h1 : -1000 ≤ k) (h2 : k ≤ 1000) : Okw (.tup [.str q_proc, .int k, .int 0]) := ⟨.tuple [.str q_proc, .int k, .int 0], by simp only [dat, datL, ok_q_proc, Option.map], by simp [tame, tameL, ok_q_proc]; omega, by simp [PyData.bulk, PyData.bulkAll, q_proc]⟩
section
variable {E : XE} {Q : D → Hm → Prop} {H0 h : Hm} {cs : List Int} {lc ld lr lo lp lt p0 p1 : Nat} {b m s : Int} {own pl tc ws : List D}
theorem make_w (w : Wd H0 h cs lc ld lr lo lp lt b own pl tc) (k1 : 0 ≤ s) (k2 : s ≤ 64) (k3 : own.length < 3) (k4 : own.length = pl.length) (k5 : tc.length < 90000)
    (q : ∀ h' p, Wd H0 h' cs lc ld lr lo lp lt b (own ++ [.int 3]) (pl ++ [.loc p]) (tc ++ [.int own.length]) → h'.g p = some (.lst (List.replicate s.toNat (num 0))) → Fr [lo, lp, lt] h h' → h.n ≤ p → p < h'.n → Q (rmw own.length 0 s) h') : Ev E (f_Rooms_make_room [.loc lr, num s, .int 3] h) Q := by
  have ch := w.ch
  refine make_room_ok w.r w.o w.p w.t (by omega) k1 k2 (by omega) k4 (by omega) k5 fun h1 f1 n1 g1 g2 g3 g4 => q h1 _ ?_ g4 f1 (by omega) (by omega)
  obtain ⟨a1, a2, ⟨a, lf, a3, a4, a5⟩, a6, a7, a8, a9, ch, fr⟩ := w
  exact ⟨a1, (f1.g _ (by omega) (by simp; omega)).trans a2, ⟨a, lf, (f1.g _ (by omega) (by simp; omega)).trans a3, a4, a5⟩, (f1.g _ (by omega) (by simp; omega)).trans a6, g1, g2, g3, by omega, fr.after f1 (by simp; omega)⟩
end
theorem set_okw {ws : List D} {w : D} {j : Nat} (h : ∀ x ∈ ws, Okw x) (k : Okw w) : ∀ x ∈ ws.set j w, Okw x := fun x hx => by
  rcases List.mem_or_eq_of_mem_set hx with hx | hx
  · exact h x hx
  · rw [hx]
    exact k
/-- what the rooms are like behind each turn -/
structure Tn (H0 h : Hm) (cs : List Int) (lc ld lr lo lp lt p0 p1 lf lu : Nat) (b : Int) (t : Nat) (s : Int) (ps : List (Int × Int)) : Prop where
  go : ∃ ws tc, Wd H0 h cs lc ld lr lo lp lt b [.int 3, .int 3] [.loc p0, .loc p1] tc ∧ h.g p1 = some (.lst ws) ∧ h.g lu = some (.lst ws) ∧ (∀ x ∈ ws, Okw x) ∧ (ws.length : Int) = s ∧ tc.length ≤ t
  g0 : h.g p0 = some (.lst (List.replicate 4 (num 0)))
  gf : h.g lf = some (.lst (ps.map pt))
  ch : lt < p0 ∧ p0 < p1 ∧ p1 < lf ∧ lf < lu ∧ lu < h.n
theorem law_turn {E : XE} {P : Po} {H0 h : Hm} {cs : List Int} {lc ld lr lo lp lt p0 p1 lf lu : Nat} {b s : Int} {t i : Nat} {ps : List (Int × Int)} {x0 x2 x5 x8 x9 x10 x11 x12 x13 : Option D}
    (T : Tn H0 h cs lc ld lr lo lp lt p0 p1 lf lu b t s ps) (hb : b < 890000) (ht : t < 70000) (hi : i < 8) (po : PsOk s ps) (hp : ps ≠ []) (hn : ps.length ≤ 12) (hs : s ≤ 64)
    (q : ∀ x8 x9 x10 x11 x12 x13 h', Tn H0 h' cs lc ld lr lo lp lt p0 p1 lf lu (b + 3) (t + 1000) s ps → P.nx [x0, some (.loc ld), x2, some (.int (0 + i)), some (.loc lr), x5, some (.loc lf), some (.loc lu), x8, x9, x10, x11, x12, x13] h') :
    EvS E (l_law_1 [x0, some (.loc ld), x2, some (.int (0 + i)), some (.loc lr), x5, some (.loc lf), some (.loc lu), x8, x9, x10, x11, x12, x13] h) P := by
  obtain ⟨⟨ws, tc, w, g1, gu, hw, hl, htc⟩, g0, gf, ch⟩ := T
  unfold l_law_1
  repeat (walk_at "m1")
  have hpl : 0 < ps.length := List.length_pos_iff.mpr hp
  refine take_w w (by omega) (by rw [List.length_map]; omega) (by rw [List.length_map]; omega) fun v1 h1 v11 v12 w1 n1 k1 => ?_
  have e0 := (k1 p0 (by have := w.ch; omega)).trans g0
  have e1 := (k1 p1 (by have := w.ch; omega)).trans g1
  have eu := (k1 lu (by have := w.ch; omega)).trans gu
  have ef := (k1 lf (by have := w.ch; omega)).trans gf
  have w1r := w1.r
  have wch := w1.ch
  obtain ⟨⟨f, m⟩, hq, nq⟩ := nth_map (f := pt) v11 v12
  obtain ⟨po1, po2, po3⟩ := po _ hq
  simp only at po1 po2 po3
  refine ev_ixL ef nq ?_
  repeat (walk_at "m1")
  refine touches_ok w1.r w1.t ?_
  repeat (walk_at "m1")
  have fin : ∀ (h' : Hm) (ws' tc' : List D) (x8 x9 x10 x11 x12 x13 : Option D), Wd H0 h' cs lc ld lr lo lp lt (b + 3) [.int 3, .int 3] [.loc p0, .loc p1] tc' → h'.g p1 = some (.lst ws') → h'.g lu = some (.lst ws') → h'.g p0 = some (.lst (List.replicate 4 (num 0))) → h'.g lf = some (.lst (ps.map pt)) → (∀ x ∈ ws', Okw x) → (ws'.length : Int) = s → tc'.length ≤ t + 1 → lu < h'.n →
      EvS E (sIf (tOr (tNot (tB (eCall (callP 3 0 (fun ds _ => ds) f_told_right) (aCons (eV 4) (aCons (eV 6) (aCons (eV 7) (aNil)))) (aNil)))) (tB (eOp opNe (eBi bRepr (aCons (eMeth (eV 4) q_places_of [(0, callP 2 0 (fun ds _ => ds) f_Rooms_places_of)] (aCons (eC (.int 1)) (aNil)) (aNil)) (aNil))) (eBi bRepr (aCons (eV 7) (aNil)))))) (sRet (eC (.bl false))) (sNext)
        [x0, some (.loc ld), x2, some (.int (0 + i)), some (.loc lr), x5, some (.loc lf), some (.loc lu), x8, x9, x10, x11, x12, x13] h') P := by
    intro h' ws' tc' x8 x9 x10 x11 x12 x13 w2 f1 f2 f0 ff hw2 hl2 ht2 n2
    repeat (walk_at "m1")
    refine told_ok w2 f1 ff f2 (by omega) (by rw [hl2]; exact po) hw2 (by omega) (by omega) fun h3 tc3 w3 k3 fr3 => ?_
    have n3 := fr3.n
    have d1 := (fr3.g p1 (by omega) (by simp; omega)).trans f1
    have du := (fr3.g lu (by omega) (by simp; omega)).trans f2
    have d0 := (fr3.g p0 (by omega) (by simp; omega)).trans f0
    have df := (fr3.g lf (by omega) (by simp; omega)).trans ff
    have w3r := w3.r
    repeat (walk_at "m1")
    refine places_of_ok w3.r w3.o w3.p rfl d1 (by omega) (by simp) ?_
    obtain ⟨ds, c1, c2⟩ := fits_list hw2 (by omega)
    repeat (walk_at "m1")
    refine ev_repr (dat_lst (new_eq rfl) c1) c2 ?_
    repeat (walk_at "m1")
    refine ev_repr (dat_lst (l := lu) (by walk_at "mH") c1) c2 ?_
    repeat (walk_at "m1")
    refine sel_f (by simp) ?_
    repeat (walk_at "m1")
    exact q _ _ _ _ _ _ _ ⟨⟨ws', tc3, w3.new _, by walk_at "mH", by walk_at "mH", hw2, hl2, by omega⟩, by walk_at "mH", by walk_at "mH", by rw [new_n]; omega⟩
  obtain ⟨⟨f0, m0⟩, hq0, nq0⟩ := nth_map (ps := ps) (f := pt) (v := 0) (by omega) (by rw [List.length_map]; omega)
  obtain ⟨po4, po5, po6⟩ := po _ hq0
  simp only at po4 po5 po6
  by_cases hm : 0 < m
  · repeat (walk_at "m1")
    refine take_w w1 (by omega) hm (by omega) fun v2 h2 v21 v22 w2 n2 k2 => ?_
    have e02 := (k2 p0 (by omega)).trans e0
    have e12 := (k2 p1 (by omega)).trans e1
    have eu2 := (k2 lu (by omega)).trans eu
    have ef2 := (k2 lf (by omega)).trans ef
    repeat (walk_at "m1")
    refine ev_ixL ef2 nq0 ?_
    repeat (walk_at "m1")
    refine take_w (w2.new _) (by omega) (by omega) (by omega) fun v3 h3 v31 v32 w3 n3 k3 => ?_
    rw [new_n] at n3
    have e03 := (k3 p0 (by omega)).trans ((new_ne (by omega)).trans e02)
    have e13 := (k3 p1 (by omega)).trans ((new_ne (by omega)).trans e12)
    have eu3 := (k3 lu (by omega)).trans ((new_ne (by omega)).trans eu2)
    have ef3 := (k3 lf (by omega)).trans ((new_ne (by omega)).trans ef2)
    have el3 := (k3 h2.n (by omega)).trans (new_eq rfl)
    obtain ⟨wd, e8, e9⟩ := nth3 (x := num (9 + (0 + (i : Int)))) (y := .tup [.str q_proc, .int (0 + (i : Int)), .int 0]) (z := rmw 1 f0 m0) v31 v32
    have hwd : Okw wd := by
      rcases e9 with rfl | rfl | rfl
      · exact okw_num (by omega) (by omega)
      · exact okw_proc (by omega) (by omega)
      · exact okw_rm rfl (by omega) (by omega) (by omega) (by omega)
    refine ev_ixL el3 e8 ?_
    have w3r := w3.r
    repeat (walk_at "m1")
    refine put_at_ok w3.r w3.p rfl e13 w3.t (by simp) (by omega) v21 v22 (by omega) (by omega) (by omega) (by omega) (ixI_at (by omega) (by omega)) ?_
    repeat (walk_at "m1")
    refine touches_ok (tc := tc ++ [.int 1]) (by walk_at "mH") (by walk_at "mH") ?_
    repeat (walk_at "m1")
    refine gi (l := lu) (xs := ws) (by walk_at "mH") (ixI_at (by omega) (by omega)) ?_
    have w4 := ((w3.putt (tc ++ [.int 1])).putx (x := p1) (by omega) (.lst (ws.set (f + v2).toNat wd))).putx (x := lu) (by omega) (.lst (ws.set (f + v2).toNat wd))
    exact fin _ _ _ _ _ _ _ _ _ (w4.le (by omega)) (by walk_at "mH") (by walk_at "mH") (by walk_at "mH") (by walk_at "mH") (set_okw hw hwd) (by rw [List.length_set]; exact hl) (by rw [List.length_append]; simp only [List.length_cons, List.length_nil]; omega) (by simp only [put_n]; omega)
  · refine sel_f (by simp only [decide_eq_false_iff_not]; exact hm) ?_
    refine es_next ?_
    exact fin _ ws tc _ _ _ _ _ _ (w1.le (by omega)) e1 eu e0 ef hw hl (by omega) (by omega)
end Lw
end
section
local macro_rules | `(tactic| walk_at "mH") => `(tactic| (first | assumption | ((repeat (first | ((with_reducible refine Eq.trans (Mo.put_ne ?_) ?_); (focus (first | omega | (simp only [Mo.put_n, Mo.new_n]; omega)))) | ((with_reducible refine Eq.trans (Mo.new_ne ?_) ?_); (focus (first | omega | (simp only [Mo.put_n, Mo.new_n]; omega)))))); (first | assumption | ((with_reducible refine Eq.trans (Mo.new_eq ?_) ?_); (focus (first | exact rfl | omega | (simp only [Mo.put_n, Mo.new_n]; omega))); (exact rfl)) | ((with_reducible refine Eq.trans (Mo.put_eq ?_) ?_); (focus (first | exact rfl | omega | (simp only [Mo.put_n, Mo.new_n]; omega))); (exact rfl))))))
local macro_rules | `(tactic| walk_at "mA") => `(tactic| (first | omega | exact Nat.le_of_ble_eq_true rfl | (simp only [List.length_cons, List.length_nil, List.length_map, List.length_append]; omega) | (unfold Mo.SL; omega) | (simp only [List.length_cons, List.length_nil, List.length_append, List.length_map]; unfold Mo.SL; omega) | decide | assumption))
local macro_rules | `(tactic| walk_at "mL") => `(tactic| (first | exact rfl | decide +kernel))
local macro_rules | `(tactic| walk_at "mC") => `(tactic| (first | exact rfl | assumption | (simp only [Bool.not_eq_eq_eq_not, Bool.not_true, Bool.not_false, decide_eq_true_eq, decide_eq_false_iff_not]; omega) | (simp only [Bool.not_eq_eq_eq_not, Bool.not_true, Bool.not_false, decide_eq_true_eq, decide_eq_false_iff_not, List.length_map, List.length_cons, List.length_nil, List.length_append]; omega)))
local macro_rules | `(tactic| walk_at "m1") => `(tactic| (first | ((with_reducible apply Mo.ev_var); (· exact rfl)) | with_reducible refine Mo.ev_c ?_ | with_reducible refine Mo.ev_op ?_ | with_reducible refine Mo.ev_cons ?_ | with_reducible refine Mo.ev_nil ?_ | with_reducible refine Mo.es_seq ?_ | with_reducible refine Mo.es_asg ?_ | with_reducible refine Mo.es_expr ?_ | with_reducible refine Mo.es_ret ?_ | with_reducible refine Mo.es_retN ?_ | with_reducible refine Mo.es_if ?_ | with_reducible refine Mo.es_next ?_ | with_reducible refine Mo.es_par2 ?_ | with_reducible refine Mo.es_par3 ?_ | with_reducible refine Mo.es_break ?_ | with_reducible refine Mo.es_cont ?_ | with_reducible refine Mo.es_fld ?_ | with_reducible refine Mo.es_dputS ?_ | with_reducible refine Mo.es_for ?_ | with_reducible refine Mo.ev_op ?_ | with_reducible refine Mo.ev_un ?_ | with_reducible refine Mo.ev_cons ?_ | with_reducible refine Mo.ev_nil ?_ | with_reducible refine Mo.ev_c ?_ | with_reducible refine Mo.ev_tup ?_ | with_reducible refine Mo.ev_lst ?_ | with_reducible refine Mo.ev_eIf ?_ | with_reducible refine Mo.ev_and ?_ | with_reducible refine Mo.ev_or ?_ | with_reducible refine Mo.ev_not ?_ | with_reducible refine Mo.ev_chain ?_ | with_reducible refine Mo.ev_tB ?_ | with_reducible refine Mo.ev_tAnd ?_ | with_reducible refine Mo.ev_tOr ?_ | with_reducible refine Mo.ev_tNot ?_ | with_reducible refine Mo.ev_tYes ?_ | with_reducible refine Mo.ev_add ?_ | with_reducible refine Mo.ev_sub ?_ | with_reducible refine Mo.ev_neg ?_ | with_reducible refine Mo.ev_lt ?_ | with_reducible refine Mo.ev_le ?_ | with_reducible refine Mo.ev_gt ?_ | with_reducible refine Mo.ev_ge ?_ | with_reducible refine Mo.ev_eqI ?_ | with_reducible refine Mo.ev_neI ?_ | with_reducible refine Mo.ev_eqS ?_ | with_reducible refine Mo.ev_neS ?_ | with_reducible refine Mo.ev_isN ?_ | with_reducible refine Mo.ev_notN ?_ | with_reducible refine Mo.ev_oNone ?_ | with_reducible refine Mo.ev_oSome ?_ | with_reducible refine Mo.ev_sl ?_ | with_reducible refine Mo.ev_fld ?_ | with_reducible refine Mo.ev_call ?_ | with_reducible refine Mo.ev_meth ?_ | with_reducible refine Mo.ev_new ?_ | with_reducible refine Mo.ev_bi ?_ | with_reducible refine Mo.ev_lenT ?_ | with_reducible refine Mo.ev_lenK ?_ | with_reducible refine Mo.ev_listT ?_ | with_reducible refine Mo.ev_listK ?_ | with_reducible refine Mo.ev_tupT ?_ | with_reducible refine Mo.ev_tupK ?_ | with_reducible refine Mo.ev_bm ?_ | with_reducible refine Mo.ev_pnil ?_ | with_reducible refine Mo.ev_pcons ?_ | with_reducible refine Mo.ev_dict ?_ | with_reducible refine Mo.ev_gN ?_ | with_reducible refine Mo.ev_gnil ?_ | with_reducible refine Mo.ev_gcons ?_ | with_reducible refine Mo.ev_gIx ?_ | with_reducible refine Mo.ev_gFld ?_ | with_reducible refine Mo.ev_iSeq ?_ | with_reducible refine Mo.ev_rng1 ?_ | with_reducible refine Mo.ev_rng2 ?_ | with_reducible refine Mo.ev_enum ?_ | with_reducible refine Mo.ev_comp ?_ | with_reducible refine Mo.nb ?_ | with_reducible refine Mo.ni ?_ | with_reducible refine Mo.nn ?_ | with_reducible refine Mo.p2 ?_ | with_reducible refine Mo.p3 ?_ | with_reducible refine Mo.sqK ?_ | with_reducible refine Mo.itT ?_ | with_reducible refine Mo.itK ?_ | ((with_reducible apply Mo.ev_var); (· exact rfl)) | ((with_reducible apply Mo.ev_mod); (· walk_at "mA")) | ((with_reducible apply Mo.ev_fdiv); (· walk_at "mA")) | ((with_reducible apply Mo.ev_mul); (· walk_at "mA")) | ((with_reducible apply Mo.ev_pow); (· walk_at "mA")) | ((with_reducible apply Mo.ev_ixT); (· exact rfl)) | ((with_reducible apply Mo.ev_dgetS); (· walk_at "mH"); (· walk_at "mL")) | ((with_reducible apply Mo.ev_lenL); (· walk_at "mH")) | ((with_reducible apply Mo.ev_lenD); (· walk_at "mH")) | ((with_reducible apply Mo.ev_listL); (· walk_at "mH")) | ((with_reducible apply Mo.ev_tupL); (· walk_at "mH")) | ((with_reducible apply Mo.ev_append); (· walk_at "mH"); (· walk_at "mA")) | ((with_reducible apply Mo.tl); (· exact rfl)) | ((with_reducible apply Mo.sqL); (· walk_at "mH")) | ((with_reducible apply Mo.itL); (· walk_at "mH")) | ((with_reducible apply Mo.fl); (· walk_at "mH"); (· exact rfl); (· walk_at "mL")) | ((with_reducible apply Mo.sm); (· walk_at "mH"); (· exact rfl); (· walk_at "mL")) | ((with_reducible apply Mo.pf); (· walk_at "mH"); (· exact rfl); (· exact rfl)) | ((with_reducible apply Mo.dp); (· walk_at "mH"); (· exact rfl); (· walk_at "mA")) | ((with_reducible apply Mo.r1); (· walk_at "mA")) | ((with_reducible apply Mo.r2); (· walk_at "mA")) | ((with_reducible apply Mo.tyL); (· walk_at "mH")) | ((with_reducible apply Mo.tyDc); (· walk_at "mH")) | ((with_reducible apply Mo.ev_gT); (· exact rfl)) | ((with_reducible apply Mo.ev_callP); (· exact rfl); (· exact rfl)) | ((with_reducible apply Mo.kd); (· exact rfl); (· exact rfl); (· exact rfl)) | ((with_reducible apply Mo.ev_isi); (· exact rfl)) | ((with_reducible apply Mo.sel_t); (· walk_at "mC")) | ((with_reducible apply Mo.sel_f); (· walk_at "mC"))))
namespace Lw
open PySem Mo
/-- a draw at l, its cells at lc -/
def DrAt (h : Hm) (lc l : Nat) : Prop := ∃ (cs : List Int) (lf k : Int), cs ≠ [] ∧ h.g l = some (dicO lc k lf) ∧ h.g lc = some (.lst (cs.map .int)) ∧ 0 ≤ k ∧ k ≤ 1000
theorem rep_len {n : Nat} {x : D} : (List.replicate n [x]).flatten = List.replicate n x := by simp
theorem law_body {E : XE} {P : Po} {H0 : Hm} {lc ld : Nat} {x0 x2 x3 x4 x5 x6 x7 x8 x9 x10 x11 x12 x13 : Option D} (d : DrAt H0 lc ld) (k : lc < ld ∧ ld < H0.n)
    (q : ∀ x2 x3 x4 x5 x6 x7 x8 x9 x10 x11 x12 x13 h', Fr [ld] H0 h' → P.nx [x0, some (.loc ld), x2, x3, x4, x5, x6, x7, x8, x9, x10, x11, x12, x13] h') :
    EvS E (l_law_2 [x0, some (.loc ld), x2, x3, x4, x5, x6, x7, x8, x9, x10, x11, x12, x13] H0) P := by
  obtain ⟨cs, lf0, k0, hc, d1, d2, d3, d4⟩ := d
  unfold l_law_2
  repeat (walk_at "m1")
  refine init_ok (new_eq rfl) (by rw [new_n]; omega) fun h1 f1 n1 g1 g2 g3 g4 => ?_
  rw [new_n] at n1 g1 g2 g3 g4
  have w1 : Wd H0 h1 cs lc ld H0.n (H0.n + 1) (H0.n + 1 + 1) (H0.n + 1 + 2) 1000 [] [] [] :=
    ⟨hc, (f1.g lc (by rw [new_n]; omega) (by simp; omega)).trans ((new_ne (by omega)).trans d2), ⟨k0, lf0, (f1.g ld (by rw [new_n]; omega) (by simp; omega)).trans ((new_ne (by omega)).trans d1), d3, d4⟩, g1, g2, g3, g4, by omega, ((Fr.refl [ld] H0).new _).after f1 (by simp)⟩
  generalize hlo : H0.n + 1 = lo at w1
  generalize hlp : lo + 1 = lp at w1
  generalize hlt : lo + 2 = lt at w1
  repeat (walk_at "m1")
  refine take_w (w1.new _) (by omega) (by omega) (by omega) fun v1 h2 v11 v12 w2 n2 k2 => ?_
  have gl := (k2 h1.n (by omega)).trans (new_eq rfl)
  obtain ⟨s, e1, s1, s2⟩ := nth6 v11 v12
  refine ev_ixL gl e1 ?_
  have w2r := w2.r
  repeat (walk_at "m1")
  refine make_w w2 (by omega) (by omega) (by simp) rfl (by simp) fun h3 p0 w3 e3 f3 p01 p02 => ?_
  have w3r := w3.r
  repeat (walk_at "m1")
  refine parts_ok w3 (by omega) e3 (by have := w2.ch; omega) s1 s2 fun h4 lf p1 ps w4 g40 g41 g4f po hp hn ch4 => ?_
  have wch := w4.ch
  have w4r := w4.r
  repeat (walk_at "m1")
  refine ev_rep (xs := [num 0]) (new_eq rfl) (by simp only [List.length_cons, List.length_nil]; unfold SL; omega) ?_
  rw [rep_len]
  repeat (walk_at "m1")
  generalize hlu : (h4.new (O.lst [D.tup [D.str q_num, D.int 0]])).n = lu
  have hlu2 : lu = h4.n + 1 := hlu.symm
  have T0 : Tn H0 ((h4.new (.lst [D.tup [D.str q_num, D.int 0]])).new (.lst (List.replicate s.toNat (num 0)))) cs lc ld H0.n lo lp lt p0 p1 lf lu 1101 2 s ps := by
    refine ⟨⟨_, _, ((w4.new _).new _).le (by omega), by walk_at "mH", new_eq hlu.symm, ?_, ?_, by simp⟩, by walk_at "mH", by walk_at "mH", ?_⟩
    · intro x hx
      rw [(List.mem_replicate.mp hx).2]
      exact okw_num (by omega) (by omega)
    · rw [List.length_replicate]
      omega
    · simp only [new_n]
      have := w2.ch
      omega
  have w5 := (w4.new (.lst [num 0])).new (.lst (List.replicate s.toNat (num 0)))
  refine touches_ok w5.r w5.t ?_
  repeat (walk_at "m1")
  refine ev_neD (p := .tuple [.int 0, .int 1]) (r := .tuple [.int 0, .int 1]) rfl rfl ?_
  rw [eqv_of_tame _ (by simp [tame, tameL])]
  repeat (walk_at "m1")
  obtain ⟨⟨ws, tc, w6, b1, b2, b3, b4, b5⟩, b6, b7, b8⟩ := T0
  refine told_ok (lu := lu) w6 b1 b7 b2 (by omega) (by rw [b4]; exact po) b3 (by omega) (by omega) fun h5 tc5 w7 t5 f5 => ?_
  have n5 := f5.n
  have T1 : Tn H0 h5 cs lc ld H0.n lo lp lt p0 p1 lf lu 1101 1000 s ps := ⟨⟨ws, tc5, w7, (f5.g _ (by omega) (by simp; omega)).trans b1, (f5.g _ (by omega) (by simp; omega)).trans b2, b3, b4, by omega⟩, (f5.g _ (by omega) (by simp; omega)).trans b6, (f5.g _ (by omega) (by simp; omega)).trans b7, by omega⟩
  repeat (walk_at "m1")
  refine for_inv (fun i σ h' => ∃ (x3 x8 x9 x10 x11 x12 x13 : Option D), σ = [x0, some (.loc ld), some (rmw 0 0 4), x3, some (.loc H0.n), some (.int s), some (.loc lf), some (.loc lu), x8, x9, x10, x11, x12, x13] ∧ Tn H0 h' cs lc ld H0.n lo lp lt p0 p1 lf lu (1101 + 3 * i) (1000 + 1000 * i) s ps) _ 0 _ _ ?_ ?_ ?_ ?_
  · exact ⟨x3, x8, x9, x10, x11, x12, x13, rfl, T1⟩
  · exact fun _ _ _ _ _ _ => rfl
  · rintro i d σ h6 hi ⟨y3, y8, y9, y10, y11, y12, y13, rfl, T⟩
    obtain ⟨rfl, hi2⟩ := ints_at hi
    rw [Nat.zero_add] at T ⊢
    have hi3 : i < 8 := hi2
    refine ev_gN ?_
    refine law_turn T (by omega) (by omega) hi3 po hp hn s2 fun y8 y9 y10 y11 y12 y13 h7 T7 => ?_
    refine ⟨_, y8, y9, y10, y11, y12, y13, rfl, ?_⟩
    have e1 : (1101 + 3 * (i : Int)) + 3 = 1101 + 3 * ((i + 1 : Nat) : Int) := by omega
    have e2 : (1000 + 1000 * i) + 1000 = 1000 + 1000 * (i + 1) := by omega
    rw [e1, e2] at T7
    exact T7
  · rintro σ h6 ⟨y3, y8, y9, y10, y11, y12, y13, rfl, T⟩
    obtain ⟨⟨ws6, tc6, w8, c1, c2, c3, c4, c5⟩, c6, c7, c8⟩ := T
    have w8r := w8.r
    repeat (walk_at "m1")
    refine places_of_ok w8.r w8.o w8.p rfl c6 (by omega) (by simp) ?_
    repeat (walk_at "m1")
    refine ev_rep (xs := [num 0]) (new_eq rfl) (by simp only [List.length_cons, List.length_nil]; unfold SL; omega) ?_
    rw [rep_len]
    obtain ⟨ds, a1, a2⟩ := fits_list (xs := List.replicate 4 (num 0)) (fun x hx => by rw [(List.mem_replicate.mp hx).2]; exact okw_num (by omega) (by omega)) (by simp)
    refine ev_neD (dat_lst (l := h6.n) (by walk_at "mH") a1) (dat_lst (new_eq rfl) a1) ?_
    have a3 : tame (.list ds) = true := by
      unfold fits at a2
      exact (Bool.and_eq_true_iff.mp a2).1
    rw [eqv_of_tame _ a3]
    repeat (walk_at "m1")
    refine size_of_ok (h := ((h6.new _).new _).new _) (mo := 3) (p := p0) (ws := List.replicate 4 (num 0)) (pl := [.loc p0, .loc p1]) (lo := lo) (lp := lp) (lt := lt) (by walk_at "mH") (by have := w8.p; walk_at "mH") rfl (by walk_at "mH") (by simp) (by simp) ?_
    repeat (walk_at "m1")
    refine ev_neD dat_num dat_num ?_
    rw [eqv_of_tame _ (by simp [tame, tameL, ok_q_num])]
    repeat (walk_at "m1")
    exact q _ _ _ _ _ _ _ _ _ _ _ _ _ (((w8.fr.new _).new _).new _)
end Lw
end
section
local macro_rules | `(tactic| walk_at "mH") => `(tactic| (first | assumption | ((repeat (first | ((with_reducible refine Eq.trans (Mo.put_ne ?_) ?_); (focus (first | omega | (simp only [Mo.put_n, Mo.new_n]; omega)))) | ((with_reducible refine Eq.trans (Mo.new_ne ?_) ?_); (focus (first | omega | (simp only [Mo.put_n, Mo.new_n]; omega)))))); (first | assumption | ((with_reducible refine Eq.trans (Mo.new_eq ?_) ?_); (focus (first | exact rfl | omega | (simp only [Mo.put_n, Mo.new_n]; omega))); (exact rfl)) | ((with_reducible refine Eq.trans (Mo.put_eq ?_) ?_); (focus (first | exact rfl | omega | (simp only [Mo.put_n, Mo.new_n]; omega))); (exact rfl))))))
local macro_rules | `(tactic| walk_at "mA") => `(tactic| (first | omega | exact Nat.le_of_ble_eq_true rfl | (simp only [List.length_cons, List.length_nil, List.length_map, List.length_append]; omega) | (unfold Mo.SL; omega) | (simp only [List.length_cons, List.length_nil, List.length_append, List.length_map]; unfold Mo.SL; omega) | decide | assumption))
local macro_rules | `(tactic| walk_at "mL") => `(tactic| (first | exact rfl | decide +kernel))
local macro_rules | `(tactic| walk_at "mC") => `(tactic| (first | exact rfl | assumption | (simp only [Bool.not_eq_eq_eq_not, Bool.not_true, Bool.not_false, decide_eq_true_eq, decide_eq_false_iff_not]; omega) | (simp only [Bool.not_eq_eq_eq_not, Bool.not_true, Bool.not_false, decide_eq_true_eq, decide_eq_false_iff_not, List.length_map, List.length_cons, List.length_nil, List.length_append]; omega)))
local macro_rules | `(tactic| walk_at "m1") => `(tactic| (first | ((with_reducible apply Mo.ev_var); (· exact rfl)) | with_reducible refine Mo.ev_c ?_ | with_reducible refine Mo.ev_op ?_ | with_reducible refine Mo.ev_cons ?_ | with_reducible refine Mo.ev_nil ?_ | with_reducible refine Mo.es_seq ?_ | with_reducible refine Mo.es_asg ?_ | with_reducible refine Mo.es_expr ?_ | with_reducible refine Mo.es_ret ?_ | with_reducible refine Mo.es_retN ?_ | with_reducible refine Mo.es_if ?_ | with_reducible refine Mo.es_next ?_ | with_reducible refine Mo.es_par2 ?_ | with_reducible refine Mo.es_par3 ?_ | with_reducible refine Mo.es_break ?_ | with_reducible refine Mo.es_cont ?_ | with_reducible refine Mo.es_fld ?_ | with_reducible refine Mo.es_dputS ?_ | with_reducible refine Mo.es_for ?_ | with_reducible refine Mo.ev_op ?_ | with_reducible refine Mo.ev_un ?_ | with_reducible refine Mo.ev_cons ?_ | with_reducible refine Mo.ev_nil ?_ | with_reducible refine Mo.ev_c ?_ | with_reducible refine Mo.ev_tup ?_ | with_reducible refine Mo.ev_lst ?_ | with_reducible refine Mo.ev_eIf ?_ | with_reducible refine Mo.ev_and ?_ | with_reducible refine Mo.ev_or ?_ | with_reducible refine Mo.ev_not ?_ | with_reducible refine Mo.ev_chain ?_ | with_reducible refine Mo.ev_tB ?_ | with_reducible refine Mo.ev_tAnd ?_ | with_reducible refine Mo.ev_tOr ?_ | with_reducible refine Mo.ev_tNot ?_ | with_reducible refine Mo.ev_tYes ?_ | with_reducible refine Mo.ev_add ?_ | with_reducible refine Mo.ev_sub ?_ | with_reducible refine Mo.ev_neg ?_ | with_reducible refine Mo.ev_lt ?_ | with_reducible refine Mo.ev_le ?_ | with_reducible refine Mo.ev_gt ?_ | with_reducible refine Mo.ev_ge ?_ | with_reducible refine Mo.ev_eqI ?_ | with_reducible refine Mo.ev_neI ?_ | with_reducible refine Mo.ev_eqS ?_ | with_reducible refine Mo.ev_neS ?_ | with_reducible refine Mo.ev_isN ?_ | with_reducible refine Mo.ev_notN ?_ | with_reducible refine Mo.ev_oNone ?_ | with_reducible refine Mo.ev_oSome ?_ | with_reducible refine Mo.ev_sl ?_ | with_reducible refine Mo.ev_fld ?_ | with_reducible refine Mo.ev_call ?_ | with_reducible refine Mo.ev_meth ?_ | with_reducible refine Mo.ev_new ?_ | with_reducible refine Mo.ev_bi ?_ | with_reducible refine Mo.ev_lenT ?_ | with_reducible refine Mo.ev_lenK ?_ | with_reducible refine Mo.ev_listT ?_ | with_reducible refine Mo.ev_listK ?_ | with_reducible refine Mo.ev_tupT ?_ | with_reducible refine Mo.ev_tupK ?_ | with_reducible refine Mo.ev_bm ?_ | with_reducible refine Mo.ev_pnil ?_ | with_reducible refine Mo.ev_pcons ?_ | with_reducible refine Mo.ev_dict ?_ | with_reducible refine Mo.ev_gN ?_ | with_reducible refine Mo.ev_gnil ?_ | with_reducible refine Mo.ev_gcons ?_ | with_reducible refine Mo.ev_gIx ?_ | with_reducible refine Mo.ev_gFld ?_ | with_reducible refine Mo.ev_iSeq ?_ | with_reducible refine Mo.ev_rng1 ?_ | with_reducible refine Mo.ev_rng2 ?_ | with_reducible refine Mo.ev_enum ?_ | with_reducible refine Mo.ev_comp ?_ | with_reducible refine Mo.nb ?_ | with_reducible refine Mo.ni ?_ | with_reducible refine Mo.nn ?_ | with_reducible refine Mo.p2 ?_ | with_reducible refine Mo.p3 ?_ | with_reducible refine Mo.sqK ?_ | with_reducible refine Mo.itT ?_ | with_reducible refine Mo.itK ?_ | ((with_reducible apply Mo.ev_var); (· exact rfl)) | ((with_reducible apply Mo.ev_mod); (· walk_at "mA")) | ((with_reducible apply Mo.ev_fdiv); (· walk_at "mA")) | ((with_reducible apply Mo.ev_mul); (· walk_at "mA")) | ((with_reducible apply Mo.ev_pow); (· walk_at "mA")) | ((with_reducible apply Mo.ev_ixT); (· exact rfl)) | ((with_reducible apply Mo.ev_dgetS); (· walk_at "mH"); (· walk_at "mL")) | ((with_reducible apply Mo.ev_lenL); (· walk_at "mH")) | ((with_reducible apply Mo.ev_lenD); (· walk_at "mH")) | ((with_reducible apply Mo.ev_listL); (· walk_at "mH")) | ((with_reducible apply Mo.ev_tupL); (· walk_at "mH")) | ((with_reducible apply Mo.ev_append); (· walk_at "mH"); (· walk_at "mA")) | ((with_reducible apply Mo.tl); (· exact rfl)) | ((with_reducible apply Mo.sqL); (· walk_at "mH")) | ((with_reducible apply Mo.itL); (· walk_at "mH")) | ((with_reducible apply Mo.fl); (· walk_at "mH"); (· exact rfl); (· walk_at "mL")) | ((with_reducible apply Mo.sm); (· walk_at "mH"); (· exact rfl); (· walk_at "mL")) | ((with_reducible apply Mo.pf); (· walk_at "mH"); (· exact rfl); (· exact rfl)) | ((with_reducible apply Mo.dp); (· walk_at "mH"); (· exact rfl); (· walk_at "mA")) | ((with_reducible apply Mo.r1); (· walk_at "mA")) | ((with_reducible apply Mo.r2); (· walk_at "mA")) | ((with_reducible apply Mo.tyL); (· walk_at "mH")) | ((with_reducible apply Mo.tyDc); (· walk_at "mH")) | ((with_reducible apply Mo.ev_gT); (· exact rfl)) | ((with_reducible apply Mo.ev_callP); (· exact rfl); (· exact rfl)) | ((with_reducible apply Mo.kd); (· exact rfl); (· exact rfl); (· exact rfl)) | ((with_reducible apply Mo.ev_isi); (· exact rfl)) | ((with_reducible apply Mo.sel_t); (· walk_at "mC")) | ((with_reducible apply Mo.sel_f); (· walk_at "mC"))))
namespace Lw
open PySem Mo
/-- the draws' objects lie one behind the other -/
def DF (h : Hm) : Nat → Nat → List D → Prop
  | lo, hi, [] => lo ≤ hi
  | lo, hi, d :: r => ∃ lc l, d = .loc l ∧ lo ≤ lc ∧ lc < l ∧ DrAt h lc l ∧ DF h (l + 1) hi r
theorem DF.le {h : Hm} : ∀ {xs : List D} {lo hi : Nat}, DF h lo hi xs → lo ≤ hi
  | [], _, _, k => k
  | d :: r, lo, hi, ⟨lc, l, _, k1, k2, _, k3⟩ => by
    have := DF.le k3
    omega
theorem DrAt.fr {h h' : Hm} {lc l : Nat} (a : DrAt h lc l) (e1 : h'.g lc = h.g lc) (e2 : h'.g l = h.g l) : DrAt h' lc l := by
  obtain ⟨cs, lf, k, a1, a2, a3, a4⟩ := a
  exact ⟨cs, lf, k, a1, e2.trans a2, e1.trans a3, a4⟩
theorem DF.fr {h h' : Hm} : ∀ {xs : List D} {lo hi : Nat}, DF h lo hi xs → (∀ l, lo ≤ l → l < hi → h'.g l = h.g l) → DF h' lo hi xs
  | [], _, _, k, _ => k
  | d :: r, lo, hi, ⟨lc, l, e, k1, k2, a, k3⟩, f => by
    have := DF.le k3
    exact ⟨lc, l, e, k1, k2, a.fr (f _ (by omega) (by omega)) (f _ (by omega) (by omega)), DF.fr k3 fun x x1 x2 => f x (by omega) x2⟩
theorem DF.snoc {h : Hm} {lc l : Nat} : ∀ {xs : List D} {lo hi : Nat}, DF h lo hi xs → hi ≤ lc → lc < l → DrAt h lc l → DF h lo (l + 1) (xs ++ [.loc l])
  | [], lo, hi, k, k1, k2, a => ⟨lc, l, rfl, by have : lo ≤ hi := k; omega, k2, a, Nat.le_refl _⟩
  | d :: r, lo, hi, ⟨lc', l', e, k1, k2, a, k3⟩, j1, j2, b => ⟨lc', l', e, k1, k2, a, DF.snoc k3 j1 j2 b⟩
theorem DF.up {h : Hm} : ∀ {xs : List D} {lo hi hi' : Nat}, DF h lo hi xs → hi ≤ hi' → DF h lo hi' xs
  | [], _, _, _, k, j => Nat.le_trans k j
  | d :: r, lo, hi, hi', ⟨lc', l', e, k1, k2, a, k3⟩, j => ⟨lc', l', e, k1, k2, a, DF.up k3 j⟩
theorem DF.low {h : Hm} : ∀ {xs : List D} {lo hi lo' : Nat}, DF h lo hi xs → lo' ≤ lo → DF h lo' hi xs
  | [], _, _, _, k, j => Nat.le_trans j k
  | d :: r, lo, hi, hi', ⟨lc', l', e, k1, k2, a, k3⟩, j => ⟨lc', l', e, by omega, k2, a, k3⟩
theorem numb_at : ∀ {xs : List D} {n i : Nat} {d : D}, (Mo.numbered n xs)[i]? = some d → ∃ x, xs[i]? = some x ∧ d = .tup [.int ((n + i : Nat) : Int), x]
  | [], _, _, _, e => by simp [Mo.numbered] at e
  | x :: xs, n, 0, d, e => ⟨x, rfl, (Option.some.inj e).symm⟩
  | x :: xs, n, i + 1, d, e => by
    obtain ⟨y, e1, e2⟩ := numb_at (xs := xs) (n := n + 1) (i := i) e
    exact ⟨y, e1, by rw [e2, show n + 1 + i = n + (i + 1) by omega]⟩
theorem numb_len : ∀ {xs : List D} {n : Nat}, (Mo.numbered n xs).length = xs.length
  | [], _ => rfl
  | x :: xs, n => congrArg (· + 1) numb_len
section
variable {E : XE} {Q : D → Hm → Prop} {h : Hm}
theorem draws_from {P : Po} {x0 x2 x3 x4 : Option D} {lq : Nat} {cs : List Int} (hc : cs ≠ []) (hl : cs.length ≤ 100) (e : h.g lq = some (.lst (cs.map .int))) (kq : lq < h.n)
    (q : ∀ h' lf xs, h'.g lf = some (.lst xs) → lf < h'.n → DF h' (lf + 1) h'.n xs → P.rt (.loc lf) h') :
    EvS E (sSeq (sAsg (eLst (aNil)) (gN 2)) (sSeq (sFor (iEnum (eSl (eV 1) oNone (oSome (eC (.int 6))))) (gT 2 [gN 3, gN 4]) l_draws_1) (sRet (eV 2))) [x0, some (.loc lq), x2, x3, x4] h) P := by
  repeat (walk_at "m1")
  have ect : cutL (List.map D.int cs) none (some 6) = (List.map D.int cs).take 6 := cut_to (i := 6)
  rw [ect]
  refine for_inv (fun i σ h' => ∃ (x3 x4 : Option D) (xs : List D), σ = [x0, some (.loc lq), some (.loc h.n), x3, x4] ∧ h'.g lq = some (.lst (cs.map .int)) ∧ h'.g h.n = some (.lst xs) ∧ h.n + 1 < h'.n ∧ xs.length = i ∧ h'.g (h.n + 1) = some (.lst ((List.map D.int cs).take 6)) ∧ DF h' (h.n + 1 + 1) h'.n xs) _ 0 _ _ ?_ ?_ ?_ ?_
  · exact ⟨_, _, [], rfl, by walk_at "mH", by walk_at "mH", by simp only [new_n]; omega, rfl, by walk_at "mH", by show _ ≤ _; simp only [new_n]; omega⟩
  · rintro i σ h2 _ _ ⟨x3, x4, xs, rfl, a1, a2, a3, a4, a5, a6⟩
    exact ok_seq a5
  · rintro i d σ h2 hi ⟨x3, x4, xs, rfl, a1, a2, a3, a4, a5, a6⟩
    rw [Nat.zero_add] at a4 ⊢
    obtain ⟨y, y1, rfl⟩ := numb_at hi
    have hi2 : i < 6 ∧ i < cs.length := by
      have := (List.getElem?_eq_some_iff.mp y1).1
      rw [List.length_take, List.length_map] at this
      omega
    obtain ⟨c, rfl⟩ : ∃ c, y = .int c := by
      obtain ⟨c, _, e⟩ := List.mem_map.mp (List.mem_of_mem_take (List.mem_of_getElem? y1))
      exact ⟨c, e.symm⟩
    rw [Nat.zero_add]
    unfold l_draws_1
    repeat (walk_at "m1")
    rw [cut_from (by rw [List.length_map]; omega), cut_to, ← List.map_drop, ← List.map_take]
    refine ev_cat (xs := (cs.drop i).map .int) (ys := (cs.take i).map .int) (by walk_at "mH") (by walk_at "mH") (by rw [List.length_map, List.length_map, List.length_drop, List.length_take]; unfold SL; omega) ?_
    rw [← List.map_append]
    have hne : cs.drop i ++ cs.take i ≠ [] := by
      intro z
      have := congrArg List.length z
      rw [List.length_append, List.length_drop, List.length_take] at this
      simp only [List.length_nil] at this
      omega
    repeat (walk_at "m1")
    refine sel_of (fun _ => ?_) (fun _ => ?_)
    all_goals
      repeat (walk_at "m1")
      refine ⟨_, _, xs ++ [_], rfl, by walk_at "mH", put_eq rfl, by simp only [put_n, new_n]; omega, by rw [List.length_append, a4]; rfl, by walk_at "mH", ?_⟩
      refine DF.snoc (lc := h2.n + 1 + 1) (l := h2.n + 1 + 1 + 1) (hi := h2.n) (a6.fr fun l k1 k2 => ?_) (by omega) (by omega) ⟨_, _, _, hne, by walk_at "mH", by walk_at "mH", by omega, by omega⟩
      exact (put_ne (by omega)).trans ((new_ne (by simp only [new_n]; omega)).trans ((new_ne (by simp only [new_n]; omega)).trans ((new_ne (by simp only [new_n]; omega)).trans (new_ne (by omega)))))
  · rintro σ h2 ⟨x3, x4, xs, rfl, a1, a2, a3, a4, a5, a6⟩
    repeat (walk_at "m1")
    exact q _ _ xs a2 (by omega) (a6.low (by omega))
theorem draws_ok {ns : List Int} (hl : ns.length ≤ 63) (q : ∀ h' lf xs, h'.g lf = some (.lst xs) → lf < h'.n → DF h' (lf + 1) h'.n xs → Q (.loc lf) h') : Ev E (f_draws [.kl (ns.map .int)] h) Q := by
  refine u_draws ?_
  unfold b_draws
  cases ns with
  | nil =>
    repeat (walk_at "m1")
    refine ev_neD (p := .list []) (r := .list []) rfl (dat_lst (new_eq rfl) rfl) ?_
    refine nb ?_
    refine sel_f rfl ?_
    (walk_at "m1")
    (walk_at "m1")
    (walk_at "m1")
    (walk_at "m1")
    (walk_at "m1")
    (walk_at "m1")
    exact draws_from (cs := [0]) (by simp) (by simp) (new_eq rfl) (by simp only [new_n]; omega) q
  | cons n r =>
    repeat (walk_at "m1")
    refine ev_neD (p := .list ((n :: r).map .int)) (r := .list []) (Option.map_eq_some_iff.mpr ⟨_, datL_ints _, rfl⟩) (dat_lst (new_eq rfl) rfl) ?_
    refine nb ?_
    refine sel_t rfl ?_
    (walk_at "m1")
    (walk_at "m1")
    (walk_at "m1")
    (walk_at "m1")
    (walk_at "m1")
    (walk_at "m1")
    exact draws_from (cs := n :: r) (by simp) (by omega) (new_eq rfl) (by simp only [new_n]; omega) q
/-- the walk over the draws -/
theorem walk_draws {P : Po} {x0 : Option D} {lf : Nat} {all : List D} : ∀ (xs : List D) (lo hi : Nat) (σ : Mo.Env) (h : Hm) (x1 x2 x3 x4 x5 x6 x7 x8 x9 x10 x11 x12 x13 : Option D), DF h lo hi xs → h.g lf = some (.lst all) → lf < lo → hi ≤ h.n → σ = [x0, x1, x2, x3, x4, x5, x6, x7, x8, x9, x10, x11, x12, x13] →
    (∀ x1 x2 x3 x4 x5 x6 x7 x8 x9 x10 x11 x12 x13 h', P.nx [x0, x1, x2, x3, x4, x5, x6, x7, x8, x9, x10, x11, x12, x13] h') → EvS E (forGo (gN 1) l_law_2 (fun h' => decide (h'.seq (.loc lf) = some all)) xs σ h) P
  | [], lo, hi, σ, h, x1, x2, x3, x4, x5, x6, x7, x8, x9, x10, x11, x12, x13, d, e, k1, k2, es, q => by
    subst es
    exact for_nil (ok_seq e) (q _ _ _ _ _ _ _ _ _ _ _ _ _ _)
  | y :: r, lo, hi, σ, h, x1, x2, x3, x4, x5, x6, x7, x8, x9, x10, x11, x12, x13, ⟨lc, l, ey, j1, j2, a, d⟩, e, k1, k2, es, q => by
    subst es ey
    have dl := d.le
    refine for_cons (ok_seq e) (ev_gN ?_)
    refine law_body a (by omega) fun y2 y3 y4 y5 y6 y7 y8 y9 y10 y11 y12 y13 h2 f2 => ?_
    have n2 := f2.n
    exact walk_draws r (l + 1) hi _ h2 _ _ _ _ _ _ _ _ _ _ _ _ _ (d.fr fun z z1 z2 => f2.g z (by omega) (by simp; omega)) ((f2.g lf (by omega) (by simp; omega)).trans e) (by omega) (by omega) rfl q
end
theorem law_true (ns : List Int) (hl : ns.length ≤ 63) : ∃ h', f_law [.kl (ns.map .int)] Hm.start = .ok (.bl true) h' := by
  have w : Ev (fun _ _ _ => False) (f_law [.kl (ns.map .int)] Hm.start) fun v _ => v = .bl true := by
    refine u_law ?_
    unfold b_law
    repeat (walk_at "m1")
    refine draws_ok hl fun h1 lf xs e1 k1 d1 => ?_
    repeat (walk_at "m1")
    refine walk_draws xs _ _ _ _ _ _ _ _ _ _ _ _ _ _ _ _ _ d1 e1 (by omega) (Nat.le_refl _) rfl fun y1 y2 y3 y4 y5 y6 y7 y8 y9 y10 y11 y12 y13 h2 => ?_
    repeat (walk_at "m1")
    rfl
  cases e : f_law [.kl (ns.map .int)] Hm.start with
  | ok v h =>
    rw [e] at w
    exact ⟨h, by rw [show v = .bl true from w]⟩
  | exc c fs h => rw [e] at w; exact w.elim
  | bad => rw [e] at w; exact w.elim
end Lw
end
section
/-! The simulation: what M says of a construct is a reading of it. -/
namespace Mo
open PySem L2 PyProof.Rows
structure Gm where
  K : PySem.W.Frag
  cA : Nat → Addr
  oA : Nat → Addr
/-- a list that nothing changes: a known one, or one of the module -/
def SqK (K : PySem.W.Frag) (H : Hp) (a : Addr) (xs : List V) : Prop := (∃ o, H a = some (.frz o (.lst xs))) ∨
  ∃ (o : Obj) (its : Array Value) (n : Nat), K.lookup a = some o ∧ (o.cls = .type "list" ∧ o.dict = none) ∧ o.data = .seq its n ∧ its.size ≤ sizeLine ∧ Vals xs its.toList
theorem SqK.l {K : PySem.W.Frag} {H : Hp} {a : Addr} {xs : List V} (h : SqK K H a xs) : SqL K H a xs := by
  rcases h with ⟨o, h⟩ | ⟨o, its, n, h1, ⟨h2, h3⟩, h4, h5, h6⟩
  · exact .inl (.inr ⟨o, h⟩)
  · exact .inr ⟨o, its, n, h1, h2, h3, h4, h5, h6⟩
mutual
inductive VRel (G : Gm) (ρ : List Addr) (H : Hp) : V → D → Prop
  | non : VRel G ρ H .non .non
  | bl (b : Bool) : VRel G ρ H (.bl b) (.bl b)
  | int (i : Int) : VRel G ρ H (.int i) (.int i)
  | str (x : Str) : VRel G ρ H (.str x) (.str x)
  | tup {a : Addr} {vs : List V} {ds : List D} : SqT G.K H a vs → VRels G ρ H vs ds → VRel G ρ H (.ref a) (.tup ds)
  | kl {a : Addr} {vs : List V} {ds : List D} : SqK G.K H a vs → VRels G ρ H vs ds → VRel G ρ H (.ref a) (.kl ds)
  | loc {a : Addr} {l : Nat} : ρ[l]? = some a → VRel G ρ H (.ref a) (.loc l)
  | ty (n : String) : VRel G ρ H (.ty n) (.ty n)
  | ob (k : Nat) : VRel G ρ H (.ref (G.oA k)) (.ob k)
inductive VRels (G : Gm) (ρ : List Addr) (H : Hp) : List V → List D → Prop
  | nil : VRels G ρ H [] []
  | cons {v : V} {d : D} {vs : List V} {ds : List D} : VRel G ρ H v d → VRels G ρ H vs ds → VRels G ρ H (v :: vs) (d :: ds)
end
def NRel {κ : Type} (G : Gm) (ρ : List Addr) (H : Hp) : List (κ × V) → List (κ × D) → Prop := Paired fun p q => p.1 = q.1 ∧ VRel G ρ H p.2 q.2
def ORel (G : Gm) (ρ : List Addr) (H : Hp) (a : Addr) : O → Prop
  | .lst ds => ∃ vs, H a = some (.lst vs) ∧ VRels G ρ H vs ds
  | .dic kds => ∃ kvs, H a = some (.dK kvs) ∧ NRel G ρ H kvs kds
  | .ins c fs => ∃ dx fvs, H a = some (.ins (G.cA c) dx fvs) ∧ NRel G ρ H fvs fs
structure Grow (ρ : List Addr) (H : Hp) (ρ' : List Addr) (H' : Hp) : Prop where
  pre : ∃ t, ρ' = ρ ++ t
  tup : ∀ b xs, H b = some (.tup xs) → H' b = some (.tup xs)
  frz : ∀ b o u, H b = some (.frz o u) → H' b = some (.frz o u)
  out : ∀ b o, H b = some o → b ∉ ρ → H' b = some o ∧ b ∉ ρ'
/-- what values lean on -/
structure Ext (ρ : List Addr) (H : Hp) (ρ' : List Addr) (H' : Hp) : Prop where
  pre : ∃ t, ρ' = ρ ++ t
  tup : ∀ b xs, H b = some (.tup xs) → H' b = some (.tup xs)
  frz : ∀ b o u, H b = some (.frz o u) → H' b = some (.frz o u)
structure HRel (G : Gm) (ρ : List Addr) (H : Hp) (h : Hm) : Prop where
  len : ρ.length = h.n
  inj : ∀ (i j : Nat) a, ρ[i]? = some a → ρ[j]? = some a → i = j
  has : ∀ a, a ∈ ρ → ∃ o, H a = some o
  obj : ∀ l o, h.g l = some o → ∃ a, ρ[l]? = some a ∧ ORel G ρ H a o

section
variable {G : Gm} {ρ ρ' ρ1 ρ2 : List Addr} {H H' H1 H2 : Hp}
theorem Grow.refl (ρ : List Addr) (H : Hp) : Grow ρ H ρ H := ⟨⟨[], by simp⟩, fun _ _ e => e, fun _ _ _ e => e, fun _ _ e n => ⟨e, n⟩⟩
theorem Grow.trans (a : Grow ρ H ρ1 H1) (b : Grow ρ1 H1 ρ2 H2) : Grow ρ H ρ2 H2 := by
  obtain ⟨t, e⟩ := a.pre
  obtain ⟨u, f⟩ := b.pre
  refine ⟨⟨t ++ u, by rw [f, e, List.append_assoc]⟩, fun c xs q => b.tup c xs (a.tup c xs q), fun c o u q => b.frz c o u (a.frz c o u q), fun c o q n => ?_⟩
  obtain ⟨q1, n1⟩ := a.out c o q n
  exact b.out c o q1 n1
theorem Grow.ext (g : Grow ρ H ρ' H') : Ext ρ H ρ' H' := ⟨g.pre, g.tup, g.frz⟩
theorem Ext.at (g : Ext ρ H ρ' H') {l : Nat} {a : Addr} (h : ρ[l]? = some a) : ρ'[l]? = some a := by
  obtain ⟨t, rfl⟩ := g.pre
  have hl := (List.getElem?_eq_some_iff.mp h).1
  rw [List.getElem?_append_left hl]
  exact h
theorem Ext.sqT (g : Ext ρ H ρ' H') {K : PySem.W.Frag} {a : Addr} {xs : List V} (h : SqT K H a xs) : SqT K H' a xs := by
  rcases h with (h | ⟨o, h⟩) | h
  · exact .inl (.inl (g.tup _ _ h))
  · exact .inl (.inr ⟨o, g.frz _ _ _ h⟩)
  · exact .inr h
theorem Ext.sqK (g : Ext ρ H ρ' H') {K : PySem.W.Frag} {a : Addr} {xs : List V} (h : SqK K H a xs) : SqK K H' a xs := by
  rcases h with ⟨o, h⟩ | h
  · exact .inl ⟨o, g.frz _ _ _ h⟩
  · exact .inr h
mutual
theorem VRel.ext (g : Ext ρ H ρ' H') : ∀ {v : V} {d : D}, VRel G ρ H v d → VRel G ρ' H' v d
  | _, _, .non => .non
  | _, _, .bl b => .bl b
  | _, _, .int i => .int i
  | _, _, .str x => .str x
  | _, _, .tup h hs => .tup (g.sqT h) (VRels.ext g hs)
  | _, _, .kl h hs => .kl (g.sqK h) (VRels.ext g hs)
  | _, _, .loc h => .loc (g.at h)
  | _, _, .ty n => .ty n
  | _, _, .ob k => .ob k
theorem VRels.ext (g : Ext ρ H ρ' H') : ∀ {vs : List V} {ds : List D}, VRels G ρ H vs ds → VRels G ρ' H' vs ds
  | _, _, .nil => .nil
  | _, _, .cons h hs => .cons (VRel.ext g h) (VRels.ext g hs)
end
theorem NRel.ext {κ : Type} (g : Ext ρ H ρ' H') {kvs : List (κ × V)} {kds : List (κ × D)} (h : NRel G ρ H kvs kds) : NRel G ρ' H' kvs kds := Paired.mapP h fun _ _ q => ⟨q.1, q.2.ext g⟩
theorem ORel.ext (g : Ext ρ H ρ' H') {a : Addr} {o : O} (e : H' a = H a) (h : ORel G ρ H a o) : ORel G ρ' H' a o := by
  cases o with
  | lst ds => obtain ⟨vs, e1, r⟩ := h; exact ⟨vs, e.trans e1, r.ext g⟩
  | dic ds => obtain ⟨vs, e1, r⟩ := h; exact ⟨vs, e.trans e1, r.ext g⟩
  | ins c fs => obtain ⟨dx, fvs, e1, r⟩ := h; exact ⟨dx, fvs, e.trans e1, r.ext g⟩
theorem VRel.grow (g : Grow ρ H ρ' H') {v : V} {d : D} (q : VRel G ρ H v d) : VRel G ρ' H' v d := q.ext g.ext
theorem VRels.grow (g : Grow ρ H ρ' H') {vs : List V} {ds : List D} (q : VRels G ρ H vs ds) : VRels G ρ' H' vs ds := q.ext g.ext
theorem NRel.grow {κ : Type} (g : Grow ρ H ρ' H') {kvs : List (κ × V)} {kds : List (κ × D)} (h : NRel G ρ H kvs kds) : NRel G ρ' H' kvs kds := h.ext g.ext
theorem ORel.grow (g : Grow ρ H ρ' H') {a : Addr} {o : O} (e : H' a = H a) (h : ORel G ρ H a o) : ORel G ρ' H' a o := h.ext g.ext e
theorem Grow.at (g : Grow ρ H ρ' H') {l : Nat} {a : Addr} (h : ρ[l]? = some a) : ρ'[l]? = some a := g.ext.at h
theorem VRels.length : ∀ {vs : List V} {ds : List D}, VRels G ρ H vs ds → vs.length = ds.length
  | _, _, .nil => rfl
  | _, _, .cons _ hs => congrArg (· + 1) hs.length
theorem VRels.get : ∀ {vs : List V} {ds : List D} {i : Nat} {d : D}, VRels G ρ H vs ds → ds[i]? = some d → ∃ v, vs[i]? = some v ∧ VRel G ρ H v d
  | _, _, _, _, .nil, e => by simp at e
  | _, _, 0, d, .cons h _, e => by simp at e; subst e; exact ⟨_, rfl, h⟩
  | _, _, i + 1, d, .cons _ hs, e => by
    obtain ⟨v, e1, r⟩ := VRels.get (i := i) hs (by simpa using e)
    exact ⟨v, by simpa using e1, r⟩
theorem VRels.append : ∀ {vs ws : List V} {ds es : List D}, VRels G ρ H vs ds → VRels G ρ H ws es → VRels G ρ H (vs ++ ws) (ds ++ es)
  | _, _, _, _, .nil, r => r
  | _, _, _, _, .cons h hs, r => .cons h (hs.append r)
theorem VRels.set {v : V} {d : D} (r : VRel G ρ H v d) : ∀ {vs : List V} {ds : List D} (i : Nat), VRels G ρ H vs ds → VRels G ρ H (vs.set i v) (ds.set i d)
  | _, _, _, .nil => .nil
  | _, _, 0, .cons _ hs => .cons r hs
  | _, _, i + 1, .cons h hs => .cons h (VRels.set r i hs)
theorem VRels.take : ∀ {vs : List V} {ds : List D} (n : Nat), VRels G ρ H vs ds → VRels G ρ H (vs.take n) (ds.take n)
  | _, _, 0, _ => .nil
  | _, _, _ + 1, .nil => .nil
  | _, _, n + 1, .cons h hs => .cons h (hs.take n)
theorem VRels.drop : ∀ {vs : List V} {ds : List D} (n : Nat), VRels G ρ H vs ds → VRels G ρ H (vs.drop n) (ds.drop n)
  | _, _, 0, r => r
  | _, _, _ + 1, .nil => .nil
  | _, _, n + 1, .cons _ hs => hs.drop n
theorem VRels.rep {vs : List V} {ds : List D} (r : VRels G ρ H vs ds) : ∀ k : Nat, VRels G ρ H (List.replicate k vs).flatten (List.replicate k ds).flatten
  | 0 => .nil
  | k + 1 => by
    rw [List.replicate_succ, List.replicate_succ, List.flatten_cons, List.flatten_cons]
    exact r.append (r.rep k)
theorem NRel.length {κ : Type} {kvs : List (κ × V)} {kds : List (κ × D)} (h : NRel G ρ H kvs kds) : kvs.length = kds.length := Paired.length h
/-- a new object -/
theorem HRel.fresh {h : Hm} (r : HRel G ρ H h) {p : Addr} (hp : H p = none) : p ∉ ρ := fun m => by
  obtain ⟨o, e⟩ := r.has p m
  rw [hp] at e; cases e
theorem Grow.tmp {p : Addr} (hp : H p = none) (ho : HO) : Grow ρ H ρ (upd H p ho) :=
  ⟨⟨[], by simp⟩, fun b xs e => by rw [upd_ne (ne_of_none e hp)]; exact e, fun b o u e => by rw [upd_ne (ne_of_none e hp)]; exact e, fun b o e n => ⟨by rw [upd_ne (ne_of_none e hp)]; exact e, n⟩⟩
theorem HRel.tmp {h : Hm} (r : HRel G ρ H h) {p : Addr} (hp : H p = none) (ho : HO) : HRel G ρ (upd H p ho) h := by
  refine ⟨r.len, r.inj, fun a m => ?_, fun l o e => ?_⟩
  · obtain ⟨o, e⟩ := r.has a m
    exact ⟨o, by rw [upd_ne (ne_of_none e hp)]; exact e⟩
  · obtain ⟨a, e1, q⟩ := r.obj l o e
    obtain ⟨u, e2⟩ := r.has a (List.mem_of_getElem? e1)
    exact ⟨a, e1, q.grow (Grow.tmp hp ho) (upd_ne (ne_of_none e2 hp))⟩
theorem Grow.new {h : Hm} (r : HRel G ρ H h) {p : Addr} (hp : H p = none) (ho : HO) : Grow ρ H (ρ ++ [p]) (upd H p ho) :=
  ⟨⟨[p], rfl⟩, fun b xs e => by rw [upd_ne (ne_of_none e hp)]; exact e, fun b o u e => by rw [upd_ne (ne_of_none e hp)]; exact e, fun b o e n => ⟨by rw [upd_ne (ne_of_none e hp)]; exact e, fun m => by
    rcases List.mem_append.mp m with m | m
    · exact n m
    · exact ne_of_none e hp (List.mem_singleton.mp m)⟩⟩
theorem HRel.new {h : Hm} (r : HRel G ρ H h) {p : Addr} (hp : H p = none) {ho : HO} {o : O} (q : ORel G (ρ ++ [p]) (upd H p ho) p o) : HRel G (ρ ++ [p]) (upd H p ho) (h.new o) := by
  have hn := r.fresh hp
  have g : Grow ρ H (ρ ++ [p]) (upd H p ho) := Grow.new r hp ho
  refine ⟨by rw [List.length_append, r.len]; rfl, fun i j a e1 e2 => ?_, fun a m => ?_, fun l u e => ?_⟩
  · rw [List.getElem?_append] at e1 e2
    split at e1 <;> split at e2
    · exact r.inj i j a e1 e2
    · rename_i h1 h2
      have e3 := List.mem_of_getElem? e2
      rw [List.mem_singleton.mp e3] at e1
      exact absurd (List.mem_of_getElem? e1) hn
    · rename_i h1 h2
      have e3 := List.mem_of_getElem? e1
      rw [List.mem_singleton.mp e3] at e2
      exact absurd (List.mem_of_getElem? e2) hn
    · have h1 := (List.getElem?_eq_some_iff.mp e1).1
      have h2 := (List.getElem?_eq_some_iff.mp e2).1
      simp only [List.length_cons, List.length_nil] at h1 h2
      omega
  · rcases List.mem_append.mp m with m | m
    · obtain ⟨o, e⟩ := r.has a m
      exact ⟨o, by rw [upd_ne (ne_of_none e hp)]; exact e⟩
    · rw [List.mem_singleton.mp m]
      exact ⟨ho, upd_same⟩
  · by_cases hl : l = h.n
    · have e' : (if l = h.n then some o else h.g l) = some u := e
      rw [if_pos hl] at e'
      cases e'
      refine ⟨p, ?_, q⟩
      rw [hl, ← r.len]
      simp
    · have e' : (if l = h.n then some o else h.g l) = some u := e
      rw [if_neg hl] at e'
      obtain ⟨a, e1, q1⟩ := r.obj l u e'
      obtain ⟨u2, e2⟩ := r.has a (List.mem_of_getElem? e1)
      exact ⟨a, g.at e1, q1.grow g (upd_ne (ne_of_none e2 hp))⟩
theorem HRel.at {h : Hm} (r : HRel G ρ H h) {l : Nat} {a : Addr} {o : O} (e : h.g l = some o) (ha : ρ[l]? = some a) : ORel G ρ H a o := by
  obtain ⟨b, e1, q⟩ := r.obj l o e
  rw [ha] at e1
  cases e1
  exact q
theorem Grow.put {h : Hm} (r : HRel G ρ H h) {l : Nat} {a : Addr} {u : HO} (ha : ρ[l]? = some a) (hu : H a = some u) (hm : Mut (some u)) (u' : HO) : Grow ρ H ρ (upd H a u') := by
  refine ⟨⟨[], by simp⟩, fun b xs e => ?_, fun b o v e => ?_, fun b o e n => ⟨?_, n⟩⟩
  · rw [upd_ne (ne_of e hu (by rintro rfl; exact hm))]; exact e
  · rw [upd_ne (ne_of e hu (by rintro rfl; exact hm))]; exact e
  · rw [upd_ne]
    · exact e
    · rintro rfl
      exact n (List.mem_of_getElem? ha)
theorem HRel.put {h : Hm} (r : HRel G ρ H h) {l : Nat} {a : Addr} {u u' : HO} {o : O} (ha : ρ[l]? = some a) (hu : H a = some u) (hm : Mut (some u)) (q : ORel G ρ (upd H a u') a o) : HRel G ρ (upd H a u') (h.put l o) := by
  have g := Grow.put r ha hu hm u'
  refine ⟨r.len, r.inj, fun b m => ?_, fun k v e => ?_⟩
  · by_cases hb : b = a
    · exact ⟨u', by rw [hb]; exact upd_same⟩
    · obtain ⟨o, e⟩ := r.has b m
      exact ⟨o, by rw [upd_ne hb]; exact e⟩
  · have e' : (if k = l then some o else h.g k) = some v := e
    by_cases hk : k = l
    · rw [if_pos hk] at e'
      cases e'
      exact ⟨a, by rw [hk]; exact ha, q⟩
    · rw [if_neg hk] at e'
      obtain ⟨b, e1, q1⟩ := r.obj k v e'
      refine ⟨b, e1, q1.grow g (upd_ne ?_)⟩
      rintro rfl
      exact hk (r.inj k l b e1 ha)
theorem HRel.seqL {h : Hm} (r : HRel G ρ H h) {x : D} {v : V} {ds : List D} (e : h.seq x = some ds) (q : VRel G ρ H v x) : ∃ a vs, v = .ref a ∧ SqL G.K H a vs ∧ VRels G ρ H vs ds := by
  cases q with
  | kl h1 h2 =>
    cases (show some _ = some ds from e)
    exact ⟨_, _, rfl, h1.l, h2⟩
  | @loc a l ha =>
    have e' : (match h.g l with | some (.lst xs) => some xs | _ => none) = some ds := e
    split at e'
    · rename_i xs e1
      cases e'
      obtain ⟨vs, e2, q⟩ := r.at e1 ha
      exact ⟨a, vs, rfl, SqL.of e2, q⟩
    · cases e'
  | non => cases e
  | bl b => cases e
  | int i => cases e
  | str i => cases e
  | tup _ _ => cases e
  | ty n => cases e
  | ob k => cases e
end

/-! ### what is wanted of a result -/
def SRel (G : Gm) (ρ : List Addr) (H : Hp) (σ : L2.St) (env : Env) : Prop := σ.length = env.length ∧ ∀ (i : Nat) (d : D), env[i]? = some (some d) → ∃ v, σ[i]? = some (some v) ∧ VRel G ρ H v d
def Wp {α β : Type} (G : Gm) (E : XK) (rel : List Addr → Hp → β → α → Prop) (r : R α) (ρ : List Addr) (H : Hp) (Q : β → Hp → Prop) : Prop := match r with
  | .ok a h' => ∀ ρ' H' b, Grow ρ H ρ' H' → HRel G ρ' H' h' → rel ρ' H' b a → Q b H'
  | .exc c fs h' => ∀ ρ' H' d vs, Grow ρ H ρ' H' → HRel G ρ' H' h' → H' d = some (.xd vs) → NRel G ρ' H' vs fs → E (.ref (G.cA c)) (some d) H'
  | .bad => False
def WpS (G : Gm) (E : XK) (r : RS) (ρ : List Addr) (H : Hp) (D : Ends) : Prop := match r with
  | .nx env h' => ∀ ρ' H' σ', Grow ρ H ρ' H' → HRel G ρ' H' h' → SRel G ρ' H' σ' env → D.nx σ' H'
  | .bk env h' => ∀ ρ' H' σ', Grow ρ H ρ' H' → HRel G ρ' H' h' → SRel G ρ' H' σ' env → D.bk σ' H'
  | .ct env h' => ∀ ρ' H' σ', Grow ρ H ρ' H' → HRel G ρ' H' h' → SRel G ρ' H' σ' env → D.ct σ' H'
  | .rt d h' => ∀ ρ' H' v, Grow ρ H ρ' H' → HRel G ρ' H' h' → VRel G ρ' H' v d → D.rt v H'
  | .exc c fs h' => ∀ ρ' H' d vs, Grow ρ H ρ' H' → HRel G ρ' H' h' → H' d = some (.xd vs) → NRel G ρ' H' vs fs → E (.ref (G.cA c)) (some d) H'
  | .bad => False
section
variable {G : Gm} {E : XK} {ρ ρ' ρ1 : List Addr} {H H' H1 : Hp} {α β γ δ : Type} {rel : List Addr → Hp → β → α → Prop} {rel' : List Addr → Hp → δ → γ → Prop}
theorem SRel.grow (g : Grow ρ H ρ' H') {σ : L2.St} {env : Env} (s : SRel G ρ H σ env) : SRel G ρ' H' σ env := ⟨s.1, fun i d e => let ⟨v, e1, q⟩ := s.2 i d e; ⟨v, e1, q.grow g⟩⟩
theorem SRel.set {σ : L2.St} {env : Env} (s : SRel G ρ H σ env) {v : V} {d : D} (q : VRel G ρ H v d) (i : Nat) : SRel G ρ H (σ.set i (some v)) (env.set i (some d)) := by
  refine ⟨by rw [List.length_set, List.length_set]; exact s.1, fun j e hj => ?_⟩
  by_cases h : i = j
  · subst h
    rw [List.getElem?_set] at hj ⊢
    rw [if_pos rfl] at hj ⊢
    rw [s.1]
    split at hj
    · rename_i hl
      cases hj
      exact ⟨v, by rw [if_pos hl], q⟩
    · cases hj
  · rw [List.getElem?_set_ne h] at hj ⊢
    exact s.2 j e hj
theorem SRel.unset {σ : L2.St} {env : Env} (s : SRel G ρ H σ env) (i : Nat) : SRel G ρ H (σ.set i none) (env.set i none) := by
  refine ⟨by rw [List.length_set, List.length_set]; exact s.1, fun j e hj => ?_⟩
  by_cases h : i = j
  · subst h
    rw [List.getElem?_set] at hj
    rw [if_pos rfl] at hj
    split at hj
    · cases hj
    · cases hj
  · rw [List.getElem?_set_ne h] at hj ⊢
    exact s.2 j e hj
theorem SRel.wipe {σ : L2.St} {env : Env} (s : SRel G ρ H σ env) : ∀ vs : List Nat, SRel G ρ H (L2.wipe σ vs) (wipe env vs)
  | [] => s
  | v :: vs => (SRel.wipe s vs).unset v
theorem Wp.grow (g : Grow ρ H ρ1 H1) {r : R α} {Q : β → Hp → Prop} (w : Wp G E rel r ρ H Q) : Wp G E rel r ρ1 H1 Q := by
  cases r with
  | ok a h' => exact fun ρ' H' b g' hr q => w ρ' H' b (g.trans g') hr q
  | exc c fs h' => exact fun ρ' H' d vs g' hr e q => w ρ' H' d vs (g.trans g') hr e q
  | bad => exact w
theorem WpS.grow (g : Grow ρ H ρ1 H1) {r : RS} {D : Ends} (w : WpS G E r ρ H D) : WpS G E r ρ1 H1 D := by
  cases r with
  | nx a h' => exact fun ρ' H' b g' hr q => w ρ' H' b (g.trans g') hr q
  | bk a h' => exact fun ρ' H' b g' hr q => w ρ' H' b (g.trans g') hr q
  | ct a h' => exact fun ρ' H' b g' hr q => w ρ' H' b (g.trans g') hr q
  | rt a h' => exact fun ρ' H' b g' hr q => w ρ' H' b (g.trans g') hr q
  | exc c fs h' => exact fun ρ' H' d vs g' hr e q => w ρ' H' d vs (g.trans g') hr e q
  | bad => exact w
/-- one part, then the rest -/
theorem Wp.seq {r : R α} {f : α → Hm → R γ} {Q : δ → Hp → Prop} {Q1 : β → Hp → Prop} (w : Wp G E rel' (r.bind f) ρ H Q)
    (k : ∀ a h' ρ' H' b, Grow ρ H ρ' H' → HRel G ρ' H' h' → rel ρ' H' b a → Wp G E rel' (f a h') ρ' H' Q → Q1 b H') : Wp G E rel r ρ H Q1 := by
  cases r with
  | ok a h' => exact fun ρ' H' b g hr q => k a h' ρ' H' b g hr q (Wp.grow g w)
  | exc c fs h' => exact w
  | bad => exact w
theorem Wp.stm {r : R α} {f : α → Hm → RS} {D : Ends} {Q1 : β → Hp → Prop} (w : WpS G E (r.stm f) ρ H D)
    (k : ∀ a h' ρ' H' b, Grow ρ H ρ' H' → HRel G ρ' H' h' → rel ρ' H' b a → WpS G E (f a h') ρ' H' D → Q1 b H') : Wp G E rel r ρ H Q1 := by
  cases r with
  | ok a h' => exact fun ρ' H' b g hr q => k a h' ρ' H' b g hr q (WpS.grow g w)
  | exc c fs h' => exact w
  | bad => exact w
theorem Wp.val {a : α} {h : Hm} {b : β} {Q : β → Hp → Prop} (w : Wp G E rel (.ok a h) ρ H Q) (r : HRel G ρ H h) (q : rel ρ H b a) : Q b H := w ρ H b (Grow.refl ρ H) r q
theorem Wp.ifR {c : Bool} {r : R α} {Q : β → Hp → Prop} (w : Wp G E rel (ifR c r) ρ H Q) : c = true ∧ Wp G E rel r ρ H Q := by
  cases c with
  | true => exact ⟨rfl, w⟩
  | false => exact False.elim w
theorem Wp.optR {o : Option α} {h : Hm} {Q : β → Hp → Prop} (w : Wp G E rel (optR o h) ρ H Q) : ∃ a, o = some a ∧ Wp G E rel (.ok a h) ρ H Q := by
  cases o with
  | none => exact False.elim w
  | some a => exact ⟨a, rfl, w⟩
end
/-! ### readings -/
section
variable (G : Gm) (E : XK)
def rd (m : ME) : TE := fun σ H Q => ∃ ρ env h, SRel G ρ H σ env ∧ HRel G ρ H h ∧ Wp G E (VRel G) (m env h) ρ H Q
def rdA (m : MA) : TA := fun σ H Q => ∃ ρ env h, SRel G ρ H σ env ∧ HRel G ρ H h ∧ Wp G E (VRels G) (m env h) ρ H Q
def rdT (m : MT) : TT := fun σ H Q => ∃ ρ env h, SRel G ρ H σ env ∧ HRel G ρ H h ∧ Wp G E (fun _ _ b a => b = a) (m env h) ρ H Q
def rdO (m : MO) : TO := fun σ H Q => ∃ ρ env h, SRel G ρ H σ env ∧ HRel G ρ H h ∧ Wp G E (fun _ _ b a => b = a) (m env h) ρ H Q
def rdG (m : MG) : TG := fun v σ H Q => ∃ ρ env h d, SRel G ρ H σ env ∧ HRel G ρ H h ∧ VRel G ρ H v d ∧ Wp G E (SRel G) (m d env h) ρ H Q
def rdGs (ms : List MG) : TGs := fun vs σ H Q => ∃ ρ env h ds, SRel G ρ H σ env ∧ HRel G ρ H h ∧ VRels G ρ H vs ds ∧ Wp G E (SRel G) (gsAll ms ds env h) ρ H Q
def rdS (m : MS) : TS := fun D σ H => ∃ ρ env h, SRel G ρ H σ env ∧ HRel G ρ H h ∧ WpS G E (m env h) ρ H D
end
theorem pe_w {X : Cx} {e : Expr} {t t' : TE} (h : PE X e t) (w : ∀ σ H Q, t' σ H Q → t σ H Q) : PE X e t' := ⟨fun pins s σ H Q I q => h.run pins s σ H Q I (w σ H Q q)⟩
theorem pt_w {X : Cx} {e : Expr} {t t' : TT} (h : PT X e t) (w : ∀ σ H Q, t' σ H Q → t σ H Q) : PT X e t' := ⟨fun pins s σ H Q I q => h.run pins s σ H Q I (w σ H Q q)⟩
theorem ps_w {X : Cx} {e : Stmt} {t t' : TS} (h : PS X e t) (w : ∀ D σ H, t' D σ H → t D σ H) : PS X e t' := ⟨fun pins s σ H D I q => h.run pins s σ H D I (w D σ H q)⟩
theorem pss_w {X : Cx} {e : List Stmt} {t t' : TS} (h : PSs X e t) (w : ∀ D σ H, t' D σ H → t D σ H) : PSs X e t' := ⟨fun pins s σ H D I q => h.run pins s σ H D I (w D σ H q)⟩
end Mo
end
section
/-! Rules of expressions. -/
namespace Mo
open PySem L2 PyProof.Rows
section
variable {G : Gm} {E : XK} {X : Cx} {a b c : Expr} {ma mb mc : ME} {pos : Pos}
theorem me_var (i : Nat) {x : Str} (hN : X.N[i]? = some x := by rfl) (hv : Vis X.env.scope x := by first | exact Or.inl rfl | exact Or.inr (Or.inl rfl) | exact Or.inr (Or.inr rfl)) (hd : (x == ("__debug__" : Str)) = false := by decide)
    (hcd : (x == ("__classdict__" : Str)) = false := by decide) : PE X (.Name x pos) (rd G E (eV i)) :=
  pe_w (pe_var (i := i) hN hv hd hcd) fun σ H Q ⟨ρ, env, h, hs, hr, w⟩ => by
    unfold eV at w
    split at w
    · rename_i d e
      obtain ⟨v, e1, q⟩ := hs.2 i d e
      exact ⟨v, e1, w.val hr q⟩
    · exact False.elim w
theorem rd_c {v : V} {d : D} (q : ∀ ρ H, VRel G ρ H v d) (σ : L2.St) (H : Hp) (Q : VK) (w : rd G E (eC d) σ H Q) : tC v σ H Q := by
  obtain ⟨ρ, env, h, hs, hr, w⟩ := w
  exact Wp.val w hr (q ρ H)
theorem me_int {i j pos} : PE X (.Constant (.int i) j pos) (rd G E (eC (.int i))) := pe_w pe_int (rd_c fun _ _ => .int i)
theorem me_bl {i j pos} : PE X (.Constant (.bool i) j pos) (rd G E (eC (.bl i))) := pe_w pe_bl (rd_c fun _ _ => .bl i)
theorem me_non {j pos} : PE X (.Constant .none j pos) (rd G E (eC .non)) := pe_w pe_non (rd_c fun _ _ => .non)
theorem me_str {x y : Str} {j pos} (h : x = y := by decide +kernel) : PE X (.Constant (.str x) j pos) (rd G E (eC (.str y))) := by
  subst h
  exact pe_w pe_str (rd_c fun _ _ => .str x)
/-- a constant of the module -/
theorem me_glob {x : Str} {v : V} {u : Value} {d : D} (hg : Gl X x) (hm : X.mg x = some u) (r : RelV v u) (q : ∀ ρ H, VRel G ρ H v d) (hd : (x == ("__debug__" : Str)) = false := by decide) : PE X (.Name x pos) (rd G E (eC d)) :=
  pe_w (pe_glob hg hm r hd) (rd_c q)
def OpS (G : Gm) (E : XK) (r : R2) (f : D → D → Hm → R D) : Prop := ∀ (ρ : List Addr) (H : Hp) (h : Hm) (x y : D) (v u : V) (Q : VK), HRel G ρ H h → VRel G ρ H v x → VRel G ρ H u y → Wp G E (VRel G) (f x y h) ρ H Q → r v u H Q
def UnS (G : Gm) (E : XK) (r : V → Hp → VK → Prop) (f : D → Hm → R D) : Prop := ∀ (ρ : List Addr) (H : Hp) (h : Hm) (x : D) (v : V) (Q : VK), HRel G ρ H h → VRel G ρ H v x → Wp G E (VRel G) (f x h) ρ H Q → r v H Q
theorem rd_op {r : R2} {f : D → D → Hm → R D} (hf : OpS G E r f) (σ : L2.St) (H : Hp) (Q : VK) (w : rd G E (eOp f ma mb) σ H Q) : tOp r (rd G E ma) (rd G E mb) σ H Q := by
  obtain ⟨ρ, env, h, hs, hr, w⟩ := w
  refine ⟨ρ, env, h, hs, hr, w.seq fun x h1 ρ1 H1 v g1 r1 q1 w1 => ?_⟩
  refine ⟨ρ1, env, h1, hs.grow g1, r1, w1.seq fun y h2 ρ2 H2 u g2 r2 q2 w2 => ?_⟩
  exact hf ρ2 H2 h2 x y v u Q r2 (q1.grow g2) q2 w2
theorem me_op {op : Operator} {r : R2} {f : D → D → Hm → R D} (ho : OpR X (binaryOp op) r) (hf : OpS G E r f) (ha : PE X a (rd G E ma)) (hb : PE X b (rd G E mb)) : PE X (.BinOp a op b pos) (rd G E (eOp f ma mb)) :=
  pe_w (pe_op ho ha hb) (rd_op hf)
theorem me_cmp {op : CmpOp} {r : R2} {f : D → D → Hm → R D} (ho : OpR X (compareOp op) r) (hf : OpS G E r f) (ha : PE X a (rd G E ma)) (hb : PE X b (rd G E mb)) (hm : behindInMarks op b = false := by first | exact nomark _ | rfl) : PE X (.Compare a [op] [b] pos) (rd G E (eOp f ma mb)) :=
  pe_w (pe_cmpR ho ha hb hm) (rd_op hf)
theorem rd_tB {t : TE} {m : ME} (k : ∀ σ H Q, rd G E m σ H Q → t σ H Q) (σ : L2.St) (H : Hp) (Q : Bool → Hp → Prop) (w : rdT G E (tB m) σ H Q) : L2.tTest t σ H Q := by
  obtain ⟨ρ, env, h, hs, hr, w⟩ := w
  refine k σ H _ ⟨ρ, env, h, hs, hr, w.seq fun x h1 ρ1 H1 v g1 r1 q1 w1 => ?_⟩
  cases q1 with
  | bl b => exact ⟨b, rfl, w1.val r1 rfl⟩
  | _ => exact False.elim w1
theorem mt_cmp {op : CmpOp} {r : R2} {f : D → D → Hm → R D} (ho : OpR X (compareOp op) r) (hf : OpS G E r f) (ha : PE X a (rd G E ma)) (hb : PE X b (rd G E mb)) (hm : behindInMarks op b = false := by first | exact nomark _ | rfl) : PT X (.Compare a [op] [b] pos) (rdT G E (tB (eOp f ma mb))) :=
  pt_w (pt_cmpR ho ha hb hm) (rd_tB (rd_op hf))
/-- an expression whose value is a truth -/
theorem mt_val (ha : PE X a (rd G E ma)) (he : ∀ whole, isTrue a X.env whole = (do let v ← whole; standAt a.pos; holding [v] (truthy v)) := by intro _; rfl) : PT X a (rdT G E (tB ma)) :=
  pt_w (pt_val ha he) fun σ H Q w => rd_tB (fun _ _ _ z => z) σ H Q w
theorem me_un {op : UnaryOp} {r : V → Hp → VK → Prop} {f : D → Hm → R D} (ho : UnR X (unaryOp op) r) (hf : UnS G E r f) (ha : PE X a (rd G E ma)) : PE X (.UnaryOp op a pos) (rd G E (eUn f ma)) :=
  pe_w (pe_un ho ha) fun σ H Q ⟨ρ, env, h, hs, hr, w⟩ => ⟨ρ, env, h, hs, hr, w.seq fun x h1 ρ1 H1 v g1 r1 q1 w1 => hf ρ1 H1 h1 x v Q r1 q1 w1⟩
theorem rd_chain {r r' : R2} {f g : D → D → Hm → R D} (hf : OpS G E r f) (hg : OpS G E r' g) (σ : L2.St) (H : Hp) (Q : VK) (w : rd G E (eChain f g ma mb mc) σ H Q) : tChain r r' (rd G E ma) (rd G E mb) (rd G E mc) σ H Q := by
  obtain ⟨ρ, env, h, hs, hr, w⟩ := w
  refine ⟨ρ, env, h, hs, hr, w.seq fun x h1 ρ1 H1 v g1 r1 q1 w1 => ?_⟩
  refine ⟨ρ1, env, h1, hs.grow g1, r1, w1.seq fun y h2 ρ2 H2 u g2 r2 q2 w2 => ?_⟩
  refine hf ρ2 H2 h2 x y v u _ r2 (q1.grow g2) q2 (w2.seq fun z h3 ρ3 H3 k g3 r3 q3 w3 => ?_)
  cases q3 with
  | bl k =>
    refine ⟨k, rfl, ?_⟩
    cases k with
    | true =>
      show rd G E mc σ H3 _
      refine ⟨ρ3, env, h3, ((hs.grow g1).grow g2).grow g3, r3, Wp.seq w3 fun z2 h4 ρ4 H4 k2 g4 r4 q4 w4 => ?_⟩
      exact hg ρ4 H4 h4 y z2 u k2 Q r4 ((q2.grow g3).grow g4) q4 w4
    | false => exact Wp.val w3 r3 (.bl false)
  | _ => exact False.elim w3
theorem me_chain {op op' : CmpOp} {r r' : R2} {f g : D → D → Hm → R D} (ho : OpR X (compareOp op) r) (ho' : OpR X (compareOp op') r') (hf : OpS G E r f) (hg : OpS G E r' g) (ha : PE X a (rd G E ma)) (hb : PE X b (rd G E mb)) (hc : PE X c (rd G E mc))
    (hm : lastMarks [op, op'] [b, c] = false := by rfl) : PE X (.Compare a [op, op'] [b, c] pos) (rd G E (eChain f g ma mb mc)) := pe_w (pe_chain ho ho' ha hb hc hm) (rd_chain hf hg)
theorem mt_chain {op op' : CmpOp} {r r' : R2} {f g : D → D → Hm → R D} (ho : OpR X (compareOp op) r) (ho' : OpR X (compareOp op') r') (hf : OpS G E r f) (hg : OpS G E r' g) (ha : PE X a (rd G E ma)) (hb : PE X b (rd G E mb)) (hc : PE X c (rd G E mc))
    (hm : lastMarks [op, op'] [b, c] = false := by rfl) : PT X (.Compare a [op, op'] [b, c] pos) (rdT G E (tB (eChain f g ma mb mc))) := pt_w (pt_chain ho ho' ha hb hc hm) (rd_tB (rd_chain hf hg))

/-! ### and, or, not -/
variable {ta tb : MT} {es : List Expr}
theorem mw_and1 (ha : PT X a (rdT G E ta)) : PW X (.BoolOp .And [a] pos) (rdT G E ta) := pw_and1 ha
theorem mw_or1 (ha : PT X a (rdT G E ta)) : PW X (.BoolOp .Or [a] pos) (rdT G E ta) := pw_or1 ha
theorem pw_w {e : Expr} {t t' : TT} (h : PW X e t) (w : ∀ σ H Q, t' σ H Q → t σ H Q) : PW X e t' := ⟨fun wh pins s σ H Q I q => h.run wh pins s σ H Q I (w σ H Q q)⟩
theorem mw_and (ha : PT X a (rdT G E ta)) (hb : PW X (.BoolOp .And (b :: es) pos) (rdT G E tb)) : PW X (.BoolOp .And (a :: b :: es) pos) (rdT G E (tAnd ta tb)) :=
  pw_w (pw_and ha hb) fun σ H Q ⟨ρ, env, h, hs, hr, w⟩ => ⟨ρ, env, h, hs, hr, w.seq fun k h1 ρ1 H1 v g1 r1 q1 w1 => by
    cases q1
    cases k with
    | true => exact ⟨ρ1, env, h1, hs.grow g1, r1, w1⟩
    | false => exact Wp.val w1 r1 rfl⟩
theorem mw_or (ha : PT X a (rdT G E ta)) (hb : PW X (.BoolOp .Or (b :: es) pos) (rdT G E tb)) : PW X (.BoolOp .Or (a :: b :: es) pos) (rdT G E (tOr ta tb)) :=
  pw_w (pw_or ha hb) fun σ H Q ⟨ρ, env, h, hs, hr, w⟩ => ⟨ρ, env, h, hs, hr, w.seq fun k h1 ρ1 H1 v g1 r1 q1 w1 => by
    cases q1
    cases k with
    | true => exact Wp.val w1 r1 rfl
    | false => exact ⟨ρ1, env, h1, hs.grow g1, r1, w1⟩⟩
theorem mt_not (ha : PT X a (rdT G E ta)) : PT X (.UnaryOp .Not a pos) (rdT G E (tNot ta)) :=
  pt_w (pt_not ha) fun σ H Q ⟨ρ, env, h, hs, hr, w⟩ => ⟨ρ, env, h, hs, hr, w.seq fun k h1 ρ1 H1 v g1 r1 q1 w1 => by
    cases q1
    exact Wp.val w1 r1 rfl⟩
theorem me_and (ha : PE X a (rd G E ma)) (hb : PE X (.BoolOp .And (b :: es) pos) (rd G E mb)) : PE X (.BoolOp .And (a :: b :: es) pos) (rd G E (eAnd ma mb)) :=
  pe_w (pe_and ha hb) fun σ H Q ⟨ρ, env, h, hs, hr, w⟩ => ⟨ρ, env, h, hs, hr, w.seq fun x h1 ρ1 H1 v g1 r1 q1 w1 => by
    cases q1 with
    | bl k =>
      refine ⟨k, rfl, ?_⟩
      cases k with
      | true => exact ⟨ρ1, env, h1, hs.grow g1, r1, w1⟩
      | false => exact Wp.val w1 r1 (.bl false)
    | _ => exact False.elim w1⟩
theorem me_or (ha : PE X a (rd G E ma)) (hb : PE X (.BoolOp .Or (b :: es) pos) (rd G E mb)) : PE X (.BoolOp .Or (a :: b :: es) pos) (rd G E (eOr ma mb)) :=
  pe_w (pe_or ha hb) fun σ H Q ⟨ρ, env, h, hs, hr, w⟩ => ⟨ρ, env, h, hs, hr, w.seq fun x h1 ρ1 H1 v g1 r1 q1 w1 => by
    cases q1 with
    | bl k =>
      refine ⟨k, rfl, ?_⟩
      cases k with
      | true => exact Wp.val w1 r1 (.bl true)
      | false => exact ⟨ρ1, env, h1, hs.grow g1, r1, w1⟩
    | _ => exact False.elim w1⟩
theorem me_one {op} (ha : PE X a (rd G E ma)) : PE X (.BoolOp op [a] pos) (rd G E ma) := pe_one ha
theorem me_not (ha : PE X a (rd G E ma)) : PE X (.UnaryOp .Not a pos) (rd G E (eNot ma)) :=
  pe_w (pe_not ha) fun σ H Q ⟨ρ, env, h, hs, hr, w⟩ => ⟨ρ, env, h, hs, hr, w.seq fun x h1 ρ1 H1 v g1 r1 q1 w1 => by
    cases q1 with
    | bl k => exact ⟨k, rfl, Wp.val w1 r1 (.bl (!k))⟩
    | _ => exact False.elim w1⟩
theorem me_if (hc : PT X c (rdT G E ta)) (ha : PE X a (rd G E ma)) (hb : PE X b (rd G E mb)) : PE X (.IfExp c a b pos) (rd G E (eIf ta ma mb)) :=
  pe_w (pe_ifExp hc ha hb) fun σ H Q ⟨ρ, env, h, hs, hr, w⟩ => ⟨ρ, env, h, hs, hr, w.seq fun k h1 ρ1 H1 v g1 r1 q1 w1 => by
    cases q1
    cases k with
    | true => exact ⟨ρ1, env, h1, hs.grow g1, r1, w1⟩
    | false => exact ⟨ρ1, env, h1, hs.grow g1, r1, w1⟩⟩

/-! ### lists of expressions, displays -/
variable {as : MA}
theorem pa_w {es : List Expr} {t t' : TA} (h : PA X es t) (w : ∀ σ H Q, t' σ H Q → t σ H Q) : PA X es t' := ⟨fun pos pins s σ H Q I q => h.run pos pins s σ H Q I (w σ H Q q)⟩
theorem rd_aNil (σ : L2.St) (H : Hp) (Q : List V → Hp → Prop) (w : rdA G E aNil σ H Q) : tNil σ H Q := by
  obtain ⟨ρ, env, h, hs, hr, w⟩ := w
  exact Wp.val w hr .nil
theorem rd_aCons (σ : L2.St) (H : Hp) (Q : List V → Hp → Prop) (w : rdA G E (aCons ma as) σ H Q) : tCons (rd G E ma) (rdA G E as) σ H Q := by
  obtain ⟨ρ, env, h, hs, hr, w⟩ := w
  refine ⟨ρ, env, h, hs, hr, w.seq fun x h1 ρ1 H1 v g1 r1 q1 w1 => ?_⟩
  refine ⟨ρ1, env, h1, hs.grow g1, r1, w1.seq fun xs h2 ρ2 H2 vs g2 r2 q2 w2 => ?_⟩
  exact Wp.val w2 r2 (.cons (q1.grow g2) q2)
theorem ma_nil : PA X [] (rdA G E aNil) := pa_w pa_nil rd_aNil
theorem ma_cons (ha : PE X a (rd G E ma)) (hr : PA X es (rdA G E as)) (hs : starEach (a :: es) X.env = (false, eval a X.env) :: starEach es X.env := by rfl) : PA X (a :: es) (rdA G E (aCons ma as)) :=
  pa_w (pa_cons ha hr hs) rd_aCons
theorem sl_le {n : Nat} (h : n ≤ SL) : n ≤ sizeLine := Nat.le_trans h (by unfold SL; decide)
theorem sl_lt {n : Nat} (h : n < SL) : n < sizeLine := Nat.lt_of_lt_of_le h (by unfold SL; decide)
theorem me_tup {x1} (h : PA X es (rdA G E as)) : PE X (.Tuple es x1 pos) (rd G E (eTup as)) :=
  pe_w (pe_tup h) fun σ H Q ⟨ρ, env, hh, hs, hr, w⟩ => ⟨ρ, env, hh, hs, hr, w.seq fun ds h1 ρ1 H1 vs g1 r1 q1 w1 => by
    obtain ⟨c, w2⟩ := w1.ifR
    have c := of_decide_eq_true c
    refine ⟨by rw [q1.length]; exact sl_le c, fun p hp => ?_⟩
    have g := Grow.tmp (ρ := ρ1) hp (.tup vs)
    exact w2 ρ1 _ _ g (r1.tmp hp _) (.tup (SqT.of upd_same) (q1.grow g))⟩
theorem me_lst (h : PA X es (rdA G E as)) : PE X (.List es pos) (rd G E (eLst as)) :=
  pe_w (pe_lst h) fun σ H Q ⟨ρ, env, hh, hs, hr, w⟩ => ⟨ρ, env, hh, hs, hr, w.seq fun ds h1 ρ1 H1 vs g1 r1 q1 w1 => by
    obtain ⟨c, w2⟩ := w1.ifR
    have c := of_decide_eq_true c
    refine ⟨by rw [q1.length]; exact sl_le c, fun p hp => ?_⟩
    have g := Grow.new r1 hp (.lst vs)
    refine w2 _ _ _ g (r1.new hp ⟨vs, upd_same, q1.grow g⟩) (.loc ?_)
    rw [← r1.len]
    simp⟩
/-- what a new list gives -/
theorem Wp.newL {ρ : List Addr} {H : Hp} {h : Hm} {ds : List D} {vs : List V} {Q : VK} (w : Wp G E (VRel G) (.ok (.loc h.n) (h.new (.lst ds))) ρ H Q) (r : HRel G ρ H h) (q : VRels G ρ H vs ds) {p : Addr} (hp : H p = none) : Q (.ref p) (upd H p (.lst vs)) := by
  have g := Grow.new r hp (.lst vs)
  refine w _ _ _ g (r.new hp ⟨vs, upd_same, q.grow g⟩) (.loc ?_)
  rw [← r.len]
  simp
/-- what a list written gives -/
theorem Wp.putL {ρ : List Addr} {H : Hp} {h : Hm} {l : Nat} {p : Addr} {ds : List D} {vs ws : List V} {d : D} {v : V} {Q : VK} (w : Wp G E (VRel G) (.ok d (h.put l (.lst ds))) ρ H Q) (r : HRel G ρ H h) (hl : ρ[l]? = some p) (e : H p = some (.lst ws))
    (q : VRels G ρ H vs ds) (qd : VRel G ρ H v d) : Q v (upd H p (.lst vs)) := by
  have g := Grow.put r hl e trivial (.lst vs)
  exact w _ _ _ g (r.put hl e trivial ⟨vs, upd_same, q.grow g⟩) (qd.grow g)
/-! ### the operators -/
theorem os_add : OpS G E (fun x y H Q => rI0 (fun i j => .int (i + j)) x y H Q ∨ (∃ i j, x = .str i ∧ y = .str j ∧ i.length + j.length ≤ sizeLine ∧ Q (.str (i ++ j)) H) ∨ rCat x y H Q) opAdd := by
  intro ρ H h x y v u Q r q1 q2 w
  cases q1 with
  | int i =>
    cases q2 with
    | int j => exact .inl ⟨i, j, rfl, rfl, w.val r (.int _)⟩
    | _ => exact False.elim w
  | str i =>
    cases q2 with
    | str j =>
      obtain ⟨c, w⟩ := Wp.ifR w
      exact .inr (.inl ⟨i, j, rfl, rfl, sl_le (of_decide_eq_true c), w.val r (.str _)⟩)
    | _ => exact False.elim w
  | loc ha =>
    cases q2 with
    | loc hb =>
      simp only [opAdd] at w
      split at w <;> first | exact False.elim w | skip
      rename_i e3 e4
      obtain ⟨vs, e5, k5⟩ := r.at e3 ha
      obtain ⟨ws, e6, k6⟩ := r.at e4 hb
      obtain ⟨c, w⟩ := Wp.ifR w
      exact .inr (.inr ⟨_, _, vs, ws, rfl, rfl, e5, e6, by rw [k5.length, k6.length]; exact sl_le (of_decide_eq_true c), fun p hp => w.newL r (k5.append k6) hp⟩)
    | _ => exact False.elim w
  | _ => cases q2 <;> exact False.elim w
theorem op_addU : OpR X (binaryOp .Add) (fun x y H Q => rI0 (fun i j => .int (i + j)) x y H Q ∨ (∃ i j, x = .str i ∧ y = .str j ∧ i.length + j.length ≤ sizeLine ∧ Q (.str (i ++ j)) H) ∨ rCat x y H Q) := op_add.or (op_add_str.or op_cat)
theorem os_I0 {g : Int → Int → V} {f : D → D → Hm → R D} (hI : ∀ i j h, ∃ d, f (.int i) (.int j) h = .ok d h ∧ ∀ ρ H, VRel G ρ H (g i j) d) (hN : ∀ x y h, (∀ i j, x = .int i → y = .int j → False) → f x y h = .bad) : OpS G E (rI0 g) f := by
  intro ρ H h x y v u Q r q1 q2 w
  by_cases c : ∃ i j, x = .int i ∧ y = .int j
  · obtain ⟨i, j, rfl, rfl⟩ := c
    cases q1
    cases q2
    obtain ⟨d, e, q⟩ := hI i j h
    rw [e] at w
    exact ⟨i, j, rfl, rfl, w.val r (q ρ H)⟩
  · rw [hN x y h fun i j e1 e2 => c ⟨i, j, e1, e2⟩] at w
    exact False.elim w
theorem os_I {C : Int → Int → Prop} {g : Int → Int → Int} {f : D → D → Hm → R D} {c : Int → Int → Bool} (hI : ∀ i j h, f (.int i) (.int j) h = ifR (c i j) (.ok (.int (g i j)) h)) (hc : ∀ i j, c i j = true → C i j) (hN : ∀ x y h, (∀ i j, x = .int i → y = .int j → False) → f x y h = .bad) :
    OpS G E (rI C fun i j => .int (g i j)) f := by
  intro ρ H h x y v u Q r q1 q2 w
  by_cases k : ∃ i j, x = .int i ∧ y = .int j
  · obtain ⟨i, j, rfl, rfl⟩ := k
    cases q1
    cases q2
    rw [hI] at w
    obtain ⟨k, w⟩ := Wp.ifR w
    exact ⟨i, j, rfl, rfl, hc i j k, w.val r (.int _)⟩
  · rw [hN x y h fun i j e1 e2 => k ⟨i, j, e1, e2⟩] at w
    exact False.elim w
theorem os_sub : OpS G E (rI0 fun i j => .int (i - j)) opSub := os_I0 (fun i j h => ⟨_, rfl, fun _ _ => .int _⟩) fun x y h k => by
  cases x <;> first | rfl | (cases y <;> first | rfl | exact (k _ _ rfl rfl).elim)
theorem os_mod : OpS G E (rI (fun _ j => 0 < j) fun i j => .int (i % j)) opMod := os_I (c := fun i j => decide (0 < j)) (fun i j h => rfl) (fun i j e => of_decide_eq_true e) fun x y h k => by
  cases x <;> first | rfl | (cases y <;> first | rfl | exact (k _ _ rfl rfl).elim)
theorem os_fdiv : OpS G E (rI CDiv fun i j => .int (i / j)) opFDiv := os_I (c := fun i j => decide (0 < j ∧ j < 1073741824)) (fun i j h => rfl) (fun i j e => (of_decide_eq_true e : 0 < j ∧ j < 1073741824)) fun x y h k => by
  cases x <;> first | rfl | (cases y <;> first | rfl | exact (k _ _ rfl rfl).elim)
theorem os_pow : OpS G E (rI CPow fun i j => .int (i ^ j.toNat)) opPow := os_I (c := fun i j => decide (0 ≤ j ∧ j ≤ 1000000 ∧ i.natAbs < 2 ^ 64)) (fun i j h => rfl) (fun i j e => (of_decide_eq_true e : 0 ≤ j ∧ j ≤ 1000000 ∧ i.natAbs < 2 ^ 64)) fun x y h k => by
  cases x <;> first | rfl | (cases y <;> first | rfl | exact (k _ _ rfl rfl).elim)
theorem os_mul : OpS G E (fun x y H Q => rI CMul (fun i j => .int (i * j)) x y H Q ∨ rRep x y H Q) opMul := by
  intro ρ H h x y v u Q r q1 q2 w
  cases q1 with
  | int i =>
    cases q2 with
    | int j =>
      obtain ⟨c, w⟩ := Wp.ifR w
      exact .inl ⟨i, j, rfl, rfl, (of_decide_eq_true c : (-(2 ^ 64) < i ∧ i < 2 ^ 64) ∨ (-(2 ^ 64) < j ∧ j < 2 ^ 64)), w.val r (.int _)⟩
    | _ => exact False.elim w
  | loc ha =>
    cases q2 with
    | int k =>
      simp only [opMul] at w
      split at w <;> first | exact False.elim w | skip
      rename_i e3
      obtain ⟨vs, e5, k5⟩ := r.at e3 ha
      obtain ⟨c, w⟩ := Wp.ifR w
      obtain ⟨c1, c2, c3⟩ := of_decide_eq_true c
      exact .inr ⟨_, k, vs, rfl, rfl, e5, c1, c2, by rw [k5.length]; exact sl_le c3, fun p hp => w.newL r (k5.rep _) hp⟩
    | _ => exact False.elim w
  | _ => cases q2 <;> exact False.elim w
theorem op_mulU : OpR X (binaryOp .Mult) (fun x y H Q => rI CMul (fun i j => .int (i * j)) x y H Q ∨ rRep x y H Q) := op_mul.or op_rep
theorem os_cmp {p : Int → Int → Bool} : OpS G E (rI0 fun i j => .bl (p i j)) (opCmp p) := os_I0 (fun i j h => ⟨_, rfl, fun _ _ => .bl _⟩) fun x y h k => by
  cases x <;> first | rfl | (cases y <;> first | rfl | exact (k _ _ rfl rfl).elim)
theorem us_neg : UnS G E (rU fun i => .int (-i)) opNeg := by
  intro ρ H h x v Q r q w
  cases q with
  | int i => exact ⟨i, rfl, w.val r (.int _)⟩
  | _ => exact False.elim w
end
/-! ### data -/
section
variable {G : Gm} {E : XK} {ρ : List Addr} {H : Hp} {h : Hm}
theorem datL_dp {f : D → Option PyData} (hf : ∀ d v p, f d = some p → VRel G ρ H v d → Dp G.K H v p) : ∀ {ds : List D} {vs : List V} {ps : List PyData}, datL f ds = some ps → VRels G ρ H vs ds → DpAll G.K H vs ps
  | [], _, ps, e, .nil => by
    cases (show some [] = some ps from e)
    exact .nil
  | d :: ds, _, ps, e, .cons q qs => by
    unfold datL at e
    split at e
    · rename_i p ps' e1 e2
      cases e
      exact .cons (hf d _ p e1 q) (datL_dp hf e2 qs)
    · cases e
theorem dat_dp (r : HRel G ρ H h) : ∀ (n : Nat) (d : D) (v : V) (p : PyData), dat n h d = some p → VRel G ρ H v d → Dp G.K H v p
  | 0, _, _, _, e, _ => nomatch e
  | n + 1, .non, _, p, e, .non => by cases (show some _ = some p from e); exact .non
  | n + 1, .bl b, _, p, e, .bl _ => by cases (show some _ = some p from e); exact .bl b
  | n + 1, .int i, _, p, e, .int _ => by cases (show some _ = some p from e); exact .int i
  | n + 1, .str x, _, p, e, .str _ => by
    have e' : (match PyData.strOk x with | true => some (PyData.str x) | false => none) = some p := e
    split at e'
    · cases e'
      exact .str x
    · cases e'
  | n + 1, .tup ds, _, p, e, .tup h1 h2 => by
    obtain ⟨ps, e1, rfl⟩ := Option.map_eq_some_iff.mp (show (datL (dat n h) ds).map .tuple = some p from e)
    exact .tup h1 (datL_dp (dat_dp r n) e1 h2)
  | n + 1, .kl ds, _, p, e, .kl h1 h2 => by
    obtain ⟨ps, e1, rfl⟩ := Option.map_eq_some_iff.mp (show (datL (dat n h) ds).map .list = some p from e)
    exact .lst h1.l (datL_dp (dat_dp r n) e1 h2)
  | n + 1, .loc l, _, p, e, .loc ha => by
    have e' : (match h.g l with | some (.lst xs) => (datL (dat n h) xs).map .list | _ => none) = some p := e
    split at e'
    · rename_i xs e2
      obtain ⟨ps, e1, rfl⟩ := Option.map_eq_some_iff.mp e'
      obtain ⟨vs, e3, q⟩ := r.at e2 ha
      exact .lst (SqL.of e3) (datL_dp (dat_dp r n) e1 q)
    · cases e'
  | n + 1, .ty m, _, p, e, .ty _ => nomatch e
  | n + 1, .ob k, _, p, e, .ob _ => nomatch e
theorem datL_sh {f : D → Option PyData} {m : Nat} (hf : ∀ d p, f d = some p → p.canLay0 = true ∧ p.depth ≤ m) : ∀ {ds : List D} {ps : List PyData}, datL f ds = some ps → PyData.canLayAll0 ps = true ∧ PyData.depthAll ps ≤ m
  | [], ps, e => by
    cases (show some [] = some ps from e)
    exact ⟨by simp only [PyData.canLayAll0], by simp only [PyData.depthAll]; omega⟩
  | d :: ds, ps, e => by
    unfold datL at e
    split at e
    · rename_i p ps' e1 e2
      cases e
      obtain ⟨a1, a2⟩ := hf d p e1
      obtain ⟨b1, b2⟩ := datL_sh hf e2
      refine ⟨?_, ?_⟩
      · simp only [PyData.canLayAll0, a1, b1, Bool.and_self]
      · simp only [PyData.depthAll]
        omega
    · cases e
theorem dat_sh : ∀ (n : Nat) (d : D) (p : PyData), dat n h d = some p → p.canLay0 = true ∧ p.depth ≤ n
  | 0, _, _, e => nomatch e
  | n + 1, d, p, e => by
    have up : ∀ {xs : List D} {ps : List PyData}, datL (dat n h) xs = some ps → PyData.canLayAll0 ps = true ∧ PyData.depthAll ps ≤ n := fun e1 => datL_sh (dat_sh n) e1
    cases d with
    | non => cases (show some _ = some p from e); exact ⟨by simp only [PyData.canLay0], by simp only [PyData.depth]; omega⟩
    | bl b => cases (show some _ = some p from e); exact ⟨by simp only [PyData.canLay0], by simp only [PyData.depth]; omega⟩
    | int b => cases (show some _ = some p from e); exact ⟨by simp only [PyData.canLay0], by simp only [PyData.depth]; omega⟩
    | str b =>
      have e' : (match PyData.strOk b with | true => some (PyData.str b) | false => none) = some p := e
      split at e'
      · rename_i k
        cases e'
        exact ⟨by simp only [PyData.canLay0]; exact k, by simp only [PyData.depth]; omega⟩
      · cases e'
    | tup ds =>
      obtain ⟨ps, e1, rfl⟩ := Option.map_eq_some_iff.mp (show (datL (dat n h) ds).map .tuple = some p from e)
      obtain ⟨u1, u2⟩ := up e1
      exact ⟨by simp only [PyData.canLay0]; exact u1, by simp only [PyData.depth]; omega⟩
    | kl ds =>
      obtain ⟨ps, e1, rfl⟩ := Option.map_eq_some_iff.mp (show (datL (dat n h) ds).map .list = some p from e)
      obtain ⟨u1, u2⟩ := up e1
      exact ⟨by simp only [PyData.canLay0]; exact u1, by simp only [PyData.depth]; omega⟩
    | loc l =>
      have e' : (match h.g l with | some (.lst xs) => (datL (dat n h) xs).map .list | _ => none) = some p := e
      split at e'
      · obtain ⟨ps, e1, rfl⟩ := Option.map_eq_some_iff.mp e'
        obtain ⟨u1, u2⟩ := up e1
        exact ⟨by simp only [PyData.canLay0]; exact u1, by simp only [PyData.depth]; omega⟩
      · cases e'
    | ty m => cases e
    | ob k => cases e
theorem dat_shaped {d : D} {p : PyData} (e : dat DEP h d = some p) : SeqAt.shaped p = true := by
  obtain ⟨a, b⟩ := dat_sh _ _ _ e
  unfold SeqAt.shaped
  rw [a, decide_eq_true (Nat.le_trans b (by decide : DEP ≤ 64))]
  rfl
theorem os_eq : OpS G E (fun x y H Q => rEq x y H Q ∨ rEqD G.K x y H Q) opEq := by
  intro ρ H h x y v u Q r q1 q2 w
  unfold opEq at w
  split at w
  · cases q1
    cases q2
    exact .inl ⟨rfl, by rw [dec_int]; exact w.val r (by rw [show (_ == _) = decide (_ = _) from rfl]; exact .bl _)⟩
  · cases q1
    cases q2
    exact .inl ⟨rfl, by
      rename_i i j
      have e : decide (V.str i = V.str j) = @decide (i = j) (strDec i j) := by rw [Bool.eq_iff_iff]; simp
      rw [e]
      exact w.val r (.bl _)⟩
  · split at w
    · rename_i p q e1 e2
      exact .inr ⟨p, q, dat_dp r _ _ _ _ e1 q1, dat_dp r _ _ _ _ e2 q2, dat_shaped e1, dat_shaped e2, w.val r (.bl _)⟩
    · exact False.elim w
theorem os_ne : OpS G E (fun x y H Q => rNe x y H Q ∨ rNeD G.K x y H Q) opNe := by
  intro ρ H h x y v u Q r q1 q2 w
  unfold opNe at w
  split at w
  · cases q1
    cases q2
    exact .inl ⟨rfl, by rw [dec_int]; exact w.val r (by rw [show (_ == _) = decide (_ = _) from rfl]; exact .bl _)⟩
  · cases q1
    cases q2
    exact .inl ⟨rfl, by
      rename_i i j
      have e : decide (V.str i = V.str j) = @decide (i = j) (strDec i j) := by rw [Bool.eq_iff_iff]; simp
      rw [e]
      exact w.val r (.bl _)⟩
  · split at w
    · rename_i p q e1 e2
      exact .inr ⟨p, q, dat_dp r _ _ _ _ e1 q1, dat_dp r _ _ _ _ e2 q2, dat_shaped e1, dat_shaped e2, w.val r (.bl _)⟩
    · exact False.elim w
theorem op_eqU {X : Cx} (hu : X.A.units + 64 < cLine) : OpR X (compareOp .Eq) (fun x y H Q => rEq x y H Q ∨ rEqD X.K x y H Q) := op_eq.or (op_eqD hu)
theorem op_neU {X : Cx} (hu : X.A.units + 64 < cLine) : OpR X (compareOp .NotEq) (fun x y H Q => rNe x y H Q ∨ rNeD X.K x y H Q) := op_ne.or (op_neD hu)
theorem vnon {v : V} {d : D} (q : VRel G ρ H v d) : decide (v = .non) = decide (d = .non) := by
  cases q <;> simp
end
section
variable {G : Gm} {E : XK} {X : Cx} {a b c : Expr} {ma mb mc : ME} {pos : Pos}
theorem rd_isN {p : Bool → Bool} {r : R2} (hr : r = fun x y H Q => y = .non ∧ Q (.bl (p (decide (x = .non)))) H) (σ : L2.St) (H : Hp) (Q : VK) (w : rd G E (eUn (fun x h => .ok (.bl (p (decide (x = .non)))) h) ma) σ H Q) : tOp r (rd G E ma) (tC .non) σ H Q := by
  subst hr
  obtain ⟨ρ, env, h, hs, hr, w⟩ := w
  refine ⟨ρ, env, h, hs, hr, w.seq fun x h1 ρ1 H1 v g1 r1 q1 w1 => ?_⟩
  refine ⟨rfl, ?_⟩
  rw [vnon q1]
  exact Wp.val w1 r1 (.bl _)
theorem me_isN {j p} (ha : PE X a (rd G E ma)) : PE X (.Compare a [.Is] [.Constant .none j p] pos) (rd G E (eUn opIsN ma)) := pe_w (pe_cmpR op_isN ha pe_non (nomark _)) (rd_isN (p := id) rfl)
theorem me_notN {j p} (ha : PE X a (rd G E ma)) : PE X (.Compare a [.IsNot] [.Constant .none j p] pos) (rd G E (eUn opNotN ma)) := pe_w (pe_cmpR op_notN ha pe_non (nomark _)) (rd_isN (p := not) rfl)
theorem mt_isN {j p} (ha : PE X a (rd G E ma)) : PT X (.Compare a [.Is] [.Constant .none j p] pos) (rdT G E (tB (eUn opIsN ma))) := pt_w (pt_cmpR op_isN ha pe_non (nomark _)) (rd_tB (rd_isN (p := id) rfl))
theorem mt_notN {j p} (ha : PE X a (rd G E ma)) : PT X (.Compare a [.IsNot] [.Constant .none j p] pos) (rdT G E (tB (eUn opNotN ma))) := pt_w (pt_cmpR op_notN ha pe_non (nomark _)) (rd_tB (rd_isN (p := not) rfl))
end
end Mo
end
section
/-! Rules: places, slices, dicts, fields, methods of lists, builtins. -/
namespace Mo
open PySem L2 PyProof.Rows
section
variable {G : Gm} {E : XK} {ρ : List Addr} {H : Hp} {h : Hm}
theorem nth_at {vs : List V} {ds : List D} {i : Int} {d : D} (q : VRels G ρ H vs ds) (e : nth ds i = some d) : ∃ v, atI vs i = some v ∧ VRel G ρ H v d := by
  unfold nth at e
  obtain ⟨j, e1, e2⟩ := Option.bind_eq_some_iff.mp e
  obtain ⟨v, e3, k⟩ := q.get e2
  refine ⟨v, ?_, k⟩
  unfold atI
  have e4 : ixN vs.length i = some j := by
    rw [q.length]
    exact e1
  rw [e4]
  exact e3
theorem os_ix : OpS G E (fun x y H Q => rIxL G.K x y H Q ∨ rIxT G.K x y H Q) opIx := by
  intro ρ H h x y v u Q r q1 q2 w
  have go : ∀ (i : Int) xs, h.seq x = some xs → Wp G E (VRel G) (optR (nth xs i) h) ρ H Q → rIxL G.K v (.int i) H Q := fun i xs e w' => by
    obtain ⟨a, vs, rfl, hl, qs⟩ := r.seqL e q1
    obtain ⟨d, e2, w2⟩ := Wp.optR w'
    obtain ⟨z, e3, k⟩ := nth_at qs e2
    exact ⟨a, vs, i, z, rfl, rfl, hl, e3, w2.val r k⟩
  cases q2 with
  | int i =>
    cases q1 with
    | tup h1 h2 =>
      obtain ⟨d, e2, w⟩ := Wp.optR (show Wp G E (VRel G) (optR (nth _ i) h) ρ H Q from w)
      obtain ⟨z, e3, k⟩ := nth_at h2 e2
      exact .inr ⟨_, _, i, z, rfl, rfl, h1, e3, w.val r k⟩
    | kl h1 h2 => exact .inl (go i _ rfl w)
    | loc ha =>
      simp only [opIx] at w
      split at w
      · rename_i e
        exact .inl (go i _ e w)
      · exact False.elim w
    | _ => exact False.elim w
  | _ => cases q1 <;> exact False.elim w
theorem ix_LT {X : Cx} : IxR X (fun x y H Q => rIxL X.K x y H Q ∨ rIxT X.K x y H Q) := ix_list.or ix_tup
theorem kOf_rel {v : V} {d : D} {k : Key} (q : VRel G ρ H v d) (e : kOf d = some k) : v = kV k := by
  cases q with
  | int i => cases (show some _ = some k from e); rfl
  | str x => cases (show some _ = some k from e); rfl
  | _ => cases e
theorem look_rel {k : Key} : ∀ {kvs : List (Key × V)} {kds : List (Key × D)}, NRel G ρ H kvs kds → (∀ d, lookA k kds = some d → ∃ v, valV kvs k = some v ∧ VRel G ρ H v d) ∧ (lookA k kds = none → valV kvs k = none)
  | _, _, .nil => ⟨(fun d e => nomatch e), fun _ => rfl⟩
  | _, _, @Paired.cons _ _ _ p q ps qs r t => by
    obtain ⟨i1, i2⟩ := look_rel t
    obtain ⟨k1, v1⟩ := p
    obtain ⟨k2, d2⟩ := q
    obtain ⟨e1, e2⟩ := r
    have e1 : k1 = k2 := e1
    subst e1
    by_cases c : k1 = k
    · refine ⟨fun d e => ?_, fun e => ?_⟩
      · have e' : (@ite _ (k1 = k) (keyDec k1 k) (some d2) (lookA k qs)) = some d := e
        rw [if_pos c] at e'
        cases e'
        exact ⟨v1, valV_pos c, e2⟩
      · have e' : (@ite _ (k1 = k) (keyDec k1 k) (some d2) (lookA k qs)) = none := e
        rw [if_pos c] at e'
        cases e'
    · refine ⟨fun d e => ?_, fun e => ?_⟩
      · have e' : (@ite _ (k1 = k) (keyDec k1 k) (some d2) (lookA k qs)) = some d := e
        rw [if_neg c] at e'
        rw [valV_neg c]
        exact i1 d e'
      · have e' : (@ite _ (k1 = k) (keyDec k1 k) (some d2) (lookA k qs)) = none := e
        rw [if_neg c] at e'
        rw [valV_neg c]
        exact i2 e'
theorem dec_any {p : Prop} (a b : Decidable p) : @decide p a = @decide p b := by
  cases a <;> cases b <;> first | rfl | contradiction
theorem any_rel {k : Key} : ∀ {kvs : List (Key × V)} {kds : List (Key × D)}, NRel G ρ H kvs kds → (kvs.any fun kv => decide (kv.1 = k)) = kds.any fun kv => @decide (kv.1 = k) (keyDec kv.1 k)
  | _, _, .nil => rfl
  | _, _, .cons r t => by
    rw [List.any_cons, List.any_cons, any_rel t, r.1, dec_any _ (keyDec _ _)]
theorem map_rel {k : Key} {v : V} {d : D} (q : VRel G ρ H v d) : ∀ {kvs : List (Key × V)} {kds : List (Key × D)}, NRel G ρ H kvs kds → NRel G ρ H (kvs.map fun kv => if kv.1 = k then (kv.1, v) else kv) (kds.map fun kv => @ite _ (kv.1 = k) (keyDec kv.1 k) (kv.1, d) kv)
  | _, _, .nil => .nil
  | _, _, @Paired.cons _ _ _ p q' ps qs r t => by
    rw [List.map_cons, List.map_cons]
    refine .cons ?_ (map_rel q t)
    rw [← r.1]
    by_cases c : p.1 = k
    · rw [if_pos c, if_pos c]
      exact ⟨rfl, q⟩
    · rw [if_neg c, if_neg c]
      exact r
theorem NRel.append {κ : Type} : ∀ {a b : List (κ × V)} {c d : List (κ × D)}, NRel G ρ H a c → NRel G ρ H b d → NRel G ρ H (a ++ b) (c ++ d)
  | _, _, _, _, .nil, s => s
  | _, _, _, _, .cons r t, s => .cons r (NRel.append t s)
theorem put_rel {k : Key} {v : V} {d : D} {kvs : List (Key × V)} {kds : List (Key × D)} (r : NRel G ρ H kvs kds) (q : VRel G ρ H v d) : NRel G ρ H (L2.putK kvs k v) (putK kds k d) := by
  unfold L2.putK putK
  rw [any_rel r]
  split
  · rename_i e
    split
    · exact map_rel q r
    · rename_i e2
      rw [e] at e2
      cases e2
  · rename_i e
    split
    · rename_i e2
      exact absurd e2 e
    · exact NRel.append r (.cons ⟨rfl, q⟩ .nil)
theorem merge_rel : ∀ {more : List (Key × V)} {md : List (Key × D)} {kvs : List (Key × V)} {kds : List (Key × D)}, NRel G ρ H more md → NRel G ρ H kvs kds → NRel G ρ H (mergeK kvs more) (md.foldl (fun acc kv => putK acc kv.1 kv.2) kds)
  | _, _, _, _, .nil, s => s
  | _, _, kvs, kds, @Paired.cons _ _ _ p q ps qs r t, s => by
    show NRel G ρ H (mergeK (L2.putK kvs p.1 p.2) ps) (qs.foldl (fun acc kv => putK acc kv.1 kv.2) (putK kds q.1 q.2))
    rw [r.1]
    exact merge_rel t (put_rel s r.2)
theorem fld_rel {f : Str} : ∀ {kvs : List (Str × V)} {kds : List (Str × D)}, NRel G ρ H kvs kds → (∀ d, lookF f kds = some d → ∃ v, kvs.lookup f = some v ∧ VRel G ρ H v d) ∧ (lookF f kds = none → kvs.lookup f = none)
  | _, _, .nil => ⟨(fun d e => nomatch e), fun _ => rfl⟩
  | _, _, @Paired.cons _ _ _ p q ps qs r t => by
    obtain ⟨i1, i2⟩ := fld_rel (f := f) t
    obtain ⟨k1, v1⟩ := p
    obtain ⟨k2, d2⟩ := q
    obtain ⟨e1, e2⟩ := r
    have e1 : k1 = k2 := e1
    subst e1
    rw [List.lookup_cons]
    by_cases c : f = k1
    · have c2 : (f == k1) = true := by simp [c]
      rw [c2]
      refine ⟨fun d e => ?_, fun e => ?_⟩
      · have e' : (@ite _ (f = k1) (strDec f k1) (some d2) (lookF f qs)) = some d := e
        rw [if_pos c] at e'
        cases e'
        exact ⟨v1, rfl, e2⟩
      · have e' : (@ite _ (f = k1) (strDec f k1) (some d2) (lookF f qs)) = none := e
        rw [if_pos c] at e'
        cases e'
    · have c2 : (f == k1) = false := by simp [c]
      rw [c2]
      refine ⟨fun d e => ?_, fun e => ?_⟩
      · have e' : (@ite _ (f = k1) (strDec f k1) (some d2) (lookF f qs)) = some d := e
        rw [if_neg c] at e'
        exact i1 d e'
      · have e' : (@ite _ (f = k1) (strDec f k1) (some d2) (lookF f qs)) = none := e
        rw [if_neg c] at e'
        exact i2 e'
theorem putF_rel {f : Str} {v : V} {d : D} (q : VRel G ρ H v d) : ∀ {kvs : List (Str × V)} {kds : List (Str × D)}, NRel G ρ H kvs kds → NRel G ρ H (L2.putF f v kvs) (putF f d kds)
  | _, _, .nil => .cons ⟨rfl, q⟩ .nil
  | _, _, @Paired.cons _ _ _ p q' ps qs r t => by
    obtain ⟨k1, v1⟩ := p
    obtain ⟨k2, d2⟩ := q'
    obtain ⟨e1, e2⟩ := r
    have e1 : k1 = k2 := e1
    subst e1
    show NRel G ρ H (if k1 = f then (k1, v) :: ps else (k1, v1) :: L2.putF f v ps) (@ite _ (k1 = f) (strDec k1 f) ((k1, d) :: qs) ((k1, d2) :: putF f d qs))
    by_cases c : k1 = f
    · rw [if_pos c, if_pos c]
      exact .cons ⟨rfl, q⟩ t
    · rw [if_neg c, if_neg c]
      exact .cons ⟨rfl, e2⟩ (putF_rel q t)
theorem cut_rel {vs : List V} {ds : List D} (q : VRels G ρ H vs ds) (lo hi : Option Int) : VRels G ρ H (cutV vs lo hi) (cutL ds lo hi) := by
  have e : ∀ n d o, HT.sIx n d o = sIx n d o := fun n d o => by cases o <;> rfl
  unfold cutV cutL
  rw [e, e, q.length]
  exact (q.drop _).take _
end
section
variable {G : Gm} {E : XK} {X : Cx} {a b c o : Expr} {ma mb mc : ME} {pos : Pos} {as ks : MA} {es : List Expr}
theorem me_ix (hK : X.K = G.K) (ha : PE X a (rd G E ma)) (hb : PE X b (rd G E mb)) (hs : PlainIx b := by exact fun _ _ => rfl) : PE X (.Subscript a b pos) (rd G E (eOp opIx ma mb)) := by
  refine pe_w (pe_ix ix_LT ha hb hs) ?_
  rw [hK]
  exact rd_op os_ix
theorem me_dget (hu : X.A.units + 1 < cLine) (ha : PE X a (rd G E ma)) (hb : PE X b (rd G E mb)) (hs : NoSl b := by exact fun _ _ => rfl) : PE X (.Subscript a b pos) (rd G E (eOp opDGet ma mb)) :=
  pe_w (pe_dget hu ha hb hs) fun σ H Q ⟨ρ, env, h, hs, hr, w⟩ => ⟨ρ, env, h, hs, hr, w.seq fun x h1 ρ1 H1 v g1 r1 q1 w1 => ⟨ρ1, env, h1, hs.grow g1, r1, w1.seq fun y h2 ρ2 H2 u g2 r2 q2 w2 => by
    have q1 := q1.grow g2
    cases q1 with
    | @loc p l hl =>
      simp only [opDGet] at w2
      split at w2
      · rename_i kds k e1 e2
        obtain ⟨d, e3, w2⟩ := Wp.optR w2
        obtain ⟨kvs, e4, n⟩ := r2.at e1 hl
        obtain ⟨z, e5, q5⟩ := (look_rel n).1 d e3
        refine ⟨p, z, rfl, ?_, w2.val r2 q5⟩
        rw [kOf_rel q2 e2, ← e5]
        exact DGet.k e4
      · exact False.elim w2
    | _ => exact False.elim w2⟩⟩
variable {lo hi : Option Expr} {ml mh : MO}
theorem po_w {e : Option Expr} {t t' : TO} (h : PO X e t) (w : ∀ σ H Q, t' σ H Q → t σ H Q) : PO X e t' := ⟨fun pins s σ H Q I q => h.run pins s σ H Q I (w σ H Q q)⟩
theorem mo_none : PO X none (rdO G E oNone) := po_w po_none fun σ H Q ⟨ρ, env, h, hs, hr, w⟩ => Wp.val w hr rfl
theorem mo_some (ha : PE X a (rd G E ma)) : PO X (some a) (rdO G E (oSome ma)) := po_w (po_some ha) fun σ H Q ⟨ρ, env, h, hs, hr, w⟩ => ⟨ρ, env, h, hs, hr, w.seq fun x h1 ρ1 H1 v g1 r1 q1 w1 => by
  cases q1 with
  | int i => exact ⟨i, rfl, Wp.val w1 r1 rfl⟩
  | _ => exact False.elim w1⟩
theorem me_sl {p2 : Pos} (hK : X.K = G.K) (ha : PE X a (rd G E ma)) (hl : PO X lo (rdO G E ml)) (hh : PO X hi (rdO G E mh)) : PE X (.Subscript a (.Slice lo hi none p2) pos) (rd G E (eSl ma ml mh)) :=
  pe_w (pe_slice sl_list ha hl hh) fun σ H Q ⟨ρ, env, h, hs, hr, w⟩ => ⟨ρ, env, h, hs, hr, w.seq fun x h1 ρ1 H1 v g1 r1 q1 w1 => ⟨ρ1, env, h1, hs.grow g1, r1, w1.seq fun y h2 ρ2 H2 u g2 r2 q2 w2 =>
    ⟨ρ2, env, h2, (hs.grow g1).grow g2, r2, w2.seq fun z h3 ρ3 H3 t g3 r3 q3 w3 => by
      cases q2
      cases q3
      split at w3
      · rename_i xs e
        obtain ⟨p, vs, rfl, hl, qs⟩ := r3.seqL e ((q1.grow g2).grow g3)
        rw [hK]
        exact ⟨p, vs, rfl, hl, fun p' hp => w3.newL r3 (cut_rel qs _ _) hp⟩
      · exact False.elim w3⟩⟩⟩
/-! ### fields -/
theorem me_fld {f : Str} {cs : List Nat} (hK : X.K = G.K) (hC : ∀ c, cs.contains c = true → Cls G.K (G.cA c) ∧ NoAttr G.K (G.cA c) f) {f' : Str} (hf : f' = f) (ha : PE X a (rd G E ma)) (hb : attributeBase a f' X.env (eval a X.env) = eval a X.env := by rfl) : PE X (.Attribute a f' pos) (rd G E (eFld ma cs f)) := by
  subst hf
  exact pe_w (pe_fld ha hb) fun σ H Q ⟨ρ, env, h, hs, hr, w⟩ => ⟨ρ, env, h, hs, hr, w.seq fun x h1 ρ1 H1 v g1 r1 q1 w1 => by
    cases q1 with
    | @loc p l hl =>
      simp only at w1
      split at w1 <;> first | exact False.elim w1 | skip
      rename_i c fs e
      obtain ⟨k, w1⟩ := Wp.ifR w1
      obtain ⟨d, e2, w1⟩ := Wp.optR w1
      obtain ⟨dx, fvs, e3, n⟩ := r1.at e hl
      obtain ⟨z, e4, q4⟩ := (fld_rel n).1 d e2
      obtain ⟨c1, c2⟩ := hC c k
      rw [hK]
      exact ⟨p, _, dx, fvs, z, rfl, e3, c1, c2, e4, w1.val r1 q4⟩
    | _ => exact False.elim w1⟩
/-! ### builtins by their names -/
def BiS (G : Gm) (E : XK) (r : List V → Hp → VK → Prop) (f : Bi) : Prop := ∀ (ρ : List Addr) (H : Hp) (h : Hm) (ds : List D) (vs : List V) (Q : VK), HRel G ρ H h → VRels G ρ H vs ds → Wp G E (VRel G) (f ds h) ρ H Q → r vs H Q
theorem rd_bi {r : List V → Hp → VK → Prop} {f : Bi} (hf : BiS G E r f) (σ : L2.St) (H : Hp) (Q : VK) (w : rd G E (eBi f as) σ H Q) : tCB r (rdA G E as) σ H Q := by
  obtain ⟨ρ, env, h, hs, hr, w⟩ := w
  exact ⟨ρ, env, h, hs, hr, w.seq fun x h1 ρ1 H1 v g1 r1 q1 w1 => hf ρ1 H1 h1 x v Q r1 q1 w1⟩
variable {x : Str} {p : Pos}
theorem me_bi {id : String} {r : List V → Hp → VK → Prop} {f : Bi} (hc : CallR X (.builtin id) r) (hf : BiS G E r f) (hg : Gl X x) (hm : X.mg x = none) (hv : bootBuiltins x = some (.builtin id)) (ha : PA X (a :: es) (rdA G E as)) (hn : x ≠ "__name__" := by decide) (hdb : (x == ("__debug__" : Str)) = false := by decide)
    (he : starEach (a :: es) X.env = (false, eval a X.env) :: starEach es X.env := by rfl) (hpl : (backTo pos (starEach es X.env)).any (·.1) = false := by rfl) : PE X (.Call (.Name x p) (a :: es) [] pos) (rd G E (eBi f as)) := pe_w (pe_callB hc hg hm hv ha hn hdb he hpl) (rd_bi hf)
theorem me_bty {T : String} {r : List V → Hp → VK → Prop} {f : Bi} (hc : CallR X (.type T) r) (hf : BiS G E r f) (hg : Gl X x) (hm : X.mg x = none) (hv : bootBuiltins x = some (.type T)) (ha : PA X (a :: es) (rdA G E as)) (hn : x ≠ "__name__" := by decide) (hdb : (x == ("__debug__" : Str)) = false := by decide)
    (he : starEach (a :: es) X.env = (false, eval a X.env) :: starEach es X.env := by rfl) (hpl : (backTo pos (starEach es X.env)).any (·.1) = false := by rfl) : PE X (.Call (.Name x p) (a :: es) [] pos) (rd G E (eBi f as)) := pe_w (pe_callTy hc hg hm hv ha hn hdb he hpl) (rd_bi hf)
end
section
variable {G : Gm} {E : XK}
theorem vs1 {ρ : List Addr} {H : Hp} {vs : List V} {d : D} (q : VRels G ρ H vs [d]) : ∃ v, vs = [v] ∧ VRel G ρ H v d := by
  cases q with
  | cons a b =>
    cases b
    exact ⟨_, rfl, a⟩
theorem vs2 {ρ : List Addr} {H : Hp} {vs : List V} {d e : D} (q : VRels G ρ H vs [d, e]) : ∃ v w, vs = [v, w] ∧ VRel G ρ H v d ∧ VRel G ρ H w e := by
  cases q with
  | cons a b =>
    obtain ⟨w, rfl, k⟩ := vs1 b
    exact ⟨_, w, rfl, a, k⟩
/-- len of a text, a list, a tuple, a dict -/
def rLen (K : PySem.W.Frag) : List V → Hp → VK → Prop := fun xs H Q => (∃ z, xs = [.str z] ∧ z.length ≤ sizeLine ∧ Q (.int z.length) H) ∨ (∃ p ys, xs = [.ref p] ∧ (SqL K H p ys ∨ SqT K H p ys) ∧ Q (.int ys.length) H) ∨ ∃ a kvs, xs = [V.ref a] ∧ H a = some (.dK kvs) ∧ Q (.int kvs.length) H
theorem cl_len {X : Cx} : CallR X (.builtin "len") (rLen X.K) := call_len_str.or (call_len_seq.or call_lenD)
theorem bs_len : BiS G E (rLen G.K) bLen := by
  intro ρ H h ds vs Q r q w
  unfold bLen at w
  split at w
  · obtain ⟨v, rfl, k⟩ := vs1 q
    cases k with
    | tup h1 h2 => exact .inr (.inl ⟨_, _, rfl, .inr h1, by rw [h2.length]; exact w.val r (.int _)⟩)
  · obtain ⟨v, rfl, k⟩ := vs1 q
    obtain ⟨c, w⟩ := Wp.ifR w
    cases k with
    | str x => exact .inl ⟨_, rfl, sl_le (of_decide_eq_true c), w.val r (.int _)⟩
  · obtain ⟨v, rfl, k⟩ := vs1 q
    cases k with
    | kl h1 h2 => exact .inr (.inl ⟨_, _, rfl, .inl h1.l, by rw [h2.length]; exact w.val r (.int _)⟩)
  · obtain ⟨v, rfl, k⟩ := vs1 q
    cases k with
    | loc ha =>
      split at w
      · rename_i e
        obtain ⟨ws, e2, k2⟩ := r.at e ha
        exact .inr (.inl ⟨_, ws, rfl, .inl (SqL.of e2), by rw [k2.length]; exact w.val r (.int _)⟩)
      · rename_i e
        obtain ⟨ws, e2, k2⟩ := r.at e ha
        exact .inr (.inr ⟨_, ws, rfl, e2, by rw [k2.length]; exact w.val r (.int _)⟩)
      · exact False.elim w
  · exact False.elim w
theorem bs_list : BiS G E (fun xs H Q => ∃ p ys, xs = [.ref p] ∧ (SqL G.K H p ys ∨ SqT G.K H p ys) ∧ ∀ l, H l = none → Q (.ref l) (upd H l (.lst ys))) bList := by
  intro ρ H h ds vs Q r q w
  unfold bList at w
  split at w
  · obtain ⟨v, rfl, k⟩ := vs1 q
    cases k with
    | tup h1 h2 => exact ⟨_, _, rfl, .inr h1, fun l hl => w.newL r h2 hl⟩
  · obtain ⟨v, rfl, k⟩ := vs1 q
    split at w
    · rename_i xs e
      obtain ⟨p, ws, rfl, h1, h2⟩ := r.seqL e k
      exact ⟨p, ws, rfl, .inl h1, fun l hl => w.newL r h2 hl⟩
    · exact False.elim w
  · exact False.elim w
theorem bs_tuple : BiS G E (fun xs H Q => ∃ p ys, xs = [.ref p] ∧ ((SqL G.K H p ys ∧ ∀ l, H l = none → Q (.ref l) (upd H l (.tup ys))) ∨ (SqT G.K H p ys ∧ Q (.ref p) H))) bTuple := by
  intro ρ H h ds vs Q r q w
  unfold bTuple at w
  split at w
  · obtain ⟨v, rfl, k⟩ := vs1 q
    cases k with
    | tup h1 h2 => exact ⟨_, _, rfl, .inr ⟨h1, w.val r (.tup h1 h2)⟩⟩
  · obtain ⟨v, rfl, k⟩ := vs1 q
    split at w
    · rename_i xs e
      obtain ⟨p, ws, rfl, h1, h2⟩ := r.seqL e k
      refine ⟨p, ws, rfl, .inl ⟨h1, fun l hl => ?_⟩⟩
      have g := Grow.tmp (ρ := ρ) hl (.tup ws)
      exact w ρ _ _ g (r.tmp hl _) (.tup (SqT.of upd_same) (h2.grow g))
    · exact False.elim w
  · exact False.elim w
/-! ### methods of lists -/
def MbS (G : Gm) (E : XK) (r : V → List V → Hp → VK → Prop) (f : Mb) : Prop := ∀ (ρ : List Addr) (H : Hp) (h : Hm) (x : D) (v : V) (ds : List D) (vs : List V) (Q : VK), HRel G ρ H h → VRel G ρ H v x → VRels G ρ H vs ds → Wp G E (VRel G) (f x ds h) ρ H Q → r v vs H Q
theorem bs_append : MbS G E rAppend mAppend := by
  intro ρ H h x v ds vs Q r q qs w
  unfold mAppend at w
  split at w
  · obtain ⟨u, rfl, k⟩ := vs1 qs
    cases q with
    | @loc a l ha =>
      split at w <;> first | exact False.elim w | skip
      rename_i xs e
      obtain ⟨c, w⟩ := Wp.ifR w
      obtain ⟨ws, e2, k2⟩ := r.at e ha
      exact ⟨a, ws, u, rfl, rfl, e2, by rw [k2.length]; exact sl_lt (of_decide_eq_true c), w.putL r ha e2 (k2.append (.cons k .nil)) .non⟩
  · exact False.elim w
end
section
variable {G : Gm} {E : XK}
theorem tyD_v {ρ : List Addr} {H : Hp} {h : Hm} {x : D} {v : V} {T : String} (r : HRel G ρ H h) (q : VRel G ρ H v x) (e : tyD h x = some T) (hT : T = "list" ∨ T = "dict" ∨ T = "str" ∨ T = "int") : tyV G.K T v H := by
  cases q with
  | int i => cases (show some _ = some T from e); rfl
  | str z => cases (show some _ = some T from e); rfl
  | kl h1 h2 => cases (show some _ = some T from e); exact .inl ⟨rfl, _, h1.l⟩
  | @loc a l ha =>
    simp only [tyD] at e
    split at e
    · rename_i e1
      cases e
      obtain ⟨vs, e2, k⟩ := r.at e1 ha
      exact .inl ⟨rfl, vs, SqL.of e2⟩
    · rename_i e1
      cases e
      obtain ⟨vs, e2, k⟩ := r.at e1 ha
      exact .inr (.inr (.inl ⟨rfl, .inl ⟨vs, e2⟩⟩))
    · cases e
  | non => cases (show some _ = some T from e); exact absurd hT (by decide)
  | bl b => cases (show some _ = some T from e); exact absurd hT (by decide)
  | tup _ _ => cases (show some _ = some T from e); exact absurd hT (by decide)
  | ty n => cases e
  | ob k => cases e
end
section
variable {G : Gm} {E : XK} {X : Cx} {a b c o : Expr} {ma mb mc : ME} {pos : Pos} {as ks : MA} {es : List Expr}
/-- o.m(a, ..) of a built-in's type T -/
theorem me_bm {T id : String} {name : Str} {apos cpos : Pos} {r : V → List V → Hp → VK → Prop} {f : Mb} (hK : X.K = G.K) (pa : PlainAttrs T) (slot : Slot T name id) (hty : typeOf (.builtin id) = pure (.type "method_descriptor")) (hm : MtR X id r) (hf : MbS G E r f)
    (hT : T = "list" ∨ T = "dict" ∨ T = "str" ∨ T = "int") (ho : PE X o (rd G E ma)) (ha : PA X (a :: es) (rdA G E as)) (hbase : attributeBase o name X.env (eval o X.env) = eval o X.env := by rfl)
    (hfew : ((backTo cpos (starEach (a :: es) X.env)).all (fun x => !x.1) && (backToKw cpos (keywordEach [] X.env)).all (fun x => x.1.isSome) && decide ((a :: es).length + ([] : List Keyword).length + (if ([] : List Keyword).isEmpty then 0 else 1) < 30)) = true := by rfl)
    (hline : (apos.endLine == cpos.line) = true := by rfl) (hs : starEach (a :: es) X.env = (false, eval a X.env) :: starEach es X.env := by rfl) (hplain : (backTo cpos (starEach es X.env)).any (·.1) = false := by rfl) :
    PE X (.Call (.Attribute o name apos) (a :: es) [] cpos) (rd G E (eBM T f ma as)) :=
  pe_w (pe_bm pa slot hty hm ho ha hbase hfew hline hs hplain) fun σ H Q ⟨ρ, env, h, hs, hr, w⟩ => ⟨ρ, env, h, hs, hr, w.seq fun x h1 ρ1 H1 v g1 r1 q1 w1 => by
    obtain ⟨k, w1⟩ := Wp.ifR w1
    refine ⟨?_, ρ1, env, h1, hs.grow g1, r1, w1.seq fun ds h2 ρ2 H2 vs g2 r2 q2 w2 => hf ρ2 H2 h2 x v ds vs Q r2 (q1.grow g2) q2 w2⟩
    rw [hK]
    exact tyD_v r1 q1 (of_decide_eq_true k) hT⟩
theorem me_bm0 {T id : String} {name : Str} {apos cpos : Pos} {r : V → List V → Hp → VK → Prop} {f : Mb} (hK : X.K = G.K) (pa : PlainAttrs T) (slot : Slot T name id) (hty : typeOf (.builtin id) = pure (.type "method_descriptor")) (hm : MtR X id r) (hf : MbS G E r f)
    (hT : T = "list" ∨ T = "dict" ∨ T = "str" ∨ T = "int") (ho : PE X o (rd G E ma)) (hbase : attributeBase o name X.env (eval o X.env) = eval o X.env := by rfl) (hline : (apos.endLine == cpos.line) = true := by rfl) :
    PE X (.Call (.Attribute o name apos) [] [] cpos) (rd G E (eBM T f ma aNil)) :=
  pe_w (pe_bm0 pa slot hty hm ho hbase hline) fun σ H Q ⟨ρ, env, h, hs, hr, w⟩ => ⟨ρ, env, h, hs, hr, w.seq fun x h1 ρ1 H1 v g1 r1 q1 w1 => by
    obtain ⟨k, w1⟩ := Wp.ifR w1
    refine ⟨?_, hf ρ1 H1 h1 x v [] [] Q r1 q1 .nil w1⟩
    rw [hK]
    exact tyD_v r1 q1 (of_decide_eq_true k) hT⟩
/-! ### dict displays -/
def trsOf (G : Gm) (E : XK) : List (ME × ME) → List (TE × TE)
  | [] => []
  | (k, v) :: r => (rd G E k, rd G E v) :: trsOf G E r
def DRels (G : Gm) (ρ : List Addr) (H : Hp) : List (V × V) → List (D × D) → Prop := Paired fun p q => VRel G ρ H p.1 q.1 ∧ VRel G ρ H p.2 q.2
theorem pairs_rd : ∀ {ps : List (ME × ME)} {ρ : List Addr} {H : Hp} {h : Hm} {σ : L2.St} {env : Env} {Q : List (V × V) → Hp → Prop}, SRel G ρ H σ env → HRel G ρ H h → Wp G E (DRels G) (pairsM ps env h) ρ H Q → tPairs (trsOf G E ps) σ H Q
  | [], ρ, H, h, σ, env, Q, hs, hr, w => Wp.val w hr .nil
  | (k, v) :: r, ρ, H, h, σ, env, Q, hs, hr, w => by
    have w : Wp G E (DRels G) ((k env h).bind fun x h1 => (v env h1).bind fun y h2 => (pairsM r env h2).bind fun ps h3 => .ok ((x, y) :: ps) h3) ρ H Q := w
    refine ⟨ρ, env, h, hs, hr, w.seq fun x h1 ρ1 H1 vx g1 r1 q1 w1 => ⟨ρ1, env, h1, hs.grow g1, r1, w1.seq fun y h2 ρ2 H2 vy g2 r2 q2 w2 => ?_⟩⟩
    refine pairs_rd ((hs.grow g1).grow g2) r2 (Wp.seq (rel := DRels G) w2 fun qs h3 ρ3 H3 zs g3 r3 q3 w3 => ?_)
    exact Wp.val w3 r3 (.cons ⟨(q1.grow g2).grow g3, q2.grow g3⟩ q3)
theorem keyed_rel {ρ : List Addr} {H : Hp} : ∀ {zs : List (V × V)} {qs : List (D × D)} {kds : List (Key × D)}, DRels G ρ H zs qs → keyed qs = some kds → ∃ kvs : List (Key × V), zs = kvs.map (fun kv => (kV kv.1, kv.2)) ∧ NRel G ρ H kvs kds
  | _, _, kds, .nil, e => by
    cases (show some [] = some kds from e)
    exact ⟨[], rfl, .nil⟩
  | _, _, kds, @Paired.cons _ _ _ p q ps qs r t, e => by
    obtain ⟨x, y⟩ := q
    have e : (match kOf x, keyed qs with | some k, some ps => some ((k, y) :: ps) | _, _ => none) = some kds := e
    split at e
    · rename_i k ps' e1 e2
      cases e
      obtain ⟨kvs, rfl, n⟩ := keyed_rel t e2
      refine ⟨(k, p.2) :: kvs, ?_, .cons ⟨rfl, r.2⟩ n⟩
      rw [List.map_cons, ← kOf_rel r.1 e1]
    · cases e
theorem mp_nil {dpos : Pos} : PPs X dpos [] [] (trsOf G E []) := pps_nil
theorem mp_cons {dpos : Pos} {k v : Expr} {ks : List (Option Expr)} {vs : List Expr} {mk mv : ME} {ps : List (ME × ME)} (hk : PE X k (rd G E mk)) (hv : PE X v (rd G E mv)) (hr : PPs X dpos ks vs (trsOf G E ps)) : PPs X dpos (some k :: ks) (v :: vs) (trsOf G E ((mk, mv) :: ps)) :=
  pps_cons hk hv hr
theorem Grow.adopt {ρ ρ1 : List Addr} {H H1 : Hp} {p : Addr} {o o' : HO} (hp : H p = none) (g : Grow ρ (upd H p o) ρ1 H1) (hf : p ∉ ρ) (hm : Mut (some o)) : H1 p = some o ∧ p ∉ ρ1 ∧ Grow ρ H (ρ1 ++ [p]) (upd H1 p o') := by
  obtain ⟨a, n⟩ := g.out p o upd_same hf
  have up : ∀ {b : Addr} {u : HO}, H b = some u → b ≠ p ∧ (upd H p o) b = some u := fun {b u} e => ⟨ne_of_none e hp, by rw [upd_ne (ne_of_none e hp)]; exact e⟩
  refine ⟨a, n, let ⟨t, e⟩ := g.pre; ⟨t ++ [p], by rw [e, List.append_assoc]⟩, fun b xs e => ?_, fun b q u e => ?_, fun b u e k => ?_⟩
  · rw [upd_ne (up e).1]
    exact g.tup b xs (up e).2
  · rw [upd_ne (up e).1]
    exact g.frz b q u (up e).2
  · obtain ⟨e1, k1⟩ := g.out b u (up e).2 k
    refine ⟨by rw [upd_ne (up e).1]; exact e1, fun m => ?_⟩
    rcases List.mem_append.mp m with m | m
    · exact k1 m
    · exact (up e).1 (List.mem_singleton.mp m)
theorem Ext.late {ρ : List Addr} {H : Hp} {p : Addr} {u : HO} (hu : H p = some u) (hm : Mut (some u)) (u' : HO) : Ext ρ H (ρ ++ [p]) (upd H p u') := by
  refine ⟨⟨[p], rfl⟩, fun b xs e => ?_, fun b o v e => ?_⟩
  · rw [upd_ne (ne_of e hu (by rintro rfl; exact hm))]; exact e
  · rw [upd_ne (ne_of e hu (by rintro rfl; exact hm))]; exact e
/-- an object that stood beside comes in, changed -/
theorem HRel.adopt {ρ : List Addr} {H : Hp} {h : Hm} (r : HRel G ρ H h) {p : Addr} {u u' : HO} {o : O} (hn : p ∉ ρ) (hu : H p = some u) (hm : Mut (some u)) (q : ORel G (ρ ++ [p]) (upd H p u') p o) : HRel G (ρ ++ [p]) (upd H p u') (h.new o) := by
  have g : Ext ρ H (ρ ++ [p]) (upd H p u') := Ext.late hu hm u'
  refine ⟨by rw [List.length_append, r.len]; rfl, fun i j a e1 e2 => ?_, fun a m => ?_, fun l u2 e => ?_⟩
  · rw [List.getElem?_append] at e1 e2
    split at e1 <;> split at e2
    · exact r.inj i j a e1 e2
    · have e3 := List.mem_of_getElem? e2
      rw [List.mem_singleton.mp e3] at e1
      exact absurd (List.mem_of_getElem? e1) hn
    · have e3 := List.mem_of_getElem? e1
      rw [List.mem_singleton.mp e3] at e2
      exact absurd (List.mem_of_getElem? e2) hn
    · have h1 := (List.getElem?_eq_some_iff.mp e1).1
      have h2 := (List.getElem?_eq_some_iff.mp e2).1
      simp only [List.length_cons, List.length_nil] at h1 h2
      omega
  · by_cases c : a = p
    · exact ⟨u', by rw [c]; exact upd_same⟩
    · rcases List.mem_append.mp m with m | m
      · obtain ⟨o, e⟩ := r.has a m
        exact ⟨o, by rw [upd_ne c]; exact e⟩
      · exact absurd (List.mem_singleton.mp m) c
  · by_cases hl : l = h.n
    · have e' : (if l = h.n then some o else h.g l) = some u2 := e
      rw [if_pos hl] at e'
      cases e'
      refine ⟨p, ?_, q⟩
      rw [hl, ← r.len]
      simp
    · have e' : (if l = h.n then some o else h.g l) = some u2 := e
      rw [if_neg hl] at e'
      obtain ⟨a, e1, q1⟩ := r.obj l u2 e'
      exact ⟨a, g.at e1, q1.ext g (upd_ne fun z => hn (by rw [← z]; exact List.mem_of_getElem? e1))⟩
theorem me_dict {dpos : Pos} {keys : List (Option Expr)} {values : List Expr} {ps : List (ME × ME)} (h : PPs X dpos keys values (trsOf G E ps)) (hall : keys.all (·.isSome) = true := by rfl) (hl : keys.length = values.length := by rfl) (h0 : keys ≠ [] := by exact fun z => nomatch z)
    (h15 : keys.length ≤ 15 := by decide) : PE X (.Dict keys values dpos) (rd G E (eDict ps)) :=
  pe_w (pe_disp h hall hl h0 h15) fun σ H Q ⟨ρ, env, h, hs, hr, w⟩ => fun p hp => by
    have g := Grow.tmp (ρ := ρ) hp (.dK [])
    unfold eDict at w
    cases e : pairsM ps env h with
    | bad =>
      rw [e] at w
      exact False.elim w
    | exc c fs h1 =>
      rw [e] at w
      refine pairs_rd (hs.grow g) (hr.tmp hp _) ?_
      rw [e]
      exact Wp.grow (rel := VRel G) (r := R.exc c fs h1) g w
    | ok qs h1 =>
      rw [e] at w
      refine pairs_rd (hs.grow g) (hr.tmp hp _) ?_
      rw [e]
      intro ρ1 H1 zs g1 r1 q1
      have w : Wp G E (VRel G) (match keyed qs with | some kvs => ifR (decide (kvs.length ≤ 15)) (.ok (.loc h1.n) (h1.new (.dic (kvs.foldl (fun acc kv => putK acc kv.1 kv.2) [])))) | none => .bad) ρ H Q := w
      split at w
      · rename_i kds e2
        obtain ⟨c, w⟩ := Wp.ifR w
        obtain ⟨kvs, rfl, n⟩ := keyed_rel q1 e2
        obtain ⟨a1, n1, g2⟩ := Grow.adopt (o' := .dK (mergeK [] kvs)) hp g1 (hr.fresh hp) trivial
        refine ⟨a1, kvs, rfl, by rw [n.length]; exact of_decide_eq_true c, ?_⟩
        refine w _ _ _ g2 (r1.adopt n1 a1 trivial ⟨_, upd_same, merge_rel (n.ext (Ext.late a1 trivial _)) .nil⟩) (.loc ?_)
        rw [← r1.len]
        simp
      · exact False.elim w
theorem me_dnew {dpos : Pos} : PE X (.Dict [] [] dpos) (rd G E (eDict [])) := pe_w pe_dnewK fun σ H Q ⟨ρ, env, h, hs, hr, w⟩ => fun p hp => by
  have g := Grow.new hr hp (.dK [])
  refine (show Wp G E (VRel G) (.ok (.loc h.n) (h.new (.dic []))) ρ H Q from w) _ _ _ g (hr.new hp ⟨[], upd_same, .nil⟩) (.loc ?_)
  rw [← hr.len]
  simp
end
end Mo
end
section
/-! Rules: targets, statements, what is walked, loops, comprehensions. -/
namespace Mo
open PySem L2 PyProof.Rows
/-! ### targets -/
section
variable {G : Gm} {E : XK} {X : Cx} {a b c o : Expr} {ma mb mc : ME} {pos : Pos} {as ks : MA} {es : List Expr}
theorem pg_w {e : Expr} {t t' : TG} (h : PG X e t) (w : ∀ v σ H Q, t' v σ H Q → t v σ H Q) : PG X e t' := ⟨fun pins s σ H v u Q I r q => h.run pins s σ H v u Q I r (w v σ H Q q)⟩
theorem pgs_w {e : List Expr} {t t' : TGs} (h : PGs X e t) (w : ∀ v σ H Q, t' v σ H Q → t v σ H Q) : PGs X e t' := ⟨fun pins s σ H v u Q I r q => h.run pins s σ H v u Q I r (w v σ H Q q)⟩
theorem mg_name {i : Nat} {x : Str} (hN : X.N.Nodup) (hi : X.N[i]? = some x) (hx : Loc X.env.scope x) (hf : X.fn x = true ∨ X.env.scope.names.lookup x = some .local := by first | exact .inl rfl | exact .inr rfl | assumption) : PG X (.Name x pos) (rdG G E (gN i)) :=
  pg_w (pg_name hN hi hx hf) fun v σ H Q ⟨ρ, env, h, d, hs, hr, q, w⟩ => Wp.val w hr (hs.set q i)
theorem mgs_nil : PGs X [] (rdGs G E []) := pgs_w pgs_nil fun vs σ H Q ⟨ρ, env, h, ds, hs, hr, q, w⟩ => by
  cases q with
  | nil => exact ⟨rfl, Wp.val w hr hs⟩
  | cons _ _ => exact False.elim w
theorem mgs_cons {g : MG} {gs : List MG} (h1 : PG X a (rdG G E g)) (h2 : PGs X es (rdGs G E gs)) (hs : (assignEach (a :: es) X.env).map (·.2) = assign a X.env :: (assignEach es X.env).map (·.2) := by rfl) : PGs X (a :: es) (rdGs G E (g :: gs)) :=
  pgs_w (pgs_cons h1 h2 hs) fun vs σ H Q ⟨ρ, env, h, ds, hs, hr, q, w⟩ => by
    cases q with
    | nil => exact False.elim w
    | @cons v d vs ds q qs =>
      have w : Wp G E (SRel G) ((g d env h).bind fun σ1 h1 => gsAll gs ds σ1 h1) ρ H Q := w
      exact ⟨v, vs, rfl, ρ, env, h, d, hs, hr, q, w.seq fun env1 h1 ρ1 H1 σ1 g1 r1 s1 w1 => ⟨ρ1, env1, h1, ds, s1, r1, qs.grow g1, w1⟩⟩
theorem gsAll_len : ∀ {gs : List MG} {ds : List D} {env : Env} {h : Hm}, ds.length ≠ gs.length → ∀ {ρ : List Addr} {H : Hp} {Q : L2.St → Hp → Prop}, Wp G E (SRel G) (gsAll gs ds env h) ρ H Q → (∃ c fs h', gsAll gs ds env h = .exc c fs h') ∨ False
  | [], [], _, _, e, _, _, _, _ => absurd rfl e
  | [], _ :: _, _, _, _, _, _, _, w => False.elim w
  | _ :: _, [], _, _, _, _, _, _, w => False.elim w
  | g :: gs, d :: ds, env, h, e, ρ, H, Q, w => by
    have w : Wp G E (SRel G) ((g d env h).bind fun σ1 h1 => gsAll gs ds σ1 h1) ρ H Q := w
    show (∃ c fs h', ((g d env h).bind fun σ1 h1 => gsAll gs ds σ1 h1) = .exc c fs h') ∨ False
    cases e1 : g d env h with
    | bad => rw [e1] at w; exact False.elim w
    | exc c fs h' => exact .inl ⟨c, fs, h', rfl⟩
    | ok env1 h1 =>
      rw [e1] at w
      exact gsAll_len (fun z => e (congrArg (· + 1) z)) (show Wp G E (SRel G) (gsAll gs ds env1 h1) ρ H Q from w)
theorem mg_tup {k n : Nat} {gs : List MG} (hK : X.K = G.K) (hc : X.calm = true) (h : PGs X es (rdGs G E gs)) (hg : gs.length = n := by rfl) (hn : (assignEach es X.env).length = n := by rfl) (hst : (assignEach es X.env).findIdx? (·.1) = none := by rfl) : PG X (.Tuple es k pos) (rdG G E (gT n gs)) :=
  pg_w (pg_tup hc h hn hst) fun v σ H Q ⟨ρ, env, h, d, hs, hr, q, w⟩ => by
    cases q with
    | tup h1 h2 =>
      obtain ⟨k, w⟩ := Wp.ifR (show Wp G E (SRel G) (ifR (decide (_ = n)) (gsAll gs _ env h)) ρ H Q from w)
      rw [hK]
      exact ⟨_, _, rfl, h1, by rw [h2.length]; exact of_decide_eq_true k, ρ, env, h, _, hs, hr, h2, w⟩
    | _ => exact False.elim w
/-- o[i] = .. of a list -/
theorem mg_ix (ha : PE X a (rd G E ma)) (hb : PE X b (rd G E mb)) (hq : ∀ v, assign (.Subscript a b pos) X.env v = (do
      let ov ← holding [v] (eval a X.env)
      let iv ← holding [v, ov] (eval b X.env)
      standAt pos
      holding [v, ov, iv] (setItem ov iv v)
      release [v, ov, iv] []) := by intro _; rfl) : PG X (.Subscript a b pos) (rdG G E (gIx ma mb)) :=
  pg_w (pg_sub ha hb set_list hq) fun v σ H Q ⟨ρ, env, h, d, hs, hr, q, w⟩ =>
    ⟨ρ, env, h, hs, hr, Wp.seq w fun x h1 ρ1 H1 vx g1 r1 q1 w1 => ⟨ρ1, env, h1, hs.grow g1, r1, Wp.seq w1 fun y h2 ρ2 H2 vy g2 r2 q2 w2 => by
      have q1 := q1.grow g2
      have q := (q.grow g1).grow g2
      have hs := (hs.grow g1).grow g2
      cases q1 with
      | @loc p l hl =>
        cases q2 with
        | int k =>
          simp only at w2
          split at w2 <;> first | exact False.elim w2 | skip
          rename_i xs e
          split at w2 <;> first | exact False.elim w2 | skip
          rename_i j e2
          obtain ⟨vs, e3, k3⟩ := r2.at e hl
          have g := Grow.put r2 hl e3 trivial (.lst (vs.set j v))
          refine ⟨p, vs, k, j, rfl, rfl, e3, by rw [k3.length]; exact e2, ?_⟩
          exact w2 _ _ _ g (r2.put hl e3 trivial ⟨_, upd_same, (VRels.set q j k3).grow g⟩) (hs.grow g)
        | _ => exact False.elim w2
      | _ => cases q2 <;> exact False.elim w2⟩⟩
end
/-! ### statements -/
section
variable {G : Gm} {E : XK} {X : Cx} {a b c o : Expr} {ma mb mc : ME} {pos : Pos} {as ks : MA} {es : List Expr} {st : Stmt} {sts : List Stmt} {s1 s2 : MS} {t : MT}
theorem ms_nil : PSs X [] (rdS G E sNext) := pss_w pss_nil fun D σ H ⟨ρ, env, h, hs, hr, w⟩ => w ρ H σ (Grow.refl ρ H) hr hs
theorem rd_seq (D : Ends) (σ : L2.St) (H : Hp) (w : rdS G E (sSeq s1 s2) D σ H) : tSeq (rdS G E s1) (rdS G E s2) D σ H := by
  obtain ⟨ρ, env, h, hs, hr, w⟩ := w
  refine ⟨ρ, env, h, hs, hr, ?_⟩
  unfold sSeq at w
  cases e : s1 env h with
  | nx env1 h1 =>
    rw [e] at w
    exact fun ρ1 H1 σ1 g1 r1 q1 => ⟨ρ1, env1, h1, q1, r1, WpS.grow g1 w⟩
  | rt d h1 => rw [e] at w; exact w
  | bk d h1 => rw [e] at w; exact w
  | ct d h1 => rw [e] at w; exact w
  | exc c fs h1 => rw [e] at w; exact w
  | bad => rw [e] at w; exact w
theorem ms_cons (h1 : PS X st (rdS G E s1)) (h2 : PSs X sts (rdS G E s2)) : PSs X (st :: sts) (rdS G E (sSeq s1 s2)) := pss_w (pss_cons h1 h2) rd_seq
theorem ms_one (h1 : PS X st (rdS G E s1)) : PSs X [st] (rdS G E s1) := pss_one h1
theorem ms_never : PS X st (rdS G E sBad) := ps_w ps_never fun D σ H ⟨ρ, env, h, hs, hr, w⟩ => w
theorem mss_never : PSs X sts (rdS G E sBad) := pss_w pss_never fun D σ H ⟨ρ, env, h, hs, hr, w⟩ => w
theorem ms_pass : PS X (.Pass pos) (rdS G E sNext) := ps_w ps_pass fun D σ H ⟨ρ, env, h, hs, hr, w⟩ => w ρ H σ (Grow.refl ρ H) hr hs
theorem ms_break : PS X (.Break pos) (rdS G E sBreak) := ps_w ps_break fun D σ H ⟨ρ, env, h, hs, hr, w⟩ => w ρ H σ (Grow.refl ρ H) hr hs
theorem ms_continue : PS X (.Continue pos) (rdS G E sCont) := ps_w ps_continue fun D σ H ⟨ρ, env, h, hs, hr, w⟩ => w ρ H σ (Grow.refl ρ H) hr hs
theorem ms_expr (ha : PE X a (rd G E ma)) (hs : swapsWith a none pos.line X.env = pure false := by rfl) : PS X (.Expr a pos) (rdS G E (sExpr ma)) :=
  ps_w (ps_expr ha hs) fun D σ H ⟨ρ, env, h, hs, hr, w⟩ => ⟨ρ, env, h, hs, hr, Wp.stm w fun x h1 ρ1 H1 v g1 r1 q1 w1 => w1 ρ1 H1 σ (Grow.refl _ _) r1 (hs.grow g1)⟩
theorem rd_asg {g : MG} (D : Ends) (σ : L2.St) (H : Hp) (w : rdS G E (sAsg ma g) D σ H) : tAsg (rd G E ma) (rdG G E g) D σ H := by
  obtain ⟨ρ, env, h, hs, hr, w⟩ := w
  exact ⟨ρ, env, h, hs, hr, Wp.stm w fun x h1 ρ1 H1 v g1 r1 q1 w1 => ⟨ρ1, env, h1, x, hs.grow g1, r1, q1, Wp.stm w1 fun env2 h2 ρ2 H2 σ2 g2 r2 q2 w2 => w2 ρ2 H2 σ2 (Grow.refl _ _) r2 q2⟩⟩
theorem ms_asg {tg : Expr} {g : MG} (ha : PE X a (rd G E ma)) (hg : PG X tg (rdG G E g)) (hs : swapsWithSole [tg] a pos.line X.env = pure false := by rfl) (hw : swappedStores [tg] a X.env = pure none := by rfl) (h1 : (assignEach [tg] X.env).map (·.2) = [assign tg X.env] := by rfl) :
    PS X (.Assign [tg] a pos) (rdS G E (sAsg ma g)) := ps_w (ps_asg ha hg hs hw h1) rd_asg
theorem ms_set (i : Nat) {x : Str} {pos' : Pos} (hN : X.N.Nodup) (hi : X.N[i]? = some x) (hx : Loc X.env.scope x) (ha : PE X a (rd G E ma)) (hs : swapsWith a (some (.Name x pos')) pos.line X.env = pure false := by rfl)
    (hf : X.fn x = true ∨ X.env.scope.names.lookup x = some .local := by first | exact .inl rfl | exact .inr rfl | assumption) : PS X (.Assign [.Name x pos'] a pos) (rdS G E (sAsg ma (gN i))) :=
  ps_w (ps_set hN hi hx ha hs hf) fun D σ H ⟨ρ, env, h, hs, hr, w⟩ => ⟨ρ, env, h, hs, hr, Wp.stm w fun x h1 ρ1 H1 v g1 r1 q1 w1 => (show WpS G E (.nx (env.set i (some x)) h1) ρ1 H1 D from w1) ρ1 H1 _ (Grow.refl _ _) r1 ((hs.grow g1).set q1 i)⟩
theorem ms_par {i j : Nat} {x y : Str} {px py pt : Pos} {kt k2 pt2} (hc : X.calm = true) (hN : X.N.Nodup) (hi : X.N[i]? = some x) (hj : X.N[j]? = some y) (hij : i ≠ j) (hx : X.env.scope.names.lookup x = some .local) (hy : X.env.scope.names.lookup y = some .local) (ha : PA X [a, b] (rdA G E as))
    (hw : swappedStores [.Tuple [.Name x px, .Name y py] kt pt] (.Tuple [a, b] k2 pt2) X.env = pure (some [x, y]) := by rfl) (hs : swapsWithSole [.Tuple [.Name x px, .Name y py] kt pt] (.Tuple [a, b] k2 pt2) pos.line X.env = pure false := by rfl) :
    PS X (.Assign [.Tuple [.Name x px, .Name y py] kt pt] (.Tuple [a, b] k2 pt2) pos) (rdS G E (sPar [i, j] as)) :=
  ps_w (ps_par hc hN hi hj hij hx hy ha hw hs) fun D σ H ⟨ρ, env, h, hs, hr, w⟩ => ⟨ρ, env, h, hs, hr, Wp.stm w fun ds h1 ρ1 H1 vs g1 r1 q1 w1 => by
    split at w1
    · rename_i e
      cases e
      obtain ⟨v, u, rfl, k1, k2⟩ := vs2 q1
      exact ⟨v, u, rfl, w1 ρ1 H1 _ (Grow.refl _ _) r1 (((hs.grow g1).set k1 _).set k2 _)⟩
    · rename_i e
      cases e
    · exact False.elim w1⟩
theorem ms_par3 {i j l : Nat} {x y z : Str} {px py pz pt : Pos} {kt k2 pt2} (hc : X.calm = true) (hN : X.N.Nodup) (hi : X.N[i]? = some x) (hj : X.N[j]? = some y) (hl : X.N[l]? = some z) (hij : i ≠ j) (hil : i ≠ l) (hjl : j ≠ l) (hx : X.env.scope.names.lookup x = some .local) (hy : X.env.scope.names.lookup y = some .local)
    (hz : X.env.scope.names.lookup z = some .local) (ha : PA X [a, b, c] (rdA G E as)) (hw : swappedStores [.Tuple [.Name x px, .Name y py, .Name z pz] kt pt] (.Tuple [a, b, c] k2 pt2) X.env = pure (some [x, y, z]) := by rfl)
    (hs : swapsWithSole [.Tuple [.Name x px, .Name y py, .Name z pz] kt pt] (.Tuple [a, b, c] k2 pt2) pos.line X.env = pure false := by rfl) : PS X (.Assign [.Tuple [.Name x px, .Name y py, .Name z pz] kt pt] (.Tuple [a, b, c] k2 pt2) pos) (rdS G E (sPar [i, j, l] as)) :=
  ps_w (ps_par3 hc hN hi hj hl hij hil hjl hx hy hz ha hw hs) fun D σ H ⟨ρ, env, h, hs, hr, w⟩ => ⟨ρ, env, h, hs, hr, Wp.stm w fun ds h1 ρ1 H1 vs g1 r1 q1 w1 => by
    split at w1
    · rename_i e
      cases e
    · rename_i e
      cases e
      cases q1 with
      | cons k1 q1 =>
        obtain ⟨v, u, rfl, k2, k3⟩ := vs2 q1
        exact ⟨_, v, u, rfl, w1 ρ1 H1 _ (Grow.refl _ _) r1 ((((hs.grow g1).set k1 _).set k2 _).set k3 _)⟩
    · exact False.elim w1⟩
theorem ms_aug (i : Nat) {x : Str} {op : Operator} {r : R2} {f : D → D → Hm → R D} {pos' : Pos} (hN : X.N.Nodup) (hi : X.N[i]? = some x) (hx : Loc X.env.scope x) (ho : PIp X op r) (hf' : OpS G E r f) (ha : PE X a (rd G E ma))
    (hf : X.fn x = true ∨ X.env.scope.names.lookup x = some .local := by first | exact .inl rfl | exact .inr rfl | assumption) : PS X (.AugAssign (.Name x pos') op a pos) (rdS G E (sAug i f ma)) :=
  ps_w (ps_aug hN hi hx ha ho hf) fun D σ H ⟨ρ, env, h, hs, hr, w⟩ => by
    unfold sAug at w
    split at w
    · rename_i d e
      obtain ⟨v, e1, q⟩ := hs.2 i d e
      exact ⟨v, e1, ρ, env, h, hs, hr, Wp.stm w fun y h1 ρ1 H1 u g1 r1 q1 w1 => hf' ρ1 H1 h1 d y v u _ r1 (q.grow g1) q1 (Wp.stm w1 fun z h2 ρ2 H2 u2 g2 r2 q2 w2 => w2 ρ2 H2 _ (Grow.refl _ _) r2 (((hs.grow g1).grow g2).set q2 i))⟩
    · exact False.elim w
theorem os_ip {g : Int → Int → Int} {f : D → D → Hm → R D} (h : OpS G E (rI0 fun i j => .int (g i j)) f) : OpS G E (ipI g) f := h
theorem ms_fld {f f' : Str} {cs : List Nat} {pos' : Pos} (hK : X.K = G.K) (hC : ∀ c, cs.contains c = true → Cls G.K (G.cA c) ∧ NoAttr G.K (G.cA c) f) (hf : f' = f) (ho : PE X o (rd G E mb)) (ha : PE X a (rd G E ma)) (hs : swapsWith a (some (.Attribute o f' pos')) pos.line X.env = pure false := by rfl) :
    PS X (.Assign [.Attribute o f' pos'] a pos) (rdS G E (sFld mb cs f ma)) := by
  subst hf
  exact ps_w (ps_fld ho ha hs) fun D σ H ⟨ρ, env, h, hs, hr, w⟩ => ⟨ρ, env, h, hs, hr, Wp.stm w fun y h1 ρ1 H1 v g1 r1 q1 w1 => ⟨ρ1, env, h1, hs.grow g1, r1, Wp.stm w1 fun x h2 ρ2 H2 u g2 r2 q2 w2 => by
    cases q2 with
    | @loc p l hl =>
      simp only at w2
      split at w2 <;> first | exact False.elim w2 | skip
      rename_i c fs e
      split at w2 <;> first | exact False.elim w2 | skip
      rename_i k
      obtain ⟨k1, k2⟩ := (Bool.and_eq_true_iff.mp k : cs.contains c = true ∧ decide (fs.length < 1000) = true)
      obtain ⟨dx, fvs, e3, n⟩ := r2.at e hl
      obtain ⟨c1, c2⟩ := hC c k1
      have g := Grow.put r2 hl e3 trivial (.ins (G.cA c) dx (L2.putF f' v fvs))
      rw [hK]
      refine ⟨p, _, dx, fvs, rfl, e3, c1, c2, by rw [n.length]; exact of_decide_eq_true k2, ?_⟩
      exact w2 _ _ _ g (r2.put hl e3 trivial ⟨dx, _, upd_same, (putF_rel (q1.grow g2) n).grow g⟩) (((hs.grow g1).grow g2).grow g)
    | _ => exact False.elim w2⟩⟩
theorem ms_fldaug {f f' : Str} {cs : List Nat} {pos' : Pos} {op : Operator} {r : V → V → Hp → VK → Prop} {fo : D → D → Hm → R D} (hK : X.K = G.K) (hC : ∀ c, cs.contains c = true → Cls G.K (G.cA c) ∧ NoAttr G.K (G.cA c) f) (hf : f' = f) (hop : InOp X op r) (hfo : OpS G E r fo) (ho : PE X o (rd G E mb)) (ha : PE X a (rd G E ma)) :
    PS X (.AugAssign (.Attribute o f' pos') op a pos) (rdS G E (sAugF mb cs f fo ma)) := by
  subst hf
  exact ps_w (ps_fldaug ho ha hop) fun D σ H ⟨ρ, env, h, hs, hr, w⟩ => ⟨ρ, env, h, hs, hr, Wp.stm w fun x h1 ρ1 H1 u g1 r1 q1 w1 => by
    cases q1 with
    | @loc p l hl =>
      simp only at w1
      split at w1 <;> first | exact False.elim w1 | skip
      rename_i c fs e
      split at w1 <;> first | exact False.elim w1 | skip
      rename_i v k1 k2
      obtain ⟨dx, fvs, e3, n⟩ := r1.at e hl
      obtain ⟨c1, c2⟩ := hC c k1
      obtain ⟨z, e4, q4⟩ := (fld_rel n).1 v k2
      rw [hK]
      refine ⟨p, _, dx, fvs, z, rfl, e3, c1, c2, e4, ρ1, env, h1, hs.grow g1, r1, Wp.stm w1 fun y h2 ρ2 H2 vy g2 r2 q2 w2 => ?_⟩
      refine hfo ρ2 H2 h2 v y z vy _ r2 (q4.grow g2) q2 (Wp.stm w2 fun zz h3 ρ3 H3 vz g3 r3 q3 w3 => ?_)
      split at w3 <;> first | exact False.elim w3 | skip
      rename_i c' fs' e5
      split at w3 <;> first | exact False.elim w3 | skip
      rename_i k
      obtain ⟨k3, k4⟩ := (Bool.and_eq_true_iff.mp k : (c' == c) = true ∧ decide (fs'.length < 1000) = true)
      have ec : c' = c := by simpa using k3
      subst ec
      obtain ⟨dx', fvs', e6, n'⟩ := r3.at e5 ((g3.at (g2.at hl)))
      have g := Grow.put r3 (g3.at (g2.at hl)) e6 trivial (.ins (G.cA c') dx' (L2.putF f' vz fvs'))
      refine ⟨dx', fvs', e6, by rw [n'.length]; exact of_decide_eq_true k4, ?_⟩
      exact w3 _ _ _ g (r3.put (g3.at (g2.at hl)) e6 trivial ⟨dx', _, upd_same, (putF_rel q3 n').grow g⟩) ((((hs.grow g1).grow g2).grow g3).grow g)
    | _ => exact False.elim w1⟩
theorem ms_dput {pos' : Pos} (hu : X.A.units + 1 < cLine) (ho : PE X o (rd G E mb)) (hi : PE X b (rd G E mc)) (ha : PE X a (rd G E ma)) (hs : swapsWith a (some (.Subscript o b pos')) pos.line X.env = pure false := by rfl) : PS X (.Assign [.Subscript o b pos'] a pos) (rdS G E (sDPut mb mc ma)) :=
  ps_w (ps_dput hu ho hi ha hs) fun D σ H ⟨ρ, env, h, hs, hr, w⟩ => ⟨ρ, env, h, hs, hr, Wp.stm w fun v h1 ρ1 H1 vv g1 r1 q1 w1 => ⟨ρ1, env, h1, hs.grow g1, r1, Wp.stm w1 fun x h2 ρ2 H2 vx g2 r2 q2 w2 => ⟨ρ2, env, h2, (hs.grow g1).grow g2, r2, Wp.stm w2 fun y h3 ρ3 H3 vy g3 r3 q3 w3 => by
    have q2 := q2.grow g3
    have q1 := (q1.grow g2).grow g3
    cases q2 with
    | @loc p l hl =>
      simp only at w3
      split at w3 <;> first | exact False.elim w3 | skip
      rename_i kds k e1 e2
      split at w3 <;> first | exact False.elim w3 | skip
      rename_i c
      obtain ⟨kvs, e4, n⟩ := r3.at e1 hl
      have g := Grow.put r3 hl e4 trivial (.dK (L2.putK kvs k vv))
      have e5 := kOf_rel q3 e2
      subst e5
      refine ⟨p, _, rfl, DPut.k e4 (by rw [n.length]; exact sl_lt (of_decide_eq_true c)), ?_⟩
      exact w3 _ _ _ g (r3.put hl e4 trivial ⟨_, upd_same, (put_rel n q1).grow g⟩) ((((hs.grow g1).grow g2).grow g3).grow g)
    | _ => exact False.elim w3⟩⟩⟩
theorem ms_ret (ha : PE X a (rd G E ma)) : PS X (.Return (some a) pos) (rdS G E (sRet ma)) :=
  ps_w (ps_ret ha) fun D σ H ⟨ρ, env, h, hs, hr, w⟩ => ⟨ρ, env, h, hs, hr, Wp.stm w fun x h1 ρ1 H1 v g1 r1 q1 w1 => w1 ρ1 H1 v (Grow.refl _ _) r1 q1⟩
theorem ms_retN : PS X (.Return none pos) (rdS G E sRetN) := ps_w ps_retN fun D σ H ⟨ρ, env, h, hs, hr, w⟩ => w ρ H .non (Grow.refl _ _) hr .non
theorem ms_if {A B : List Stmt} (hc : PT X c (rdT G E t)) (h1 : PSs X A (rdS G E s1)) (h2 : PSs X B (rdS G E s2)) : PS X (.If c A B pos) (rdS G E (sIf t s1 s2)) :=
  ps_w (ps_if hc h1 h2) fun D σ H ⟨ρ, env, h, hs, hr, w⟩ => ⟨ρ, env, h, hs, hr, Wp.stm w fun k h1 ρ1 H1 v g1 r1 q1 w1 => by
    cases q1
    cases k with
    | true => exact ⟨ρ1, env, h1, hs.grow g1, r1, w1⟩
    | false => exact ⟨ρ1, env, h1, hs.grow g1, r1, w1⟩⟩
end
/-! ### what is walked -/
structure Yld (G : Gm) (J : L2.It) (it : It) (ρ0 : List Addr) (H0 : Hp) : Prop where
  go : ∀ ρ H h i, Grow ρ0 H0 ρ H → HRel G ρ H h → it.ok h = true → i < it.xs.length → J.go i H
  stop : ∀ ρ H h i, Grow ρ0 H0 ρ H → HRel G ρ H h → it.ok h = true → it.xs.length ≤ i → J.stop i H
  yld : ∀ ρ H h i x H', Grow ρ0 H0 ρ H → HRel G ρ H h → it.ok h = true → J.yld i H x H' → ∀ d, it.xs[i]? = some d → ∃ ρ', Grow ρ H ρ' H' ∧ HRel G ρ' H' h ∧ VRel G ρ' H' x d
def rdI (G : Gm) (E : XK) (m : MI) : TI := fun σ H R => ∃ ρ env h, SRel G ρ H σ env ∧ HRel G ρ H h ∧ Wp G E (fun ρ' H' J it => Yld G J it ρ' H') (m env h) ρ H R
section
variable {G : Gm} {E : XK} {X : Cx} {a b c o tg : Expr} {ma mb mc : ME} {pos : Pos} {as ks : MA} {es : List Expr}
theorem pi_w {e : Expr} {t t' : TI} (h : PI X tg e t) (w : ∀ σ H Q, t' σ H Q → t σ H Q) : PI X tg e t' := ⟨fun pins s σ H Q I q => h.run pins s σ H Q I (w σ H Q q)⟩
theorem pi_or {e : Expr} {t t' : TI} (h : PI X tg e t) (h' : PI X tg e t') : PI X tg e (fun σ H Q => t σ H Q ∨ t' σ H Q) := ⟨fun pins s σ H Q I q => q.elim (h.run pins s σ H Q I) (h'.run pins s σ H Q I)⟩
theorem yld_list {ρ : List Addr} {H : Hp} {x : D} {p : Addr} {xs : List D} (q : VRel G ρ H (.ref p) x) : Yld G (Itl G.K p) ⟨xs, fun h' => decide (h'.seq x = some xs)⟩ ρ H := by
  have at' : ∀ {ρ' : List Addr} {H' : Hp} {h : Hm}, Grow ρ H ρ' H' → HRel G ρ' H' h → decide (h.seq x = some xs) = true → ∃ vs, SqL G.K H' p vs ∧ VRels G ρ' H' vs xs := fun g r e => by
    obtain ⟨a, vs, e1, k1, k2⟩ := r.seqL (of_decide_eq_true e) (q.grow g)
    cases e1
    exact ⟨vs, k1, k2⟩
  refine ⟨fun ρ' H' h i g r e hi => ?_, fun ρ' H' h i g r e hi => ?_, fun ρ' H' h i y H2 g r e yl d ed => ?_⟩
  · obtain ⟨vs, k1, k2⟩ := at' g r e
    have hi : i < xs.length := hi
    have hi' : i < vs.length := by rw [k2.length]; exact hi
    exact ⟨vs, vs[i], k1, by simp [hi']⟩
  · obtain ⟨vs, k1, k2⟩ := at' g r e
    exact ⟨vs, k1, by rw [k2.length]; exact hi⟩
  · obtain ⟨vs, k1, k2⟩ := at' g r e
    obtain ⟨e2, yl⟩ := yl
    subst e2
    obtain ⟨v, e3, k3⟩ := k2.get ed
    have e4 := yl vs k1
    rw [e3] at e4
    cases e4
    exact ⟨ρ', Grow.refl _ _, r, k3⟩
theorem yld_tup {ρ : List Addr} {H : Hp} {p : Addr} {vs : List V} {xs : List D} (h1 : SqT G.K H p vs) (h2 : VRels G ρ H vs xs) : Yld G (Itt G.K p) ⟨xs, fun _ => true⟩ ρ H := by
  refine ⟨fun ρ' H' h i g r e hi => ?_, fun ρ' H' h i g r e hi => ?_, fun ρ' H' h i y H2 g r e yl d ed => ?_⟩
  · have hi : i < xs.length := hi
    have hi' : i < vs.length := by rw [h2.length]; exact hi
    exact ⟨vs, vs[i], g.ext.sqT h1, by simp [hi']⟩
  · exact ⟨vs, g.ext.sqT h1, by rw [h2.length]; exact hi⟩
  · obtain ⟨e2, yl⟩ := yl
    subst e2
    obtain ⟨v, e3, k3⟩ := h2.get ed
    have e4 := yl vs (g.ext.sqT h1)
    rw [e3] at e4
    cases e4
    exact ⟨ρ', Grow.refl _ _, r, k3.grow g⟩
theorem intsFrom_get {lo : Int} {n i : Nat} (h : i < n) : (intsFrom lo n)[i]? = some (.int (lo + i)) := by
  unfold intsFrom
  rw [List.getElem?_map, List.getElem?_range h]
  rfl
theorem intsFrom_len {lo : Int} {n : Nat} : (intsFrom lo n).length = n := by
  unfold intsFrom
  rw [List.length_map, List.length_range]
theorem yld_rng {ρ : List Addr} {H : Hp} {lo : Int} {n : Nat} : Yld G (Itr lo n) ⟨intsFrom lo n, fun _ => true⟩ ρ H := by
  refine ⟨fun ρ' H' h i g r e hi => ?_, fun ρ' H' h i g r e hi => ?_, fun ρ' H' h i y H2 g r e yl d ed => ?_⟩
  · show i < n
    rw [← intsFrom_len (lo := lo) (n := n)]
    exact hi
  · show n ≤ i
    rw [← intsFrom_len (lo := lo) (n := n)]
    exact hi
  · obtain ⟨e2, e3⟩ := yl
    subst e2 e3
    have hl := (List.getElem?_eq_some_iff.mp ed).1
    rw [intsFrom_len] at hl
    have ed : (intsFrom lo n)[i]? = some d := ed
    rw [intsFrom_get hl] at ed
    cases ed
    exact ⟨ρ', Grow.refl _ _, r, .int _⟩
theorem numbered_get : ∀ {xs : List D} {k i : Nat}, (numbered k xs)[i]? = xs[i]?.map fun x => .tup [.int ((k + i : Nat) : Int), x]
  | [], k, i => by simp [numbered]
  | x :: xs, k, 0 => by simp [numbered]
  | x :: xs, k, i + 1 => by
    have e := numbered_get (xs := xs) (k := k + 1) (i := i)
    have e2 : k + 1 + i = k + (i + 1) := by omega
    rw [e2] at e
    simpa [numbered] using e
theorem numbered_len : ∀ (xs : List D) (k : Nat), (numbered k xs).length = xs.length
  | [], _ => rfl
  | x :: xs, k => congrArg (· + 1) (numbered_len xs (k + 1))
theorem yld_enum {ρ : List Addr} {H : Hp} {x : D} {p : Addr} {xs : List D} (q : VRel G ρ H (.ref p) x) : Yld G (Ite G.K p) ⟨numbered 0 xs, fun h' => decide (h'.seq x = some xs)⟩ ρ H := by
  have at' : ∀ {ρ' : List Addr} {H' : Hp} {h : Hm}, Grow ρ H ρ' H' → HRel G ρ' H' h → decide (h.seq x = some xs) = true → ∃ vs, SqL G.K H' p vs ∧ VRels G ρ' H' vs xs := fun g r e => by
    obtain ⟨a, vs, e1, k1, k2⟩ := r.seqL (of_decide_eq_true e) (q.grow g)
    cases e1
    exact ⟨vs, k1, k2⟩
  refine ⟨fun ρ' H' h i g r e hi => ?_, fun ρ' H' h i g r e hi => ?_, fun ρ' H' h i y H2 g r e yl d ed => ?_⟩
  · obtain ⟨vs, k1, k2⟩ := at' g r e
    have hi : i < (numbered 0 xs).length := hi
    rw [numbered_len] at hi
    have hi' : i < vs.length := by rw [k2.length]; exact hi
    exact ⟨vs, vs[i], k1, by simp [hi']⟩
  · obtain ⟨vs, k1, k2⟩ := at' g r e
    have hi : (numbered 0 xs).length ≤ i := hi
    rw [numbered_len] at hi
    exact ⟨vs, k1, by rw [k2.length]; exact hi⟩
  · obtain ⟨vs, k1, k2⟩ := at' g r e
    obtain ⟨T, z, e2, hT, e3, yl⟩ := yl
    subst e2 e3
    have ed : (numbered 0 xs)[i]? = some d := ed
    rw [numbered_get] at ed
    obtain ⟨w, e4, e5⟩ := Option.map_eq_some_iff.mp ed
    subst e5
    obtain ⟨v, e6, k3⟩ := k2.get e4
    have e7 := yl vs k1
    rw [e6] at e7
    rw [Option.some.inj e7] at k3
    have g2 := Grow.tmp (ρ := ρ') hT (.tup [.int (i : Nat), z])
    refine ⟨ρ', g2, r.tmp hT _, .tup (SqT.of upd_same) (.cons ?_ (.cons (k3.grow g2) .nil))⟩
    have e8 : (0 + i : Nat) = i := Nat.zero_add i
    rw [e8]
    exact .int _
theorem mi_seq (hK : X.K = G.K) (ha : PE X a (rd G E ma)) : PI X tg a (rdI G E (iSeq ma)) := pi_w (pi_or (pi_list ha) (pi_tup ha)) fun σ H R ⟨ρ, env, h, hs, hr, w⟩ => by
  rw [hK]
  unfold iSeq at w
  cases e : ma env h with
  | bad => rw [e] at w; exact False.elim w
  | exc c fs h1 => rw [e] at w; exact .inl ⟨ρ, env, h, hs, hr, by rw [e]; exact w⟩
  | ok x h1 =>
    rw [e] at w
    by_cases ht : ∃ ds, x = .tup ds
    · obtain ⟨ds, rfl⟩ := ht
      refine .inr ⟨ρ, env, h, hs, hr, ?_⟩
      rw [e]
      intro ρ1 H1 v g1 r1 q1
      cases q1 with
      | tup k1 k2 => exact ⟨_, rfl, ⟨_, k1⟩, Wp.val (Wp.grow g1 w) r1 (yld_tup k1 k2)⟩
    · have w : Wp G E (fun ρ' H' J it => Yld G J it ρ' H') (match h1.seq x with | some xs => .ok ⟨xs, fun h' => decide (h'.seq x = some xs)⟩ h1 | none => .bad) ρ H R := by
        cases x <;> first | exact w | exact (ht ⟨_, rfl⟩).elim
      refine .inl ⟨ρ, env, h, hs, hr, ?_⟩
      rw [e]
      intro ρ1 H1 v g1 r1 q1
      split at w
      · rename_i xs e1
        obtain ⟨p, vs, rfl, k1, k2⟩ := r1.seqL e1 q1
        exact ⟨p, rfl, ⟨vs, k1⟩, Wp.val (Wp.grow g1 w) r1 (yld_list q1)⟩
      · exact False.elim w
variable {p : Pos}
theorem mi_rng1 (hg : Gl X "range") (hm : X.mg "range" = none) (ha : PA X [a] (rdA G E as)) (hs : starEach [a] X.env = [(false, eval a X.env)] := by rfl) (h1 : ∀ env h ds h', as env h = .ok ds h' → ds.length = 1) : PI X tg (.Call (.Name "range" p) [a] [] pos) (rdI G E (iRng as)) :=
  pi_w (pi_range1 hg hm ha hs) fun σ H R ⟨ρ, env, h, hs, hr, w⟩ => by
    refine ⟨ρ, env, h, hs, hr, ?_⟩
    unfold iRng at w
    cases e : as env h with
    | bad => rw [e] at w; exact False.elim w
    | exc c fs h1 => rw [e] at w; exact w
    | ok ds h2 =>
      have l := h1 _ _ _ _ e
      rw [e] at w
      refine fun ρ1 H1 vs g1 r1 q1 => ?_
      have w : Wp G E (fun ρ' H' J it => Yld G J it ρ' H') (rngOf ds h2) ρ H R := w
      unfold rngOf at w
      split at w
      · obtain ⟨v, rfl, k⟩ := vs1 q1
        cases k
        obtain ⟨c, w⟩ := Wp.ifR w
        obtain ⟨c1, c2⟩ := of_decide_eq_true c
        exact ⟨_, rfl, c1, c2, Wp.val (Wp.grow g1 w) r1 yld_rng⟩
      · simp at l
      · exact False.elim w
theorem mi_rng2 (hg : Gl X "range") (hm : X.mg "range" = none) (ha : PA X [a, b] (rdA G E as)) (hs : starEach [a, b] X.env = [(false, eval a X.env), (false, eval b X.env)] := by rfl) (hs2 : starEach [b] X.env = [(false, eval b X.env)] := by rfl) (h1 : ∀ env h ds h', as env h = .ok ds h' → ds.length = 2) :
    PI X tg (.Call (.Name "range" p) [a, b] [] pos) (rdI G E (iRng as)) :=
  pi_w (pi_range2 hg hm ha hs hs2) fun σ H R ⟨ρ, env, h, hs, hr, w⟩ => by
    refine ⟨ρ, env, h, hs, hr, ?_⟩
    unfold iRng at w
    cases e : as env h with
    | bad => rw [e] at w; exact False.elim w
    | exc c fs h1 => rw [e] at w; exact w
    | ok ds h2 =>
      have l := h1 _ _ _ _ e
      rw [e] at w
      refine fun ρ1 H1 vs g1 r1 q1 => ?_
      have w : Wp G E (fun ρ' H' J it => Yld G J it ρ' H') (rngOf ds h2) ρ H R := w
      unfold rngOf at w
      split at w
      · simp at l
      · obtain ⟨v, u, rfl, k, k'⟩ := vs2 q1
        cases k
        cases k'
        obtain ⟨c, w⟩ := Wp.ifR w
        exact ⟨_, _, rfl, of_decide_eq_true c, Wp.val (Wp.grow g1 w) r1 yld_rng⟩
      · exact False.elim w
theorem aLen1 {m : ME} : ∀ env h ds h', aCons m aNil env h = .ok ds h' → ds.length = 1 := fun env h ds h' e => by
  unfold aCons aNil at e
  cases e1 : m env h with
  | ok x h1 => rw [e1] at e; cases e; rfl
  | exc c fs h1 => rw [e1] at e; cases e
  | bad => rw [e1] at e; cases e
theorem aLen2 {m n : ME} : ∀ env h ds h', aCons m (aCons n aNil) env h = .ok ds h' → ds.length = 2 := fun env h ds h' e => by
  unfold aCons at e
  cases e1 : m env h with
  | ok x h1 =>
    rw [e1] at e
    cases e2 : n env h1 with
    | ok y h2 => simp only [R.bind, e2, aNil] at e; cases e; rfl
    | exc c fs h1 => simp only [R.bind, e2] at e; cases e
    | bad => simp only [R.bind, e2] at e; cases e
  | exc c fs h1 => rw [e1] at e; cases e
  | bad => rw [e1] at e; cases e
theorem mi_enum {elts : List Expr} {kk : Nat} {tpos : Pos} (hK : X.K = G.K) (hg : Gl X "enumerate") (hm : X.mg "enumerate" = none) (ha : PA X [a] (rdA G E (aCons ma aNil))) (hs : starEach [a] X.env = [(false, eval a X.env)] := by rfl) : PI X (.Tuple elts kk tpos) (.Call (.Name "enumerate" p) [a] [] pos) (rdI G E (iEnum ma)) :=
  pi_w (pi_enum hg hm ha hs) fun σ H R ⟨ρ, env, h, hs, hr, w⟩ => by
    rw [hK]
    refine ⟨ρ, env, h, hs, hr, ?_⟩
    unfold iEnum at w
    unfold aCons aNil
    cases e : ma env h with
    | bad => rw [e] at w; exact False.elim w
    | exc c fs h1 => rw [e] at w; exact w
    | ok x h1 =>
      rw [e] at w
      refine fun ρ1 H1 vs g1 r1 q1 => ?_
      obtain ⟨v, rfl, k⟩ := vs1 q1
      have w : Wp G E (fun ρ' H' J it => Yld G J it ρ' H') (match h1.seq x with | some xs => .ok ⟨numbered 0 xs, fun h' => decide (h'.seq x = some xs)⟩ h1 | none => .bad) ρ H R := w
      split at w
      · rename_i xs e1
        obtain ⟨p, vs, rfl, k1, k2⟩ := r1.seqL e1 k
        exact ⟨p, vs, rfl, k1, Wp.val (Wp.grow g1 w) r1 (yld_enum k)⟩
      · exact False.elim w
end
end Mo
end
section
/-! Rules: for, while, comprehensions. -/
namespace Mo
open PySem L2 PyProof.Rows
section
variable {G : Gm} {E : XK} {X : Cx} {a b c o tg : Expr} {ma mb mc : ME} {pos : Pos} {as ks : MA} {es : List Expr}
/-- what goes on behind a turn -/
theorem turn_ends {r : RS} {ρ : List Addr} {H : Hp} {D : Ends} {go : MS} {N : L2.St → Hp → Prop} (w : WpS G E (match r with | .nx σ2 h2 => go σ2 h2 | .ct σ2 h2 => go σ2 h2 | .bk σ2 h2 => .nx σ2 h2 | .rt d h2 => .rt d h2 | .exc c fs h2 => .exc c fs h2 | .bad => .bad) ρ H D)
    (hN : ∀ env h, WpS G E (go env h) ρ H D → ∀ ρ' H' σ', Grow ρ H ρ' H' → HRel G ρ' H' h → SRel G ρ' H' σ' env → N σ' H') : WpS G E r ρ H { D with nx := N, ct := N, bk := D.nx } := by
  cases r with
  | nx e h => exact hN e h w
  | ct e h => exact hN e h w
  | bk e h => exact w
  | rt d h => exact w
  | exc c fs h => exact w
  | bad => exact w
theorem ms_for {it : Expr} {body : List Stmt} {mi : MI} {g : MG} {mb : MS} (hp : PassesOwn (model X.prog X.w) X.A X.env X.xe) (hc : X.calm = true) (hi : PI X tg it (rdI G E mi)) (hg : PG X tg (rdG G E g)) (hb : PSs X body (rdS G E mb))
    (hs : ∀ x, foldedSetIterable it X.env x = pure x := by intro _; rfl) : PS X (.For tg it body [] pos) (rdS G E (sFor mi g mb)) :=
  ps_w (ps_for hp hc hi hg hb hs) fun D σ H ⟨ρ, env, h, hs, hr, w⟩ => ⟨ρ, env, h, hs, hr, Wp.stm w fun J h1 ρ1 H1 JJ g1 r1 y w1 => by
    have s1 := hs.grow g1
    refine ⟨fun i m σ2 H2 => m = J.xs.length - i ∧ i ≤ J.xs.length ∧ ∃ ρ2 env2 h2, Grow ρ1 H1 ρ2 H2 ∧ SRel G ρ2 H2 σ2 env2 ∧ HRel G ρ2 H2 h2 ∧ WpS G E (forGo g mb J.ok (J.xs.drop i) env2 h2) ρ2 H2 D, ⟨_, rfl, Nat.zero_le _, ρ1, env, h1, Grow.refl _ _, s1, r1, w1⟩, ?_⟩
    rintro i m σ2 H2 ⟨rfl, hle, ρ2, env2, h2, g2, s2, r2, w2⟩
    by_cases hlt : i < J.xs.length
    · rw [List.drop_eq_getElem_cons hlt] at w2
      unfold forGo at w2
      split at w2 <;> first | exact False.elim w2 | skip
      rename_i ok
      refine .inr ⟨y.go ρ2 H2 h2 i g2 r2 ok hlt, fun σ' H' => ∃ m', m' < J.xs.length - i ∧ m' = J.xs.length - (i + 1) ∧ i + 1 ≤ J.xs.length ∧ ∃ ρ2 env2 h2, Grow ρ1 H1 ρ2 H' ∧ SRel G ρ2 H' σ' env2 ∧ HRel G ρ2 H' h2 ∧ WpS G E (forGo g mb J.ok (J.xs.drop (i + 1)) env2 h2) ρ2 H' D, fun σ' H' ⟨m', l, q⟩ => ⟨m', l, q⟩, fun x H3 yl => ?_⟩
      obtain ⟨ρ3, g3, r3, q3⟩ := y.yld ρ2 H2 h2 i x H3 g2 r2 ok yl J.xs[i] (by simp [hlt])
      refine ⟨ρ3, env2, h2, J.xs[i], s2.grow g3, r3, q3, Wp.stm (WpS.grow g3 w2) fun env4 h4 ρ4 H4 σ4 g4 r4 s4 w4 => ?_⟩
      refine ⟨ρ4, env4, h4, s4, r4, turn_ends (go := forGo g mb J.ok (J.xs.drop (i + 1))) w4 fun e5 h5 w5 ρ5 H5 σ5 g5 r5 s5 => ?_⟩
      exact ⟨J.xs.length - (i + 1), by omega, rfl, hlt, ρ5, e5, h5, ((g2.trans g3).trans g4).trans g5, s5, r5, WpS.grow g5 w5⟩
    · have e : i = J.xs.length := by omega
      subst e
      rw [List.drop_length] at w2
      unfold forGo at w2
      split at w2 <;> first | exact False.elim w2 | skip
      rename_i ok
      exact .inl ⟨y.stop ρ2 H2 h2 _ g2 r2 ok (Nat.le_refl _), w2 ρ2 H2 σ2 (Grow.refl _ _) r2 s2⟩⟩
theorem ms_while {body : List Stmt} {t : MT} {mb : MS} {n : Nat} (hp : PassesOwn (model X.prog X.w) X.A X.env X.xe) (hc : PT X c (rdT G E t)) (hb : PSs X body (rdS G E mb)) : PS X (.While c body [] pos) (rdS G E (sWhile n t mb)) :=
  ps_w (ps_while hp hc hb) fun D σ H ⟨ρ, env, h, hs, hr, w⟩ => by
    refine ⟨fun m σ2 H2 => ∃ ρ2 env2 h2, SRel G ρ2 H2 σ2 env2 ∧ HRel G ρ2 H2 h2 ∧ WpS G E (whileGo t mb m env2 h2) ρ2 H2 D, ⟨n, ρ, env, h, hs, hr, w⟩, ?_⟩
    rintro m σ2 H2 ⟨ρ2, env2, h2, s2, r2, w2⟩
    cases m with
    | zero => exact False.elim w2
    | succ m =>
      unfold whileGo at w2
      refine ⟨ρ2, env2, h2, s2, r2, Wp.stm w2 fun k h3 ρ3 H3 v g3 r3 q3 w3 => ?_⟩
      cases q3
      cases k with
      | false => exact w3 ρ3 H3 _ (Grow.refl _ _) r3 (s2.grow g3)
      | true =>
        refine ⟨fun σ' H' => ∃ ρ2 env2 h2, SRel G ρ2 H' σ' env2 ∧ HRel G ρ2 H' h2 ∧ WpS G E (whileGo t mb m env2 h2) ρ2 H' D, fun σ' H' q => ⟨m, Nat.lt_succ_self m, q⟩, ?_⟩
        refine ⟨ρ3, env2, h3, s2.grow g3, r3, turn_ends (go := whileGo t mb m) w3 fun e5 h5 w5 ρ5 H5 σ5 g5 r5 s5 => ⟨ρ5, e5, h5, s5, r5, WpS.grow g5 w5⟩⟩
/-! ### comprehensions -/
theorem Wp.seqQ {α β γ : Type} {rel : List Addr → Hp → β → α → Prop} {ρ : List Addr} {H : Hp} {r : R α} {f : α → Hm → R γ} {Q1 : β → Hp → Prop} (P : R γ → Prop) (hb : ¬ P .bad) (w : P (r.quiet.bind f))
    (k : ∀ a h' ρ' H' b, Grow ρ H ρ' H' → HRel G ρ' H' h' → rel ρ' H' b a → P (f a h') → Q1 b H') : Wp G E0 rel r ρ H Q1 := by
  cases r with
  | ok a h' => exact fun ρ' H' b g hr q => k a h' ρ' H' b g hr q w
  | exc c fs h' => exact (hb w).elim
  | bad => exact (hb w).elim
theorem wipe_set {σ : L2.St} {i : Nat} {x : Option V} : ∀ {vs : List Nat}, i ∈ vs → L2.wipe (σ.set i x) vs = L2.wipe σ vs
  | v :: vs, hi => by
    show (L2.wipe (σ.set i x) vs).set v none = (L2.wipe σ vs).set v none
    by_cases c : i ∈ vs
    · rw [wipe_set c]
    · have e : i = v := by
        rcases List.mem_cons.mp hi with e | e
        · exact e
        · exact absurd e c
      subst e
      have out : ∀ {ws : List Nat}, i ∉ ws → L2.wipe (σ.set i x) ws = (L2.wipe σ ws).set i x := by
        intro ws
        induction ws with
        | nil => intro _; rfl
        | cons w ws ih =>
          intro hn
          show (L2.wipe (σ.set i x) ws).set w none = ((L2.wipe σ ws).set w none).set i x
          rw [ih fun z => hn (List.mem_cons_of_mem _ z), List.set_comm _ _ (fun z => hn (by rw [z]; exact List.mem_cons_self))]
      rw [out c, List.set_set]
theorem wipe_wipe {σ : L2.St} : ∀ (vs : List Nat), L2.wipe (L2.wipe σ vs) vs = L2.wipe σ vs := by
  have out : ∀ {ws : List Nat} {τ : L2.St}, (∀ v ∈ ws, τ[v]? = some none ∨ τ[v]? = none) → L2.wipe τ ws = τ := by
    intro ws
    induction ws with
    | nil => intro τ _; rfl
    | cons w ws ih =>
      intro τ h
      show (L2.wipe τ ws).set w none = τ
      rw [ih fun v hv => h v (List.mem_cons_of_mem _ hv)]
      rcases h w List.mem_cons_self with e | e
      · apply List.ext_getElem?
        intro j
        by_cases c : w = j
        · subst c
          rw [List.getElem?_set, if_pos rfl, e, if_pos (List.getElem?_eq_some_iff.mp e).1]
        · rw [List.getElem?_set_ne c]
      · rw [List.set_eq_of_length_le (List.getElem?_eq_none_iff.mp e)]
  intro vs
  apply out
  intro v hv
  cases e : (L2.wipe σ vs)[v]? with
  | none => exact .inr rfl
  | some o =>
    cases o with
    | none => exact .inl rfl
    | some x => exact absurd hv (wipe_some e).2
/-- how a block's target binds -/
def BdOk (G : Gm) (bd : D → Env → Option Env) (g : TG) (vs : List Nat) : Prop := ∀ ρ H d v env env2 (σ : L2.St), VRel G ρ H v d → SRel G ρ H σ env → bd d env = some env2 →
  ∀ k : L2.St → Hp → Prop, (∀ σ2, SRel G ρ H σ2 env2 → L2.wipe σ2 vs = L2.wipe σ vs → k σ2 H) → g v σ H k
theorem bd_one {i : Nat} {vs : List Nat} (h : i ∈ vs) : BdOk G (bindC true [i]) (gName i) vs := fun ρ H d v env env2 σ q s e k hk => by
  cases (show some (env.set i (some d)) = some env2 from e)
  exact hk _ (s.set q i) (wipe_set h)
def gNames : List Nat → TGs
  | [] => gNil
  | i :: is => gCons (gName i) (gNames is)
theorem bd_names {vs : List Nat} : ∀ {is : List Nat}, (∀ i ∈ is, i ∈ vs) → ∀ ρ H ds ws env env2 (σ : L2.St), VRels G ρ H ws ds → SRel G ρ H σ env → setsN is ds env = some env2 →
    ∀ k : L2.St → Hp → Prop, (∀ σ2, SRel G ρ H σ2 env2 → L2.wipe σ2 vs = L2.wipe σ vs → k σ2 H) → gNames is ws σ H k
  | [], _, ρ, H, [], _, env, env2, σ, .nil, s, e, k, hk => by
    cases (show some env = some env2 from e)
    exact ⟨rfl, hk σ s rfl⟩
  | [], _, ρ, H, _ :: _, _, env, env2, σ, _, s, e, k, hk => nomatch e
  | i :: is, h, ρ, H, [], _, env, env2, σ, _, s, e, k, hk => nomatch e
  | i :: is, h, ρ, H, d :: ds, _, env, env2, σ, .cons q qs, s, e, k, hk => by
    refine ⟨_, _, rfl, ?_⟩
    exact bd_names (fun j hj => h j (List.mem_cons_of_mem _ hj)) ρ H ds _ _ env2 _ qs (s.set q i) e k fun σ2 s2 e2 => hk σ2 s2 (e2.trans (wipe_set (h i List.mem_cons_self)))
theorem bd_tup {is vs : List Nat} (h : ∀ i ∈ is, i ∈ vs) : BdOk G (bindC false is) (gTup G.K is.length (gNames is)) vs := fun ρ H d v env env2 σ q s e k hk => by
  cases q with
  | tup h1 h2 =>
    have e : setsN is _ env = some env2 := e
    refine ⟨_, _, rfl, h1, ?_, bd_names h ρ H _ _ env env2 σ h2 s e k hk⟩
    rw [h2.length]
    have len : ∀ {is : List Nat} {ds : List D} {env : Env}, setsN is ds env = some env2 → ds.length = is.length := by
      intro is
      induction is with
      | nil =>
        intro ds env e
        cases ds with
        | nil => rfl
        | cons _ _ => cases e
      | cons i is ih =>
        intro ds env e
        cases ds with
        | nil => cases e
        | cons d ds => exact congrArg (· + 1) (ih (show setsN is ds _ = some env2 from e))
    exact len e
  | _ => cases e
theorem HRel.aside {ρ : List Addr} {H : Hp} {h : Hm} (r : HRel G ρ H h) {p : Addr} {u u' : HO} (hn : p ∉ ρ) (hu : H p = some u) (hm : Mut (some u)) : HRel G ρ (upd H p u') h ∧ Ext ρ H ρ (upd H p u') := by
  have g : Ext ρ H ρ (upd H p u') := by
    refine ⟨⟨[], by simp⟩, fun b xs e => ?_, fun b o v e => ?_⟩
    · rw [upd_ne (ne_of e hu (by rintro rfl; exact hm))]; exact e
    · rw [upd_ne (ne_of e hu (by rintro rfl; exact hm))]; exact e
  refine ⟨⟨r.len, r.inj, fun a m => ?_, fun l v e => ?_⟩, g⟩
  · obtain ⟨w, e⟩ := r.has a m
    exact ⟨w, by rw [upd_ne (fun z => hn (by rw [← z]; exact m))]; exact e⟩
  · obtain ⟨a, e1, k⟩ := r.obj l v e
    exact ⟨a, e1, k.ext g (upd_ne fun z => hn (by rw [← z]; exact List.mem_of_getElem? e1))⟩
theorem SRel.ext {ρ ρ' : List Addr} {H H' : Hp} (g : Ext ρ H ρ' H') {σ : L2.St} {env : Env} (s : SRel G ρ H σ env) : SRel G ρ' H' σ env := ⟨s.1, fun i d e => let ⟨v, e1, q⟩ := s.2 i d e; ⟨v, e1, q.ext g⟩⟩
theorem rd_comp {mi : MI} {own : List Nat} {one : Bool} {is : List Nat} {t : MT} {g : TG} (hb : BdOk G (bindC one is) g own) (σ : L2.St) (H : Hp) (Q : VK) (w : rd G E (eComp mi own one is t ma) σ H Q) : tLc (rdI G E mi) g (rdT G E0 t) (rd G E0 ma) own σ H Q := by
  obtain ⟨ρ, env, h, hs, hr, w⟩ := w
  refine ⟨ρ, env, h, hs, hr, Wp.seq w fun J h1 ρ1 H1 JJ g1 r1 y w1 => ?_⟩
  intro L hL
  have s1 := hs.grow g1
  have nL := r1.fresh hL
  have gL := Grow.tmp (ρ := ρ1) hL (.lst [])
  refine ⟨fun i m H2 => m = J.xs.length - i ∧ i ≤ J.xs.length ∧ ∃ ρ2 h2 acc dacc, Grow ρ1 H1 ρ2 H2 ∧ HRel G ρ2 H2 h2 ∧ L ∉ ρ2 ∧ H2 L = some (.lst acc) ∧ VRels G ρ2 H2 acc dacc ∧
    Wp G E (VRel G) ((compGo (bindC one is) t ma J.ok (wipe env own) (J.xs.drop i) dacc h2).bind fun acc h2 => .ok (.loc h2.n) (h2.new (.lst acc))) ρ1 H1 Q, ⟨_, rfl, Nat.zero_le _, ρ1, h1, [], [], gL, r1.tmp hL _, nL, upd_same, .nil, w1⟩, ?_⟩
  rintro i m H2 ⟨rfl, hle, ρ2, h2, acc, dacc, g2, r2, n2, e2, q2, w2⟩
  by_cases hlt : i < J.xs.length
  · rw [List.drop_eq_getElem_cons hlt] at w2
    unfold compGo at w2
    split at w2 <;> first | exact False.elim w2 | skip
    rename_i env3 ok eb
    refine .inr ⟨y.go ρ2 H2 h2 i g2 r2 ok hlt, fun H' => ∃ m', m' < J.xs.length - i ∧ m' = J.xs.length - (i + 1) ∧ i + 1 ≤ J.xs.length ∧ ∃ ρ2 h2 acc dacc, Grow ρ1 H1 ρ2 H' ∧ HRel G ρ2 H' h2 ∧ L ∉ ρ2 ∧ H' L = some (.lst acc) ∧ VRels G ρ2 H' acc dacc ∧
      Wp G E (VRel G) ((compGo (bindC one is) t ma J.ok (wipe env own) (J.xs.drop (i + 1)) dacc h2).bind fun acc h2 => .ok (.loc h2.n) (h2.new (.lst acc))) ρ1 H1 Q, fun H' ⟨m', l, q⟩ => ⟨m', l, q⟩, fun x H3 yl => ?_⟩
    obtain ⟨ρ3, g3, r3, q3⟩ := y.yld ρ2 H2 h2 i x H3 g2 r2 ok yl J.xs[i] (by simp [hlt])
    refine hb ρ3 H3 J.xs[i] x _ env3 _ q3 (((s1.grow g2).grow g3).wipe own) eb _ fun σ4 s4 ew => ⟨by rw [ew, wipe_wipe], ρ3, env3, h2, s4, r3, ?_⟩
    obtain ⟨e3, n3⟩ := g3.out L _ e2 n2
    let P : R (List D) → Prop := fun r => Wp G E (VRel G) (r.bind fun acc h2 => .ok (.loc h2.n) (h2.new (.lst acc))) ρ1 H1 Q
    refine Wp.seqQ P (fun z => z) w2 fun k h4 ρ4 H4 b g4 r4 q4 w4 => ?_
    have q4 : b = k := q4
    subst q4
    obtain ⟨e4, n4⟩ := g4.out L _ e3 n3
    cases b with
    | false =>
      show ∃ m', m' < J.xs.length - i ∧ _
      exact ⟨J.xs.length - (i + 1), by omega, rfl, hlt, ρ4, h4, acc, dacc, (g2.trans g3).trans g4, r4, n4, e4, (q2.grow g3).grow g4, w4⟩
    | true =>
      show rd G E0 ma σ4 H4 _
      refine ⟨ρ4, env3, h4, s4.grow g4, r4, Wp.seqQ P (fun z => z) w4 fun d h5 ρ5 H5 v g5 r5 q5 w5 => ?_⟩
      obtain ⟨e5, n5⟩ := g5.out L _ e4 n4
      have w5 : P (ifR (decide (dacc.length < SL)) (compGo (bindC one is) t ma J.ok (wipe env own) (J.xs.drop (i + 1)) (dacc ++ [d]) h5)) := w5
      have q6 := ((q2.grow g3).grow g4).grow g5
      cases c : decide (dacc.length < SL) with
      | false =>
        rw [c] at w5
        exact False.elim w5
      | true =>
        rw [c] at w5
        obtain ⟨r6, x6⟩ := r5.aside (u' := .lst (acc ++ [v])) n5 e5 trivial
        refine ⟨acc, e5, by rw [q2.length]; exact sl_lt (of_decide_eq_true c), J.xs.length - (i + 1), by omega, rfl, hlt, ρ5, h5, acc ++ [v], dacc ++ [d], ?_, r6, n5, upd_same, (q6.append (.cons q5 .nil)).ext x6, w5⟩
        have g6 := ((g2.trans g3).trans g4).trans g5
        refine ⟨g6.pre, fun b xs e => ?_, fun b o u e => ?_, fun b o e n => ?_⟩
        · rw [upd_ne (ne_of_none e hL)]; exact g6.tup b xs e
        · rw [upd_ne (ne_of_none e hL)]; exact g6.frz b o u e
        · rw [upd_ne (ne_of_none e hL)]; exact g6.out b o e n
  · have e : i = J.xs.length := by omega
    subst e
    rw [List.drop_length] at w2
    unfold compGo at w2
    cases ok : J.ok h2 with
    | false => rw [ok] at w2; exact False.elim w2
    | true =>
      rw [ok] at w2
      refine .inl ⟨y.stop ρ2 H2 h2 _ g2 r2 ok (Nat.le_refl _), ?_⟩
      have e3 : upd H2 L (.lst acc) = H2 := by
        funext b
        by_cases c : b = L
        · rw [c, upd_same, e2]
        · rw [upd_ne c]
      have r3 := r2.adopt (u' := .lst acc) (o := .lst dacc) n2 e2 trivial ⟨acc, upd_same, q2.ext (Ext.late e2 trivial _)⟩
      rw [e3] at r3
      refine (show Wp G E (VRel G) (.ok (.loc h2.n) (h2.new (.lst dacc))) ρ1 H1 Q from w2) (ρ2 ++ [L]) H2 _ ⟨?_, g2.tup, g2.frz, fun b o e n => ?_⟩ r3 (.loc ?_)
      · obtain ⟨u, e⟩ := g2.pre
        exact ⟨u ++ [L], by rw [e, List.append_assoc]⟩
      · obtain ⟨e4, n4⟩ := g2.out b o e n
        refine ⟨e4, fun m => ?_⟩
        rcases List.mem_append.mp m with m | m
        · exact n4 m
        · exact ne_of_none e hL (List.mem_singleton.mp m)
      · rw [← r2.len]
        simp
variable {it elt : Expr} {ifs : List Expr} {scope : Scope} {own : List (Str × Nat)} {mi : MI} {t : MT} {one : Bool} {is : List Nat} {g : TG}
theorem mts_nil {Y : Cx} : PTs Y [] (rdT G E tYes) := ⟨fun pins s σ H Q I ⟨ρ, env, h, hs, hr, w⟩ => pts_nil.run pins s σ H Q I (Wp.val w hr rfl)⟩
theorem mts_one {Y : Cx} {e : Expr} (h : PT Y e (rdT G E t)) : PTs Y [e] (rdT G E t) := pts_one h
theorem me_comp (hc : X.calm = true) (hN : X.N.Nodup) (hi : PI X tg it (rdI G E mi)) (ok : BlkOk X.N X.env.scope scope own) (hbd : BdOk G (bindC one is) g (own.map (·.2)))
    (hg : ∀ (s : Shared) (H : Hp) (C : Addr) (cl : List (Str × Addr)) (fp : List Addr), PG (X.blk s H scope (compEnvC scope cl C X.env) fp) tg g) (ht : ∀ (s : Shared) (H : Hp) (C : Addr) (cl : List (Str × Addr)) (fp : List Addr), PTs (X.blk s H scope (compEnvC scope cl C X.env) fp) ifs (rdT G E0 t))
    (he : ∀ (s : Shared) (H : Hp) (C : Addr) (cl : List (Str × Addr)) (fp : List Addr), PE (X.blk s H scope (compEnvC scope cl C X.env) fp) elt (rd G E0 ma)) (hs : ∀ x, foldedSetIterable it X.env x = pure x := by intro _; rfl) :
    PE X (.ListComp elt [⟨tg, it, ifs, 0⟩] scope pos) (rd G E (eComp mi (own.map (·.2)) one is t ma)) := pe_w (pe_lc hc hN hi ok hg ht he hs) (rd_comp hbd)
theorem ms_setComp (i : Nat) {y : Str} {py spos : Pos} (hc : X.calm = true) (hN : X.N.Nodup) (hy : X.N[i]? = some y) (hyl : X.env.scope.names.lookup y = some .local) (hsw : swapsWith (.ListComp elt [⟨tg, it, ifs, 0⟩] scope pos) (some (.Name y py)) spos.line X.env = pure true)
    (hi : PI X tg it (rdI G E mi)) (ok : BlkOk X.N X.env.scope scope own) (hbd : BdOk G (bindC one is) g (own.map (·.2)))
    (hg : ∀ (s : Shared) (H : Hp) (C : Addr) (cl : List (Str × Addr)) (fp : List Addr), PG (X.blk s H scope (compEnvC scope cl C X.env) fp) tg g) (ht : ∀ (s : Shared) (H : Hp) (C : Addr) (cl : List (Str × Addr)) (fp : List Addr), PTs (X.blk s H scope (compEnvC scope cl C X.env) fp) ifs (rdT G E0 t))
    (he : ∀ (s : Shared) (H : Hp) (C : Addr) (cl : List (Str × Addr)) (fp : List Addr), PE (X.blk s H scope (compEnvC scope cl C X.env) fp) elt (rd G E0 ma)) (hs : ∀ x, foldedSetIterable it X.env x = pure x := by intro _; rfl) :
    PS X (.Assign [.Name y py] (.ListComp elt [⟨tg, it, ifs, 0⟩] scope pos) spos) (rdS G E (sAsg (eComp mi (own.map (·.2)) one is t ma) (gN i))) :=
  ps_w (ps_setLc hc hN hy hyl hsw hi ok hg ht he hs) fun D σ H w => by
    have w2 : tAsg (rd G E (eComp mi (own.map (·.2)) one is t ma)) (gName i) D σ H := by
      obtain ⟨ρ, env, h, hs, hr, w⟩ := w
      exact ⟨ρ, env, h, hs, hr, Wp.stm w fun x h1 ρ1 H1 v g1 r1 q1 w1 => (show WpS G E (.nx (env.set i (some x)) h1) ρ1 H1 D from w1) ρ1 H1 _ (Grow.refl _ _) r1 ((hs.grow g1).set q1 i)⟩
    exact rd_comp hbd σ H _ w2
end
end Mo
end
section
/-! Rules: defs and their calls. The promise is that of M; it is kept where no text is being shown around. -/
namespace Mo
open PySem L2 PyProof.Rows
def spOf (G : Gm) (n : Nat) (F : Fn) : Sp := fun vs H Q E => ∃ ρ ds h, HRel G ρ H h ∧ VRels G ρ H vs ds ∧ vs.length = n ∧ Wp G E (VRel G) (F ds h) ρ H Q
/-- room, and no text is being shown -/
structure RG (k : Nat) (A : Around) : Prop where
  r : Room k A
  g : A.guards = some []
theorem RG.mono {j k : Nat} {A : Around} (r : RG k A) (h : j ≤ k := by decide) : RG j A := ⟨r.r.mono h, r.g⟩
structure FnG (P : Program) (w : World) (K : PySem.W.Frag) (mg : Str → Option Value) (base : Heap) (k : Nat) (f : Addr) (fd : FuncData) (ps : List Str) (sp : Sp) : Prop where
  len : ∀ vs H Q E, sp vs H Q E → vs.length = ps.length
  go : ∀ (A : Around) (rg : RG k A) (outer : List PySem.Env) (s : Shared) (H : Hp) (args : Args) (us : List Value) (vs : List V) (Q : VK) (E : XK), Env0 P w K mg base A outer s H → BindsTo s fd args (ps.zip us) → Vals vs us → sp vs H Q E → codeAny (model P w) A (.call (.ref f) args) (CR (L2.CX P w) outer P w H s Q E) s
section
variable {P : Program} {w : World} {K : PySem.W.Frag} {mg : Str → Option Value} {base : Heap}
theorem start_rel {G : Gm} {ρ : List Addr} {H : Hp} {N : List Str} {vs : List V} {ds : List D} (q : VRels G ρ H vs ds) : SRel G ρ H (L2.start N vs) (ds.map some ++ List.replicate (N.length - ds.length) none) := by
  unfold L2.start
  refine ⟨by simp [q.length], fun i d e => ?_⟩
  by_cases hi : i < ds.length
  · rw [List.getElem?_append_left (by simpa using hi), List.getElem?_map] at e
    obtain ⟨d', e1, e2⟩ := Option.map_eq_some_iff.mp e
    cases e2
    obtain ⟨v, e3, k⟩ := q.get e1
    exact ⟨v, by rw [List.getElem?_append_left (by simpa [q.length] using hi), List.getElem?_map, e3]; rfl, k⟩
  · rw [List.getElem?_append_right (by simpa using hi), List.getElem?_replicate] at e
    split at e <;> cases e
/-- a def, by its body -/
theorem fg_of {G : Gm} {x qual : Str} {params : Arguments} {body : List Stmt} {scope : Scope} {dvs : List V} {kws : List (Str × V)} {f : Addr} {fd : FuncData} {N ps : List Str} {k : Nat} {m : MS} (F : FunD K x qual params body scope dvs kws f fd) (S : FnScope N ps scope)
    (hb : ∀ (cdv : Value) (A : Around) (outer : List PySem.Env) (s : Shared) (H : Hp) (E : XK), RG k (A.deeper (envOfC qual scope s.heap.objs.size f cdv)) → PSs (cxOf (L2.CX P w) P w K mg base N qual scope f cdv A outer s H E) body (rdS G E m)) :
    FnG P w K mg base (k + 1) f fd ps (spOf G ps.length (fnOf N.length m)) := by
  obtain ⟨oc, od, dV, kV, doc, pm, an, cdv, ct, osl, rfl, lk, hcd, _, _⟩ := F.ex
  refine ⟨fun vs H Q E ⟨_, _, _, _, _, h, _⟩ => h, fun A rg outer s H args us vs Q E e0 bnd rv ⟨ρ, ds, h, hr, hv, hn, wq⟩ => ?_⟩
  have inK : K.In s.heap := e0.mod.kin.keeps fun c u z => (e0.bs c u z).1
  have lim : s.heap.NoLimit := e0.mod.nolimit.keeps fun c u z => (e0.bs c u z).1
  have kinds : ∀ y ∈ ps.zip us, scope.names.lookup y.1 = some .local ∨ (scope.names.lookup y.1 = some .cell ∧ ((cellsFrom (s.heap.objs.size + 1) scope.names []).lookup y.1).isSome = true) := by
    rintro ⟨n, v⟩ hy
    rcases S.par n (List.of_mem_zip hy).1 with z | z
    · exact Or.inl z
    · exact Or.inr ⟨z, PySem.W.cellsFrom_some _ _ _ (Or.inl z)⟩
  refine codeAny_call_function rg.r.depth (inK _ _ lk) rfl S.co S.gen rfl (PySem.W.codeRec_of inK hcd) (bnd _ _ _ _ (wpAny_newFunctionEnv_cells S.kind kinds fun env he s1 x => ?_))
  subst he
  refine ⟨lim.keeps x.toInCall.keep, codeAny_func ?_⟩
  have J0 := inv_start (CX := L2.CX P w) (P := P) (w := w) (E := E) S rg.r.hd e0 hn rv x
  have rg1 : ∀ j, RG (j + 1) A → RG j (A.deeper (envOfC qual scope s.heap.objs.size f cdv)) := fun j z => ⟨z.r.deeper _, z.g⟩
  have body := (hb cdv A outer s H E (rg1 k rg)).run [] s1 (L2.start N vs) H { nx := fun _ H' => Q .non H', rt := Q } J0 ⟨ρ, _, h, start_rel hv, hr, by
    have wq : Wp G E (VRel G) (match m (ds.map some ++ List.replicate (N.length - ds.length) none) h with | .nx _ h1 => .ok .non h1 | .rt d h1 => .ok d h1 | .exc c fs h1 => .exc c fs h1 | _ => .bad) ρ H Q := wq
    cases e : m (ds.map some ++ List.replicate (N.length - ds.length) none) h with
    | nx env h1 => rw [e] at wq; exact fun ρ1 H1 σ1 g1 r1 q1 => wq ρ1 H1 .non g1 r1 .non
    | rt d h1 => rw [e] at wq; exact wq
    | exc c fs h1 => rw [e] at wq; exact wq
    | bk env h1 => rw [e] at wq; exact False.elim wq
    | ct env h1 => rw [e] at wq; exact False.elim wq
    | bad => rw [e] at wq; exact False.elim wq⟩
  refine wpAny_mono body (fun fl s' hs => ?_) fun _ _ z => z
  cases fl with
  | ret u =>
    obtain ⟨v, σ', H', J, r, q⟩ := hs
    exact ⟨v, H', J.os, J.bare, J.base, J.hok, r, q⟩
  | next =>
    obtain ⟨σ', H', J, q⟩ := hs
    exact ⟨.non, H', J.os, J.bare, J.base, J.hok, rfl, q⟩
  | brk => exact (let ⟨_, _, _, q⟩ := hs; q : False).elim
  | cont => exact (let ⟨_, _, _, q⟩ := hs; q : False).elim
end
/-! ### calls -/
/-- the value fv called: F of the things by place and by name -/
def CallsF (X : Cx) (G : Gm) (E : XK) (fv : Value) (kn : List Str) (F : List D → List D → Hm → R D) : Prop := ∀ (pins : List (Addr × Obj)) (s : Shared) (σ : L2.St) (H : Hp) (us ws : List Value) (vs zs : List V) (ρ : List Addr) (h : Hm) (ds es : List D) (Q : VK),
  Inv X pins σ H s → Vals vs us → Vals zs ws → HRel G ρ H h → VRels G ρ H vs ds → VRels G ρ H zs es → Wp G E (VRel G) (F ds es h) ρ H Q → wpAny (model X.prog X.w) X.A (call fv us (kn.zip ws)) (EP X pins σ Q) X.xe s
def PermR (G : Gm) (n m : Nat) (gV : List V → List V → List V) (p : List D → List D → List D) : Prop := ∀ ρ H vs ds zs es, VRels G ρ H vs ds → VRels G ρ H zs es → ds.length = n → es.length = m → VRels G ρ H (gV vs zs) (p ds es) ∧ (gV vs zs).length = (p ds es).length
section
variable {G : Gm} {E : XK} {X : Cx} {k n : Nat} {f : Addr} {fd : FuncData} {ps kn : List Str} {F : Fn} {g : List Value → List Value → List Value} {gV : List V → List V → List V} {p : List D → List D → List D}
theorem back_to {pins : List (Addr × Obj)} {σ : L2.St} {H : Hp} {s : Shared} {Q : VK} (hx : Passes (L2.CX X.prog X.w) X E) (I : Inv X pins σ H s) {r : Result} {s' : Shared} (h : CR (L2.CX X.prog X.w) X.stack X.prog X.w H s Q E r s') :
    (match r with | .ok (.ret u) => EP X pins σ Q u s' | .ok _ => False | .error e => X.xe e s') := by
  cases r with
  | error e => exact hx pins σ H s e s' I h
  | ok fl =>
    cases fl with
    | ret u => exact I.after h
    | _ => exact (h : False)
theorem calls_of (FG : FnG X.prog X.w X.K X.mg X.base k f fd ps (spOf G ps.length F)) (rg : RG k X.A) (hb : KBn X.K fd ps n kn g gV) (hx : Passes (L2.CX X.prog X.w) X E) (hp : PermR G n kn.length gV p) (hl : ∀ ds es, ds.length = n → es.length = kn.length → (p ds es).length = ps.length) : CallsF X G E (.ref f) kn (callP n kn.length p F) := by
  intro pins s σ H us ws vs zs ρ h ds es Q I rv rz hr qv qz w
  obtain ⟨c, w⟩ := Wp.ifR w
  obtain ⟨c1, c2⟩ := Bool.and_eq_true_iff.mp c
  have c1 := of_decide_eq_true c1
  have c2 := of_decide_eq_true c2
  obtain ⟨k1, k2⟩ := hp ρ H vs ds zs es qv qz c1 c2
  have r2 := hb.rel rv rz
  have l1 : us.length = n := by rw [← rv.length, qv.length, c1]
  have l2 : ws.length = kn.length := by rw [← rz.length, qz.length, c2]
  refine wpAny_call (codeAny_mono (FG.go X.A rg X.stack s H ⟨us, kn.zip ws⟩ (g us ws) (gV vs zs) Q E I.env0 (hb.to s us ws I.kIn l1 l2) r2 ⟨ρ, p ds es, h, hr, k1, by rw [k2, hl ds es c1 c2], w⟩) fun r s' hq => ?_)
  have z := back_to hx I hq
  cases r with
  | error e => exact z
  | ok fl =>
    cases fl with
    | ret u => exact z
    | _ => exact (z : False).elim
theorem rg_make {A : Around} (rg : RG (k + 1) A) (C : Addr) (us : List Value) (kw : List (Str × Value)) : RG k (A.under (.builtin "type.__call__" ⟨.ref C :: us, kw⟩)) := by
  refine ⟨rg.r.make C us kw, ?_⟩
  have e := rg.g
  show pushGuards (Code.guards (.builtin "type.__call__" ⟨.ref C :: us, kw⟩)) A.guards = some []
  rw [e]
  rfl
/-- a class called: its new instance, then F, its __init__ -/
theorem makes_of {c : Nat} (M : Mk X.K (G.cA c) f) (FG : FnG X.prog X.w X.K X.mg X.base k f fd ps (spOf G ps.length F)) (rg : RG (k + 1) X.A) (hb : KBn X.K fd ps (n + 1) kn g gV) (hx : Passes (L2.CX X.prog X.w) X E) (hp : PermR G (n + 1) kn.length gV p)
    (hl : ∀ ds es, ds.length = n + 1 → es.length = kn.length → (p ds es).length = ps.length) : CallsF X G E (.ref (G.cA c)) kn (mkNew c (callP (n + 1) kn.length p F)) := by
  intro pins s σ H us ws vs zs ρ h ds es Q I rv rz hr qv qz w
  have w : Wp G E (VRel G) ((callP (n + 1) kn.length p F (.loc h.n :: ds) es (h.new (.ins c []))).bind fun v h1 => match v with | .non => .ok (.loc h.n) h1 | _ => .bad) ρ H Q := w
  have hd := I.hok.fresh (Nat.le_refl s.heap.objs.size)
  have hx0 := I.hok.fresh (Nat.le_succ s.heap.objs.size)
  have I2 := Inv.made (C := G.cA c) I
  have ne : s.heap.objs.size + 1 ≠ s.heap.objs.size := Nat.succ_ne_self _
  -- the new instance among what M knows
  have g1 := Grow.tmp (ρ := ρ) hd (.own (s.heap.objs.size + 1))
  have r1 := hr.tmp hd (.own (s.heap.objs.size + 1))
  have hx1 : upd H s.heap.objs.size (.own (s.heap.objs.size + 1)) (s.heap.objs.size + 1) = none := by rw [upd_ne ne]; exact hx0
  have g2 := Grow.new r1 hx1 (.ins (G.cA c) s.heap.objs.size [])
  have r2 : HRel G (ρ ++ [s.heap.objs.size + 1]) _ (h.new (.ins c [])) := r1.new hx1 (ho := .ins (G.cA c) s.heap.objs.size []) ⟨s.heap.objs.size, [], upd_same, .nil⟩
  have gg := g1.trans g2
  have at' : (ρ ++ [s.heap.objs.size + 1])[h.n]? = some (s.heap.objs.size + 1) := by
    rw [← hr.len]
    simp
  cases e : callP (n + 1) kn.length p F (.loc h.n :: ds) es (h.new (.ins c [])) with
  | bad => rw [e] at w; exact False.elim w
  | _ =>
    have e' : ∃ b : Unit, (decide ((D.loc h.n :: ds).length = n + 1) && decide (es.length = kn.length)) = true := by
      cases q : (decide ((D.loc h.n :: ds).length = n + 1) && decide (es.length = kn.length)) with
      | true => exact ⟨(), rfl⟩
      | false =>
        unfold callP at e
        rw [q] at e
        cases e
    obtain ⟨_, e'⟩ := e'
    obtain ⟨c1, c2⟩ := Bool.and_eq_true_iff.mp e'
    have c1 := of_decide_eq_true c1
    have c2 := of_decide_eq_true c2
    have e2 : F (p (.loc h.n :: ds) es) (h.new (.ins c [])) = callP (n + 1) kn.length p F (.loc h.n :: ds) es (h.new (.ins c [])) := by
      show _ = ifR _ _
      rw [e']
      rfl
    have qv2 : VRels G (ρ ++ [s.heap.objs.size + 1]) _ (V.ref (s.heap.objs.size + 1) :: vs) (.loc h.n :: ds) := .cons (.loc at') (qv.grow gg)
    obtain ⟨k1, k2⟩ := hp _ _ _ _ zs es qv2 (qz.grow gg) c1 c2
    have rv2 : Vals (V.ref (s.heap.objs.size + 1) :: vs) (Value.ref (s.heap.objs.size + 1) :: us) := .cons rfl rv
    have r3 := hb.rel rv2 rz
    have l1 : (Value.ref (s.heap.objs.size + 1) :: us).length = n + 1 := by rw [← rv2.length, qv2.length, c1]
    have l2 : ws.length = kn.length := by rw [← rz.length, qz.length, c2]
    have goal := FG.go _ (rg_make rg (G.cA c) us (kn.zip ws)) X.stack _ _ ⟨Value.ref (s.heap.objs.size + 1) :: us, kn.zip ws⟩ (g (Value.ref (s.heap.objs.size + 1) :: us) ws) _ (fun v H2 => v = .non ∧ Q (.ref (s.heap.objs.size + 1)) H2) E
      (I2.env0.make (G.cA c) us (kn.zip ws)) (hb.to _ (Value.ref (s.heap.objs.size + 1) :: us) ws I2.kIn l1 l2) r3 ⟨_, p (.loc h.n :: ds) es, _, r2, k1, by rw [k2, hl _ es c1 c2], by
        rw [e2]
        have w2 := Wp.grow gg w
        rw [e] at w2 ⊢
        first
          | exact w2
          | (intro ρ3 H3 v g3 r4 q3
             have w3 := Wp.grow g3 w2
             cases q3 with
             | non => exact ⟨rfl, Wp.val w3 r4 (.loc (g3.at at'))⟩
             | _ => exact False.elim w3)⟩
    refine wpAny_call (make_map (f := f) I.kIn M.makes M.init (beq_iff_eq.mp M.fn) (codeAny_mono goal fun r s' hq => ?_))
    have z := back_to hx I2 hq
    cases r with
    | error e => exact z
    | ok fl =>
      cases fl with
      | ret u =>
        obtain ⟨v, H', I3, rv', ev, q3⟩ := z
        subst ev
        exact ⟨rv', ⟨V.ref (s.heap.objs.size + 1), H', I3, rfl, q3⟩⟩
      | _ => exact (z : False).elim
end
section
variable {G : Gm} {E : XK} {X : Cx} {a b o : Expr} {pos q apos : Pos} {x : Str} {es : List Expr} {as ks : MA} {ma : ME} {F : List D → List D → Hm → R D} {fv : Addr} {kn : List Str} {kws : List Keyword}
theorem pk_w {kws : List Keyword} {t t' : TA} (h : PK X kws t) (w : ∀ σ H Q, t' σ H Q → t σ H Q) : PK X kws t' := ⟨fun pos pins s σ H Q I q => h.run pos pins s σ H Q I (w σ H Q q)⟩
theorem mk_nil : PK X [] (rdA G E aNil) := pk_w pk_nil rd_aNil
theorem mk_cons {nm : Option Str} {kpos : Pos} (ha : PE X a (rd G E ma)) (hr : PK X kws (rdA G E ks)) : PK X (⟨nm, a, kpos⟩ :: kws) (rdA G E (aCons ma ks)) := pk_w (pk_cons ha hr) rd_aCons
/-- the arguments' reading, and what stands behind it -/
def AFt (G : Gm) (E : XK) (f : List D → Hm → R D) (Q : VK) : List V → Hp → Prop := fun vs H => ∃ ρ h ds, HRel G ρ H h ∧ VRels G ρ H vs ds ∧ Wp G E (VRel G) (f ds h) ρ H Q
theorem aft {m : MA} {f : List D → Hm → R D} {ρ : List Addr} {σ : L2.St} {H : Hp} {env : Env} {h : Hm} {Q : VK} (hs : SRel G ρ H σ env) (hr : HRel G ρ H h) (w : Wp G E (VRel G) ((m env h).bind f) ρ H Q) : rdA G E m σ H (AFt G E f Q) :=
  ⟨ρ, env, h, hs, hr, Wp.seq w fun ds h1 ρ1 H1 vs g1 r1 q1 w1 => ⟨ρ1, h1, ds, r1, q1, w1⟩⟩
/-- .. of two rows of things -/
def AFt2 (G : Gm) (E : XK) (σ : L2.St) (env : Env) (m2 : MA) (f : List D → List D → Hm → R D) (Q : VK) : List V → Hp → Prop := fun vs H => ∃ ρ h ds, SRel G ρ H σ env ∧ HRel G ρ H h ∧ VRels G ρ H vs ds ∧ Wp G E (VRel G) ((m2 env h).bind fun es h2 => f ds es h2) ρ H Q
theorem aft2 {m m2 : MA} {f : List D → List D → Hm → R D} {ρ : List Addr} {σ : L2.St} {H : Hp} {env : Env} {h : Hm} {Q : VK} (hs : SRel G ρ H σ env) (hr : HRel G ρ H h) (w : Wp G E (VRel G) ((m env h).bind fun ds h1 => (m2 env h1).bind fun es h2 => f ds es h2) ρ H Q) :
    rdA G E m σ H (AFt2 G E σ env m2 f Q) := ⟨ρ, env, h, hs, hr, Wp.seq w fun ds h1 ρ1 H1 vs g1 r1 q1 w1 => ⟨ρ1, h1, ds, hs.grow g1, r1, q1, w1⟩⟩
theorem aft2k {m2 : MA} {f : List D → List D → Hm → R D} {ρ : List Addr} {σ : L2.St} {H : Hp} {env : Env} {h : Hm} {ds : List D} {vs : List V} {Q : VK} (hs : SRel G ρ H σ env) (hr : HRel G ρ H h) (q : VRels G ρ H vs ds) (w : Wp G E (VRel G) ((m2 env h).bind fun es h2 => f ds es h2) ρ H Q) :
    rdA G E m2 σ H (fun zs H1 => ∃ ρ h es, HRel G ρ H1 h ∧ VRels G ρ H1 vs ds ∧ VRels G ρ H1 zs es ∧ Wp G E (VRel G) (f ds es h) ρ H1 Q) := ⟨ρ, env, h, hs, hr, Wp.seq w fun es h1 ρ1 H1 zs g1 r1 q1 w1 => ⟨ρ1, h1, es, r1, q.grow g1, q1, w1⟩⟩
/-- f(a, ..) -/
theorem me_call (hc : CallsF X G E (.ref fv) [] F) (hg : Gl X x) (hm : X.mg x = some (.ref fv)) (hk : PySem.W.keepIn X.K (.ref fv) = true) (ha : PA X (a :: es) (rdA G E as)) (hdb : (x == ("__debug__" : Str)) = false := by decide)
    (he : starEach (a :: es) X.env = (false, eval a X.env) :: starEach es X.env := by rfl) (hpl : (backTo pos (starEach es X.env)).any (·.1) = false := by rfl) : PE X (.Call (.Name x q) (a :: es) [] pos) (rd G E (eCall F as aNil)) :=
  ⟨fun pins s σ H Q I ⟨ρ, env, h, hs, hr, w⟩ => by
    have A1 := ha.run pos pins s σ H _ I (aft (f := fun ds h1 => F ds [] h1) hs hr w)
    refine wpAny_Call_Name_kw (ld_glob I hg hm (PySem.W.callWith_K (h₀ := X.base) I.ok.mod.kin hk (thn A1 fun us s1 ⟨vs, H1, I1, rv, ρ1, h1, ds, r1, q1, w1⟩ => ⟨I1.kIn, ?_⟩) he hpl) hdb)
    exact hc pins s1 σ H1 us [] vs [] ρ1 h1 ds [] Q I1 rv .nil r1 q1 .nil w1⟩
/-- f() -/
theorem me_call0 (hc : CallsF X G E (.ref fv) [] F) (hg : Gl X x) (hm : X.mg x = some (.ref fv)) (hk : PySem.W.keepIn X.K (.ref fv) = true) (hdb : (x == ("__debug__" : Str)) = false := by decide) : PE X (.Call (.Name x q) [] [] pos) (rd G E (eCall F aNil aNil)) :=
  ⟨fun pins s σ H Q I ⟨ρ, env, h, hs, hr, w⟩ => wpAny_Call_Name_kw (ld_glob I hg hm (PySem.W.callWith_K0 I.kIn hk (hc pins s σ H [] [] [] [] ρ h [] [] Q I .nil .nil hr .nil .nil w)) hdb)⟩
/-- f(a, .., k = b, ..) -/
theorem me_callK (hc : CallsF X G E (.ref fv) kn F) (hg : Gl X x) (hm : X.mg x = some (.ref fv)) (hk : PySem.W.keepIn X.K (.ref fv) = true) (ha : PA X (a :: es) (rdA G E as)) (hkw : PK X kws (rdA G E ks)) (hall : (backToKw pos (keywordEach kws X.env)).all (·.1.isSome) = true := by rfl)
    (hks : (backToKw pos (keywordEach kws X.env)).filterMap (·.1) = kn := by rfl) (hdb : (x == ("__debug__" : Str)) = false := by decide) (he : starEach (a :: es) X.env = (false, eval a X.env) :: starEach es X.env := by rfl)
    (hpl : ((backTo pos (starEach (a :: es) X.env)).any (·.1) || (backToKw pos (keywordEach kws X.env)).any (·.1.isNone)) = false := by rfl) : PE X (.Call (.Name x q) (a :: es) kws pos) (rd G E (eCall F as ks)) :=
  ⟨fun pins s σ H Q I ⟨ρ, env, h, hs, hr, w⟩ => by
    have A1 := ha.run pos pins s σ H _ I (aft2 hs hr w)
    refine wpAny_Call_Name_kw (ld_glob I hg hm (PySem.W.callWith_KW (h₀ := X.base) I.ok.mod.kin hk hall (thn A1 fun us s1 ⟨vs, H1, I1, rv, ρ1, h1, ds, s1', r1, q1, w1⟩ => ?_) hpl he) hdb)
    have A2 := hkw.run pos pins s1 σ H1 _ I1 (aft2k s1' r1 q1 w1)
    refine thn A2 fun ws s2 ⟨zs, H2, I2, rz, ρ2, h2, es', r2, q2, q3, w2⟩ => ⟨I2.kIn, ?_⟩
    rw [hks]
    exact hc pins s2 σ H2 us ws vs zs ρ2 h2 ds es' Q I2 rv rz r2 q2 q3 w2⟩
/-- f(k = b, ..) -/
theorem me_callK0 (hc : CallsF X G E (.ref fv) kn F) (hg : Gl X x) (hm : X.mg x = some (.ref fv)) (hk : PySem.W.keepIn X.K (.ref fv) = true) (hkw : PK X kws (rdA G E ks)) (hall : (backToKw pos (keywordEach kws X.env)).all (·.1.isSome) = true := by rfl)
    (hks : (backToKw pos (keywordEach kws X.env)).filterMap (·.1) = kn := by rfl) (hdb : (x == ("__debug__" : Str)) = false := by decide)
    (hpl : ((backTo pos (starEach [] X.env)).any (·.1) || (backToKw pos (keywordEach kws X.env)).any (·.1.isNone)) = false := by rfl) : PE X (.Call (.Name x q) [] kws pos) (rd G E (eCall F aNil ks)) :=
  ⟨fun pins s σ H Q I ⟨ρ, env, h, hs, hr, w⟩ => by
    refine wpAny_Call_Name_kw (ld_glob I hg hm (PySem.W.callWith_KW0 (h₀ := X.base) I.ok.mod.kin hk hall ?_ hpl) hdb)
    have A2 := hkw.run pos pins s σ H _ I (aft2k (f := F) (ds := []) (vs := []) hs hr .nil w)
    refine thn A2 fun ws s2 ⟨zs, H2, I2, rz, ρ2, h2, es', r2, q2, q3, w2⟩ => ⟨I2.kIn, ?_⟩
    rw [hks]
    exact hc pins s2 σ H2 [] ws [] zs ρ2 h2 [] es' Q I2 .nil rz r2 q2 q3 w2⟩
/-- what stands for each class that may be met -/
def MethsF (X : Cx) (G : Gm) (E : XK) (m : Str) (kn : List Str) (ms : List (Nat × (List D → List D → Hm → R D))) : Prop := ∀ c F, pickF c ms = some F → ∃ f, Cls X.K (G.cA c) ∧ Meth X.K (G.cA c) m f ∧ CallsF X G E (.ref f) kn F
theorem meths_nil {m : Str} : MethsF X G E m kn [] := fun c F e => nomatch e
theorem meths_cons {m : Str} {c : Nat} {f : Addr} {ms : List (Nat × (List D → List D → Hm → R D))} (h1 : Cls X.K (G.cA c)) (h2 : Meth X.K (G.cA c) m f) (h3 : CallsF X G E (.ref f) kn F) (hr : MethsF X G E m kn ms) : MethsF X G E m kn ((c, F) :: ms) := fun d F' e => by
  have e : (if c = d then some F else pickF d ms) = some F' := e
  by_cases k : c = d
  · rw [if_pos k] at e
    cases e
    subst k
    exact ⟨f, h1, h2, h3⟩
  · rw [if_neg k] at e
    exact hr d F' e
variable {m m' : Str} {ms : List (Nat × (List D → List D → Hm → R D))}
/-- the receiver -/
theorem meth_at (hM : MethsF X G E m kn ms) {ρ : List Addr} {H : Hp} {h : Hm} {x : D} {v : V} (r : HRel G ρ H h) (q : VRel G ρ H v x) (e : selM m ms h x = some F) :
    ∃ a dx c fvs f, v = .ref a ∧ H a = some (.ins (G.cA c) dx fvs) ∧ fvs.lookup m = none ∧ Cls X.K (G.cA c) ∧ Meth X.K (G.cA c) m f ∧ CallsF X G E (.ref f) kn F := by
  cases q with
  | @loc a l hl =>
    simp only [selM] at e
    split at e <;> first | cases e | skip
    rename_i c fs e1
    split at e <;> first | cases e | skip
    rename_i e4 e3
    obtain ⟨dx, fvs, e5, n⟩ := r.at e1 hl
    obtain ⟨f, k1, k2, k3⟩ := hM c F e3
    exact ⟨a, dx, c, fvs, f, rfl, e5, (fld_rel n).2 e4, k1, k2, k3⟩
  | _ => cases e
/-- o.m(a, ..) -/
theorem me_meth {pl : Sem Bool} (hf : m' = m) (hM : MethsF X G E m [] ms) (ho : PE X o (rd G E ma)) (ha : PA X (a :: es) (rdA G E as)) (hst : starEach (a :: es) X.env = (false, eval a X.env) :: starEach es X.env := by rfl) (hpl : (backTo pos (starEach es X.env)).any (·.1) = false := by rfl)
    (ht : eval (.Call (.Attribute o m' apos) (a :: es) [] pos) X.env = (do
      let ov ← eval o X.env
      standAt apos.atName
      let (f, first) ← holding [ov] (getMethod ov m' pl)
      callWith pos f first (backTo pos (starEach (a :: es) X.env)) (backToKw pos (keywordEach [] X.env))) := by rfl) : PE X (.Call (.Attribute o m' apos) (a :: es) [] pos) (rd G E (eMeth ma m ms as aNil)) := by
  subst hf
  refine ⟨fun pins s σ H Q I ⟨ρ, env, h, hs, hr, w⟩ => ?_⟩
  have A0 := ho.run pins s σ H (fun v H1 => ∃ ρ1 h1 x, SRel G ρ1 H1 σ env ∧ HRel G ρ1 H1 h1 ∧ VRel G ρ1 H1 v x ∧ Wp G E (VRel G) (match selM m' ms h1 x with | some f => (as env h1).bind fun ds h2 => (aNil env h2).bind fun es h3 => f (x :: ds) es h3 | none => .bad) ρ1 H1 Q) I
    ⟨ρ, env, h, hs, hr, Wp.seq w fun x h1 ρ1 H1 v g1 r1 q1 w1 => ⟨ρ1, h1, x, hs.grow g1, r1, q1, w1⟩⟩
  refine PySem.W.methodCall_KW (pl := pl) (thn A0 fun u s1 ⟨v, H1, I1, rx, ρ1, h1, x, s1', r1, q1, w1⟩ => ?_) ht
  split at w1 <;> first | exact False.elim w1 | skip
  rename_i F' e3
  obtain ⟨a', dx, c, fvs, f, rfl, e2, e4, k1, k2, k3⟩ := meth_at hM r1 q1 e3
  obtain rfl : u = Value.ref a' := rx
  refine getmeth_ok I1 e2 k1 k2 e4 ?_
  have A1 := ha.run pos pins s1 σ H1 (fun vs H2 => ∃ ρ2 h2 ds, HRel G ρ2 H2 h2 ∧ VRels G ρ2 H2 (.ref a' :: vs) (x :: ds) ∧ Wp G E (VRel G) (F' (x :: ds) [] h2) ρ2 H2 Q) I1
    ⟨ρ1, env, h1, s1', r1, Wp.seq w1 fun ds h2 ρ2 H2 vs g2 r2 q2 w3 => ⟨ρ2, h2, ds, r2, .cons (q1.grow g2) q2, w3⟩⟩
  refine PySem.W.callWith_K (first := [.ref a']) (h₀ := X.base) I.ok.mod.kin k2.kp (thn A1 fun us s2 ⟨vs, H2, I2, rv, ρ2, h2, ds, r2, q2, w3⟩ => ⟨I2.kIn, ?_⟩) hst hpl
  exact k3 pins s2 σ H2 (.ref a' :: us) [] (.ref a' :: vs) [] ρ2 h2 _ [] Q I2 (.cons rfl rv) .nil r2 q2 .nil w3
/-- o.m() -/
theorem me_meth0 {pl : Sem Bool} (hf : m' = m) (hM : MethsF X G E m [] ms) (ho : PE X o (rd G E ma))
    (ht : eval (.Call (.Attribute o m' apos) [] [] pos) X.env = (do
      let ov ← eval o X.env
      standAt apos.atName
      let (f, first) ← holding [ov] (getMethod ov m' pl)
      callWith pos f first (backTo pos (starEach [] X.env)) (backToKw pos (keywordEach [] X.env))) := by rfl) : PE X (.Call (.Attribute o m' apos) [] [] pos) (rd G E (eMeth ma m ms aNil aNil)) := by
  subst hf
  refine ⟨fun pins s σ H Q I ⟨ρ, env, h, hs, hr, w⟩ => ?_⟩
  have A0 := ho.run pins s σ H (fun v H1 => ∃ ρ1 h1 x, HRel G ρ1 H1 h1 ∧ VRel G ρ1 H1 v x ∧ Wp G E (VRel G) (match selM m' ms h1 x with | some f => f [x] [] h1 | none => .bad) ρ1 H1 Q) I
    ⟨ρ, env, h, hs, hr, Wp.seq w fun x h1 ρ1 H1 v g1 r1 q1 w1 => ⟨ρ1, h1, x, r1, q1, w1⟩⟩
  refine PySem.W.methodCall_KW (pl := pl) (thn A0 fun u s1 ⟨v, H1, I1, rx, ρ1, h1, x, r1, q1, w1⟩ => ?_) ht
  split at w1 <;> first | exact False.elim w1 | skip
  rename_i F' e3
  obtain ⟨a', dx, c, fvs, f, rfl, e2, e4, k1, k2, k3⟩ := meth_at hM r1 q1 e3
  obtain rfl : u = Value.ref a' := rx
  refine getmeth_ok I1 e2 k1 k2 e4 ?_
  exact PySem.W.callWith_K0 (first := [.ref a']) I1.kIn k2.kp (k3 pins s1 σ H1 [.ref a'] [] [.ref a'] [] ρ1 h1 [x] [] Q I1 (.cons rfl .nil) .nil r1 (.cons q1 .nil) .nil w1)
/-- o.m(k = b, ..) -/
theorem me_methK0 {pl : Sem Bool} (hf : m' = m) (hM : MethsF X G E m kn ms) (ho : PE X o (rd G E ma)) (hkw : PK X kws (rdA G E ks)) (hall : (backToKw pos (keywordEach kws X.env)).all (·.1.isSome) = true := by rfl)
    (hks : (backToKw pos (keywordEach kws X.env)).filterMap (·.1) = kn := by rfl) (hpl : ((backTo pos (starEach [] X.env)).any (·.1) || (backToKw pos (keywordEach kws X.env)).any (·.1.isNone)) = false := by rfl)
    (ht : eval (.Call (.Attribute o m' apos) [] kws pos) X.env = (do
      let ov ← eval o X.env
      standAt apos.atName
      let (f, first) ← holding [ov] (getMethod ov m' pl)
      callWith pos f first (backTo pos (starEach [] X.env)) (backToKw pos (keywordEach kws X.env))) := by rfl) : PE X (.Call (.Attribute o m' apos) [] kws pos) (rd G E (eMeth ma m ms aNil ks)) := by
  subst hf
  refine ⟨fun pins s σ H Q I ⟨ρ, env, h, hs, hr, w⟩ => ?_⟩
  have A0 := ho.run pins s σ H (fun v H1 => ∃ ρ1 h1 x, SRel G ρ1 H1 σ env ∧ HRel G ρ1 H1 h1 ∧ VRel G ρ1 H1 v x ∧ Wp G E (VRel G) (match selM m' ms h1 x with | some f => (ks env h1).bind fun es h3 => f [x] es h3 | none => .bad) ρ1 H1 Q) I
    ⟨ρ, env, h, hs, hr, Wp.seq w fun x h1 ρ1 H1 v g1 r1 q1 w1 => ⟨ρ1, h1, x, hs.grow g1, r1, q1, w1⟩⟩
  refine PySem.W.methodCall_KW (pl := pl) (thn A0 fun u s1 ⟨v, H1, I1, rx, ρ1, h1, x, s1', r1, q1, w1⟩ => ?_) ht
  split at w1 <;> first | exact False.elim w1 | skip
  rename_i F' e3
  obtain ⟨a', dx, c, fvs, f, rfl, e2, e4, k1, k2, k3⟩ := meth_at hM r1 q1 e3
  obtain rfl : u = Value.ref a' := rx
  refine getmeth_ok I1 e2 k1 k2 e4 ?_
  have A2 := hkw.run pos pins s1 σ H1 _ I1 (aft2k (f := F') (ds := [x]) (vs := [.ref a']) s1' r1 (.cons q1 .nil) w1)
  refine PySem.W.callWith_KW0 (first := [.ref a']) (h₀ := X.base) I.ok.mod.kin k2.kp hall (thn A2 fun ws s2 ⟨zs, H2, I2, rz, ρ2, h2, es', r2, q2, q3, w3⟩ => ⟨I2.kIn, ?_⟩) hpl
  rw [hks]
  exact k3 pins s2 σ H2 [.ref a'] ws [.ref a'] zs ρ2 h2 _ es' Q I2 (.cons rfl .nil) rz r2 q2 q3 w3
end
end Mo
end
section
/-! repr, isinstance, the law's end. -/
namespace Mo
open PySem L2 PyProof.Rows
/-! ### shown texts -/
theorem int_len {i : Int} (h : i.natAbs < 2 ^ 140) : (PyData.shown (.int i)).length ≤ 150 := by
  have e : PyData.shown (.int i) = Str.ofString (toString i) := rfl
  rw [e, PySem.ofString_length]
  cases i with
  | ofNat n =>
    have h1 : (Nat.repr n).length ≤ 140 := nat_repr_length_le (by decide) h
    have h2 : (toString (Int.ofNat n)).length = (Nat.repr n).length := rfl
    omega
  | negSucc n =>
    have h1 : (Nat.repr (n + 1)).length ≤ 140 := nat_repr_length_le (by decide) h
    have h2 : (toString (Int.negSucc n)) = "-" ++ Nat.repr (n + 1) := rfl
    rw [h2, String.length_append]
    have h3 : ("-" : String).length = 1 := rfl
    omega
mutual
theorem tame_short : ∀ (p : PyData), tame p = true → p.leavesShort 150 = true ∧ p.showable = true
  | .none, _ => ⟨by simp only [PyData.leavesShort], by simp only [PyData.showable]⟩
  | .bool b, _ => ⟨by simp only [PyData.leavesShort], by simp only [PyData.showable]⟩
  | .int i, h => by
    simp only [tame, decide_eq_true_eq] at h
    refine ⟨?_, ?_⟩
    · simp only [PyData.leavesShort, decide_eq_true_eq]
      exact int_len h
    · simp only [PyData.showable, decide_eq_true_eq]
      have h2 : i.natAbs.log2 ≤ 140 := by
        by_cases z : i.natAbs = 0
        · rw [z]
          decide
        · exact Nat.le_of_lt ((Nat.log2_lt z).mpr h)
      omega
  | .str x, h => by
    simp only [tame] at h
    refine ⟨?_, by simp only [PyData.showable]⟩
    simp only [PyData.leavesShort]
    rw [List.all_eq_true]
    intro c hc
    unfold PyData.strOk at h
    rw [Array.all_eq_true_iff_forall_mem] at h
    have h3 := h c (by simpa using hc)
    simp only [decide_eq_true_eq] at h3 ⊢
    omega
  | .list xs, h => by
    simp only [tame] at h
    obtain ⟨a, b⟩ := tame_shorts xs h
    exact ⟨by simp only [PyData.leavesShort]; exact a, by simp only [PyData.showable]; exact b⟩
  | .tuple xs, h => by
    simp only [tame] at h
    obtain ⟨a, b⟩ := tame_shorts xs h
    exact ⟨by simp only [PyData.leavesShort]; exact a, by simp only [PyData.showable]; exact b⟩
  | .dict _, h => by
    simp only [tame] at h
    cases h
theorem tame_shorts : ∀ (ps : List PyData), tameL ps = true → PyData.leavesShortAll 150 ps = true ∧ PyData.showableAll ps = true
  | [], _ => ⟨by simp only [PyData.leavesShortAll], by simp only [PyData.showableAll]⟩
  | p :: ps, h => by
    simp only [tameL, Bool.and_eq_true] at h
    obtain ⟨a, b⟩ := tame_short p h.1
    obtain ⟨c, d⟩ := tame_shorts ps h.2
    exact ⟨by simp only [PyData.leavesShortAll, a, c, Bool.and_self], by simp only [PyData.showableAll, b, d, Bool.and_self]⟩
end
theorem fits_ok {p : PyData} (h : fits p = true) : p.showable = true ∧ p.shown.length ≤ sizeLine := by
  unfold fits at h
  simp only [Bool.and_eq_true, decide_eq_true_eq] at h
  obtain ⟨a, b⟩ := tame_short p h.1
  have c := PyData.shown_le_bulk 150 (by decide) p a
  refine ⟨b, Nat.le_trans c ?_⟩
  have d := h.2
  unfold sizeLine
  omega
def rRepr (K : PySem.W.Frag) : List V → Hp → VK → Prop := fun xs H Q => ∃ x d, xs = [x] ∧ Dp K H x d ∧ d.showable = true ∧ d.shown.length ≤ sizeLine ∧ d.hasDict = false ∧ d.depth ≤ 64 ∧ Q (.str d.shown) H
theorem cl_repr {X : Cx} {k : Nat} (rg : RG k X.A) : CallR X (.builtin "repr") (rRepr X.K) := by
  intro pins s σ H xs us Q I r h
  obtain ⟨x, d, rfl, hd, h1, h2, h3, h4, q⟩ := h
  obtain ⟨u, rfl, ru⟩ := vals1 r
  have hu := rg.r.un
  have fin : ∀ (h' : Heap) (t : Tok) (tk : Nat), (∀ b o, s.heap.get? b = some o → h'.get? b = some o) → EP X pins σ Q (.str d.shown t) { s with heap := h', toks := tk } := fun h' t tk hk => ⟨.str d.shown, H, I.kept (t' := tk) hk, ⟨t, rfl⟩, q⟩
  cases hd with
  | non =>
    cases (show u = Value.none from ru)
    exact PySem.P.repr_of_none (fin s.heap _ _ fun _ _ e => e)
  | bl b =>
    cases (show u = Value.bool b from ru)
    exact PySem.P.repr_of_bool (fin s.heap _ _ fun _ _ e => e)
  | int i =>
    obtain ⟨t, rfl⟩ := ru
    simp only [PyData.showable, decide_eq_true_eq] at h1
    exact PySem.P.repr_of_int h1 (fin s.heap _ _ fun _ _ e => e)
  | str z =>
    obtain ⟨t, rfl⟩ := ru
    exact PySem.P.repr_of_str (fin s.heap _ _ fun _ _ e => e) h2
  | @lst a xs ds k1 k2 =>
    cases (show u = Value.ref a from ru)
    obtain ⟨as, rr⟩ := Dp.reads I _ _ _ (.lst k1 k2) rfl
    exact repr_of_reads' (h₀ := s.heap) rr h1 (PyData.noDict_hsm h3) rg.g (by omega) (fun _ _ e => e) (fun h' t tk hk => fin h' t tk hk) h2
  | @tup a xs ds k1 k2 =>
    cases (show u = Value.ref a from ru)
    obtain ⟨as, rr⟩ := Dp.reads I _ _ _ (.tup k1 k2) rfl
    exact repr_of_reads' (h₀ := s.heap) rr h1 (PyData.noDict_hsm h3) rg.g (by omega) (fun _ _ e => e) (fun h' t tk hk => fin h' t tk hk) h2
section
variable {G : Gm} {E : XK}
theorem bs_repr : BiS G E (rRepr G.K) bRepr := by
  intro ρ H h ds vs Q r q w
  unfold bRepr at w
  split at w
  · obtain ⟨v, rfl, k⟩ := vs1 q
    split at w
    · rename_i p e
      obtain ⟨c, w⟩ := Wp.ifR w
      obtain ⟨a, b⟩ := fits_ok c
      obtain ⟨c1, c2⟩ := dat_sh _ _ _ e
      exact ⟨v, p, rfl, dat_dp r _ _ _ _ e k, a, b, PyData.hasDict_of_canLay _ c1, Nat.le_trans c2 (by decide), w.val r (.str _)⟩
    · exact False.elim w
  · exact False.elim w
/-! ### kinds -/
theorem kit_all : ∀ T ∈ ["int", "bool", "str", "list", "tuple", "dict"], ∀ t ∈ ["NoneType", "bool", "int", "str", "tuple", "list", "dict"], kitB t T = some (t == T || (t == "bool" && T == "int")) := by decide +kernel
theorem tyD_x {ρ : List Addr} {H : Hp} {h : Hm} {x : D} {v : V} {t : String} (r : HRel G ρ H h) (q : VRel G ρ H v x) (e : tyD h x = some t) : TyX G.K H v (.type t) ∧ t ∈ ["NoneType", "bool", "int", "str", "tuple", "list", "dict"] := by
  cases q with
  | non => cases (show some _ = some t from e); exact ⟨.base .non, by decide⟩
  | bl b => cases (show some _ = some t from e); exact ⟨.base (.bl b), by decide⟩
  | int i => cases (show some _ = some t from e); exact ⟨.base (.int i), by decide⟩
  | str z => cases (show some _ = some t from e); exact ⟨.base (.str z), by decide⟩
  | kl h1 h2 =>
    cases (show some _ = some t from e)
    rcases h1 with ⟨o, h1⟩ | ⟨o, its, n, e1, ⟨e2, e3⟩, _⟩
    · exact ⟨.base (.frz h1), by decide⟩
    · exact ⟨.kList e1 e2, by decide⟩
  | tup h1 h2 =>
    cases (show some _ = some t from e)
    rcases h1 with (h1 | ⟨o, h1⟩) | ⟨o, its, n, e1, e2, _⟩
    · exact ⟨.base (.tup h1), by decide⟩
    · exact ⟨.fTuple h1, by decide⟩
    · exact ⟨.kTuple e1 e2, by decide⟩
  | @loc a l ha =>
    simp only [tyD] at e
    split at e
    · rename_i e1
      cases e
      obtain ⟨vs, e2, k⟩ := r.at e1 ha
      exact ⟨.base (.lst e2), by decide⟩
    · rename_i e1
      cases e
      obtain ⟨vs, e2, k⟩ := r.at e1 ha
      exact ⟨.base (.dK e2), by decide⟩
    · cases e
  | ty n => cases e
  | ob k => cases e
theorem bs_isi {T : String} (hT : T ∈ ["int", "bool", "str", "list", "tuple", "dict"]) : BiS G E (rIsi G.K) (bIsi T) := by
  intro ρ H h ds vs Q r q w
  unfold bIsi at w
  split at w
  · obtain ⟨v, u, rfl, k1, k2⟩ := vs2 q
    cases k2
    split at w
    · rename_i t e c
      have c := of_decide_eq_true c
      subst c
      obtain ⟨ty, ht⟩ := tyD_x r k1 e
      exact ⟨v, _, _, _, _, rfl, .ty _, ty, kit_ty (kit_all _ hT _ ht), w.val r (.bl _)⟩
    · exact False.elim w
  · exact False.elim w
theorem me_ty {X : Cx} {x : Str} {T : String} {pos : Pos} (hg : Gl X x) (hm : X.mg x = none) (hv : bootBuiltins x = some (.type T)) (hn : x ≠ "__name__" := by decide) (hd : (x == ("__debug__" : Str)) = false := by decide) : PE X (.Name x pos) (rd G E (eC (.ty T))) :=
  pe_w (pe_bltn (v := .ty T) hg hm hv rfl hn hd) (rd_c fun _ _ => .ty T)
end
/-! ### the law's end -/
theorem law_go {P : Program} {w : World} {K : PySem.W.Frag} {mg mb : Str → Option Value} {G : Gm} {F : Fn} {k : Nat} {fa a : Addr} {fd : FuncData} {x : Str} {s : Shared} {its : List Value} {ns : List Int} (hG : G.K = K)
    (inK : K.In s.heap) (hns : s.heap.Ns mainGlobals mg) (hbn : s.heap.Ns builtinsNs mb) (hbb : ∀ x : Str, x ≠ "__name__" → mb x = bootBuiltins x) (lim : s.heap.NoLimit) (gens : s.gens = #[])
    (ha : s.heap.get? a = some { cls := .type "list", data := .seq its.toArray }) (hi : IntsAre its ns) (hl : ns.length ≤ sizeLine) (rg : RG k callerA)
    (FG : ∀ base : Heap, K.In base → base.Ns mainGlobals mg → FnG P w K mg base k fa fd [x] (spOf G 1 F)) (bnd : ∀ (s : Shared) (u : Value), BindsTo s fd ⟨[u], []⟩ [(x, u)])
    (hT : ∃ h', F [.kl (ns.map .int)] Hm.start = .ok (.bl true) h') :
    codeAny (model P w) callerA (.call (.ref fa) ⟨[.ref a], []⟩) (fun r s' => r = .ok (.ret (.bool true)) ∧ OldK s.heap s'.heap ∧ s'.os = s.os ∧ AllBare s'.gens) s := by
  have rv : Vals (ns.map V.int) its := vals_ints hi
  have len := hi.length
  have relI : ∀ (ρ : List Addr) (H : Hp) (l : List Int), VRels G ρ H (l.map V.int) (l.map D.int) := fun ρ H l => by
    induction l with
    | nil => exact .nil
    | cons n l ih => exact .cons (.int n) ih
  -- the script: known to its object, or the module's own
  have main : ∀ H : Hp, SqK K H a (ns.map V.int) → HOk P w H s.heap → (∀ b u, H b = some u → b = a ∧ K.lookup a = none ∧ ∃ o xs, u = .frz o (.lst xs)) →
      codeAny (model P w) callerA (.call (.ref fa) ⟨[.ref a], []⟩) (fun r s' => r = .ok (.ret (.bool true)) ∧ OldK s.heap s'.heap ∧ s'.os = s.os ∧ AllBare s'.gens) s := by
    intro H hS hok only
    have free : ∀ {b : Addr} {m : Str → Option Value}, s.heap.Ns b m → (hidT s.heap H).Ns b m := fun {b m} n => by
      obtain ⟨o, es, ep, e, d, r⟩ := n
      refine ⟨o, es, ep, hidT_get e ?_, d, r⟩
      cases q : H b with
      | none => rfl
      | some u =>
        rw [(only b u q).1, ha] at e
        cases e
        cases d
    have inB : K.In (hidT s.heap H) := fun b o e => hidT_get (inK b o e) (by
      cases q : H b with
      | none => rfl
      | some u =>
        obtain ⟨e1, e2, _⟩ := only b u q
        rw [e1, e2] at e
        cases e)
    have md : Mod K mg (hidT s.heap H) := by
      obtain ⟨mc, z1, z2⟩ := lim
      exact ⟨inB, free hns, ⟨mb, free hbn, hbb⟩, ⟨mc, free z1, z2⟩⟩
    have e0 : Env0 P w K mg (hidT s.heap H) callerA [] s H := ⟨rfl, md, fun b o e => of_hidT e, Nat.le_of_eq (hidT_size _ _), trivial, (fun b hb => absurd (show b ∈ ([] : List Addr) from hb) (by simp)), hok, .of_eq gens⟩
    obtain ⟨h', eF⟩ := hT
    have sp : spOf G 1 F [.ref a] H (fun v _ => v = .bl true) E0 := by
      refine ⟨[], [.kl (ns.map .int)], Hm.start, ⟨rfl, (fun i j a e => by simp at e), (fun a m => by simp at m), fun l o e => nomatch e⟩, .cons (.kl (by rw [hG]; exact hS) (relI _ _ ns)) .nil, rfl, ?_⟩
      rw [eF]
      intro ρ' H' v g r q
      cases q
      rfl
    refine codeAny_mono ((FG _ inB (free hns)).go callerA rg [] s H ⟨[.ref a], []⟩ [.ref a] [.ref a] _ E0 e0 (bnd s (.ref a)) (.cons rfl .nil) sp) fun r s' h => ?_
    cases r with
    | error e =>
      obtain ⟨_, _, _, _, _, _, _, _, _, _, _, _, z⟩ := h
      exact z.elim
    | ok fl =>
      cases fl with
      | ret u =>
        obtain ⟨v, H', os, bare, un, hok', r', q⟩ := h
        cases (show v = .bl true from q)
        cases (show u = Value.bool true from r')
        refine ⟨rfl, OldK.of_keep fun b o e => ?_, os, bare⟩
        cases q : H b with
        | none => exact un.keep b o e q (by intro z; exact absurd (show b ∈ ([] : List Addr) from z) (by simp)) (by simp)
        | some u =>
          obtain ⟨_, _, ob, xs, rfl⟩ := only b u q
          obtain ⟨e1, _⟩ := hok b _ q
          obtain ⟨e2, _⟩ := hok' b _ (un.frzs b ob _ q)
          rw [e] at e1
          cases e1
          exact e2
      | _ => exact (show False from h).elim
  cases hk : K.lookup a with
  | some o =>
    have e := inK a o hk
    rw [ha] at e
    cases e
    exact main (fun _ => none) (.inr ⟨_, its.toArray, _, hk, ⟨rfl, rfl⟩, rfl, by rw [List.size_toArray, len]; exact hl, by simpa using rv⟩) (fun b u z => nomatch z) (fun b u z => nomatch z)
  | none =>
    have he : ∀ b u, (if b = a then some (HO.frz { cls := .type "list", data := .seq its.toArray } (.lst (ns.map V.int))) else none) = some u → b = a ∧ u = .frz { cls := .type "list", data := .seq its.toArray } (.lst (ns.map V.int)) := fun b u z => by
      by_cases c : b = a
      · rw [if_pos c] at z
        cases z
        exact ⟨c, rfl⟩
      · rw [if_neg c] at z
        cases z
    refine main (fun b => if b = a then some (.frz { cls := .type "list", data := .seq its.toArray } (.lst (ns.map V.int))) else none) (.inl ⟨_, if_pos rfl⟩) (fun b u z => ?_) (fun b u z => ?_)
    · obtain ⟨c, rfl⟩ := he b u z
      subst c
      exact ⟨ha, by rw [List.length_map]; exact hl, its, _, rv, ha⟩
    · obtain ⟨c, rfl⟩ := he b u z
      exact ⟨c, hk, _, _, rfl⟩
/-- the law's row, from the def's promise and M's answer -/
theorem law_end {l : PySem.W.OpenLaw} {n k : Nat} {q : Program} {loose : List Str} {XP : (Str → Option Value) → Heap → Prop} {YP : World → Heap → Prop} {d : DefRec} {K : Params → PySem.W.Frag} {F : Fn} {x : Str}
    (hn : l.most = some n) (hn2 : n ≤ sizeLine) (hdf : d.params.defaults = []) (rg : RG k callerA) (hY : ∀ (w : World) (h : Heap), YP w h → (K w.params).In h)
    (FG : ∀ (w : World) (mg : Str → Option Value) (fa : Addr) (h : Heap), (K w.params).In h → h.Ns mainGlobals mg → mg d.name = some (.ref fa) → ∃ (fd : FuncData) (G : Gm), G.K = K w.params ∧ (∀ (s : Shared) (u : Value), BindsTo s fd ⟨[u], []⟩ [(x, u)]) ∧
      ∀ base : Heap, (K w.params).In base → base.Ns mainGlobals mg → FnG l.prog w (K w.params) mg base k fa fd [x] (spOf G 1 F))
    (hT : ∀ ns : List Int, ns.length ≤ n → ∃ h', F [.kl (ns.map .int)] Hm.start = .ok (.bl true) h') : PySem.W.WalkO q loose XP YP l.row.toRowW d [] (fun f vs => PySem.call f vs) := by
  refine Att.attach_call hn hdf fun w s0 s1 mg mb fa o pm cd doc a vs ns Gr Y ho hd hcd hmg hobj hints hlen hg => ?_
  have inK := hY w _ Y
  obtain ⟨fd, G, e, hb, hF⟩ := FG w mg fa _ inK Gr.T.g hmg
  exact law_go e inK Gr.T.g Gr.T.b Gr.T.builtins Gr.T.nolimit hg hobj hints (Nat.le_trans hlen hn2) rg hF hb (hT ns hlen)
end Mo
end
section
/-! Attribute targets; the top's facts by names; a def's promise and its calls. -/
namespace Mo
open PySem L2 PyProof.Rows He
section
variable {G : Gm} {E : XK} {X : Cx} {o : Expr} {mb : ME}
theorem mg_fld {f f' : Str} {cs : List Nat} {pos : Pos} (hK : X.K = G.K) (hC : ∀ c, cs.contains c = true → Cls G.K (G.cA c) ∧ NoAttr G.K (G.cA c) f) (hf : f' = f) (ho : PE X o (rd G E mb)) : PG X (.Attribute o f' pos) (rdG G E (gFld mb cs f)) := by
  subst hf
  refine ⟨fun pins s σ H v u Q I rv ⟨ρ, env, h, d, hs, hr, q, w⟩ => ?_⟩
  have A0 := ho.run pins s σ H (fun vo H1 => ∃ ρ1 h1 x, Grow ρ H ρ1 H1 ∧ HRel G ρ1 H1 h1 ∧ VRel G ρ1 H1 vo x ∧ Wp G E (SRel G) (fldK cs f' d env x h1) ρ1 H1 Q) I
    ⟨ρ, env, h, hs, hr, Wp.seq w fun x h1 ρ1 H1 vo g1 r1 q1 w1 => ⟨ρ1, h1, x, g1, r1, q1, w1⟩⟩
  suffices A1 : wpAny (model X.prog X.w) X.A (eval o X.env) (fun ov s2 => wpAny (model X.prog X.w) X.A (setAttr ov f' u) (fun _ s' => ∃ σ' H', Inv X pins σ' H' s' ∧ Q σ' H') X.xe s2) X.xe s by
    refine fun Γ p hΓ => ?_
    simp only [assign_Attribute, Sem.wp_bind', Sem.wp_holding, Sem.wp_cmd_standAt, Sem.wp_release, Sem.wp_pure']
    exact Sem.wp_mono _ Γ _ (fun ov _ s2 h2 => h2 Γ _ hΓ) (fun _ _ _ h' => h') _ _ (A1 Γ _ hΓ)
  refine thn A0 fun ov s1 ⟨vo, H1, I1, ro, ρ1, h1, x, g1, r1, q1, w1⟩ => ?_
  cases q1 with
  | @loc p l hl =>
    obtain rfl : ov = Value.ref p := ro
    unfold fldK at w1
    simp only at w1
    split at w1 <;> first | exact False.elim w1 | skip
    rename_i c fs e
    obtain ⟨k, w1⟩ := Wp.ifR w1
    obtain ⟨k1, k2⟩ := (Bool.and_eq_true_iff.mp k : cs.contains c = true ∧ decide (fs.length < 1000) = true)
    obtain ⟨dx, fvs, e3, n⟩ := r1.at e hl
    obtain ⟨c1, c2⟩ := hC c k1
    have g := Grow.put r1 hl e3 trivial (.ins (G.cA c) dx (L2.putF f' v fvs))
    exact setattr_ok I1 e3 (by rw [hK]; exact c1) (by rw [hK]; exact c2) (by rw [n.length]; exact of_decide_eq_true k2) rv fun s' I' => ⟨_, _, I', w1 _ _ _ g (r1.put hl e3 trivial ⟨dx, _, upd_same, (putF_rel (q.grow g1) n).grow g⟩) ((hs.grow g1).grow g)⟩
  | _ => exact False.elim w1
end
theorem hC_nil {K : PySem.W.Frag} {cA : Nat → Addr} {f : Str} : ∀ c, ([] : List Nat).contains c = true → Cls K (cA c) ∧ NoAttr K (cA c) f := fun c z => nomatch z
theorem hC_cons {K : PySem.W.Frag} {cA : Nat → Addr} {f : Str} {c0 : Nat} {cs : List Nat} (h1 : Cls K (cA c0)) (h2 : NoAttr K (cA c0) f) (hr : ∀ c, cs.contains c = true → Cls K (cA c) ∧ NoAttr K (cA c) f) : ∀ c, (c0 :: cs).contains c = true → Cls K (cA c) ∧ NoAttr K (cA c) f := fun c z => by
  rw [List.contains_cons, Bool.or_eq_true] at z
  rcases z with z | z
  · rw [beq_iff_eq.mp z]
    exact ⟨h1, h2⟩
  · exact hr c z
theorem hx_of {P : Program} {w : World} {K : PySem.W.Frag} {mg : Str → Option Value} {base : Heap} {N : List Str} {qual : Str} {scope : Scope} {f : Addr} {cdv : Value} {A : Around} {outer : List PySem.Env} {s : Shared} {H : Hp} {E : XK} :
    Passes (L2.CX P w) (cxOf (L2.CX P w) P w K mg base N qual scope f cdv A outer s H E) E := passes_call (takes_of rfl rfl rfl rfl) (fun _ _ _ _ z => z)
theorem hp_of {P : Program} {w : World} {K : PySem.W.Frag} {mg : Str → Option Value} {base : Heap} {N : List Str} {qual : Str} {scope : Scope} {f : Addr} {cdv : Value} {A : Around} {outer : List PySem.Env} {s : Shared} {H : Hp} {E : XK} :
    PassesOwn (model P w) (A.deeper (envOfC qual scope s.heap.objs.size f cdv)) (cxOf (L2.CX P w) P w K mg base N qual scope f cdv A outer s H E).env (cxOf (L2.CX P w) P w K mg base N qual scope f cdv A outer s H E).xe := passes_of rfl
/-! ### the top's facts -/
def obsM (n : Nat) (fa : List Fa) (fn : List DefD) (ex : PySem.W.Frag → Bool) (g : Addr → Option Obj) : AlD × Bool := (obsD fa fn (frG g (asD g n)), ex (frG g (asD g n)))
structure SaysM (fa : List Fa) (fn : List DefD) (ex : PySem.W.Frag → Bool) (K : PySem.W.Frag) : Prop where
  d : SaysD fa fn K
  e : ex K = true
def hookM (n : Nat) (fa : List Fa) (fn : List DefD) (ex : PySem.W.Frag → Bool) : PySem.W.Hook where
  α := AlD × Bool
  obs := fun s => obsM n fa fn ex s.heap.get?
  val := fun _ => (valD fn, true)
  says := fun _ h => ∃ K : PySem.W.Frag, K.In h ∧ SaysM fa fn ex K
  of := fun _ _ e => ⟨_, frG_in, congrArg (fun z : AlD × Bool => z.1) e, congrArg (fun z : AlD × Bool => z.2) e⟩
  keeps := fun _ _ _ ⟨K, hK, c⟩ k => ⟨K, PySem.W.Frag.In.keeps hK k, c⟩
theorem obsM_eq {n : Nat} {fa : List Fa} {fn : List DefD} {ex : PySem.W.Frag → Bool} {g : Addr → Option Obj} {s : Shared} (h : ∀ a, g a = s.heap.get? a) : obsM n fa fn ex g = (hookM n fa fn ex).obs s := by
  have e : g = s.heap.get? := funext h
  rw [e] <;> rfl
/-- what the top has left -/
structure Tp (fa : List Fa) (fn : List DefD) (ex : PySem.W.Frag → Bool) (K : PySem.W.Frag) (mg : Str → Option Value) : Prop where
  c : SaysM fa fn ex K
  h : ∃ h : Heap, K.In h ∧ h.Ns mainGlobals mg
section
variable {fa : List Fa} {fn : List DefD} {ex : PySem.W.Frag → Bool} {K : PySem.W.Frag} {mg : Str → Option Value}
theorem Tp.glo (T : Tp fa fn ex K mg) (i : Nat) {x : Str} (h : fa[i]? = some (.glo x) := by rfl) : mg x = some (.ref (ga K x)) := let ⟨_, a, b⟩ := T.h; glo_ok a b (T.c.d.fact i h)
theorem Tp.free (T : Tp fa fn ex K mg) (i : Nat) {x : Str} (h : fa[i]? = some (.free x) := by rfl) : mg x = none := let ⟨_, a, b⟩ := T.h; free_ok a b (T.c.d.fact i h)
theorem Tp.cls (T : Tp fa fn ex K mg) (i : Nat) {x : Str} (h : fa[i]? = some (.cls x) := by rfl) : Cls K (ga K x) := cls_ok (T.c.d.fact i h)
theorem Tp.noat (T : Tp fa fn ex K mg) (i : Nat) {x f : Str} (h : fa[i]? = some (.noat x f) := by rfl) : NoAttr K (ga K x) f := noat_ok (T.c.d.fact i h)
theorem Tp.meth (T : Tp fa fn ex K mg) (i : Nat) {x m : Str} (h : fa[i]? = some (.meth x m) := by rfl) : Meth K (ga K x) m (ma K (ga K x) m) := meth_ok (T.c.d.fact i h)
theorem Tp.mkr (T : Tp fa fn ex K mg) (i : Nat) {x : Str} (h : fa[i]? = some (.mkr x) := by rfl) : Mk K (ga K x) (ma K (ga K x) "__init__") := mkr_ok (T.c.d.fact i h)
theorem Tp.int (T : Tp fa fn ex K mg) (i : Nat) {x : Str} {n : Int} (h : fa[i]? = some (.int x n) := by rfl) : ∃ t, mg x = some (.int n t) := let ⟨_, a, b⟩ := T.h; int_ok a b (T.c.d.fact i h)
theorem Tp.str (T : Tp fa fn ex K mg) (i : Nat) {x z : Str} (h : fa[i]? = some (.str x z) := by rfl) : ∃ t, mg x = some (.str z t) := let ⟨_, a, b⟩ := T.h; str_ok a b (T.c.d.fact i h)
theorem Tp.fd (T : Tp fa fn ex K mg) (i : Nat) {d : DefD} (h : fn[i]? = some d := by rfl) : ∃ fd, FunD K d.name d.qual d.params d.body d.scope (d.dvs K) (d.kws K) (fAd K d.at_) fd := T.c.d.def_ i h
theorem Tp.kp (T : Tp fa fn ex K mg) (i : Nat) {d : DefD} (h : fn[i]? = some d := by rfl) : PySem.W.keepIn K (.ref (fAd K d.at_)) = true := let ⟨_, F⟩ := T.fd i h; F.kp
end
section
variable {fa : List Fa} {fn : List DefD} {ex : PySem.W.Frag → Bool} {G : Gm} {E : XK} {X : Cx}
theorem me_gint (T : Tp fa fn ex X.K X.mg) (i : Nat) {x : Str} {n : Int} {pos : Pos} (hg : Gl X x) (h : fa[i]? = some (.int x n) := by rfl) (hd : (x == ("__debug__" : Str)) = false := by decide) : PE X (.Name x pos) (rd G E (eC (.int n))) :=
  let ⟨_, e⟩ := T.int i h; me_glob (v := .int n) hg e ⟨_, rfl⟩ (fun _ _ => .int n) hd
theorem me_gstr (T : Tp fa fn ex X.K X.mg) (i : Nat) {x z : Str} {pos : Pos} (hg : Gl X x) (h : fa[i]? = some (.str x z) := by rfl) (hd : (x == ("__debug__" : Str)) = false := by decide) : PE X (.Name x pos) (rd G E (eC (.str z))) :=
  let ⟨_, e⟩ := T.str i h; me_glob (v := .str z) hg e ⟨_, rfl⟩ (fun _ _ => .str z) hd
/-- a name of the module that stands for a tuple -/
theorem me_gtup (T : Tp fa fn ex X.K X.mg) (i : Nat) {x : Str} {vs : List Dv} {ds : List D} {pos : Pos} (hG : G.K = X.K) (hg : Gl X x) (ht : tupB X.K x vs = true) (q : ∀ ρ H, VRels G ρ H (vs.map (Dv.v X.K)) ds) (h : fa[i]? = some (.glo x) := by rfl) (hd : (x == ("__debug__" : Str)) = false := by decide) :
    PE X (.Name x pos) (rd G E (eC (.tup ds))) := me_glob hg (T.glo i h) (v := .ref (ga X.K x)) rfl (fun ρ H => .tup (by rw [hG]; exact tupB_ok ht H) (q ρ H)) hd
end
/-! ### a def's promise -/
def OkD (P : Program) (w : World) (K : PySem.W.Frag) (mg : Str → Option Value) (base : Heap) (k : Nat) (d : DefD) (ps : List Str) (F : Fn) (G : Gm) : Prop :=
  ∃ fd, FunD K d.name d.qual d.params d.body d.scope (d.dvs K) (d.kws K) (fAd K d.at_) fd ∧ FnG P w K mg base k (fAd K d.at_) fd ps (spOf G ps.length F)
theorem okD_of {P : Program} {w : World} {K : PySem.W.Frag} {mg : Str → Option Value} {base : Heap} {fa : List Fa} {fn : List DefD} {ex : PySem.W.Frag → Bool} {k : Nat} {N ps : List Str} {G : Gm} {m : MS} (T : Tp fa fn ex K mg) (i : Nat) {d : DefD} (S : FnScope N ps d.scope)
    (hb : ∀ (cdv : Value) (A : Around) (outer : List PySem.Env) (s : Shared) (H : Hp) (E : XK), RG k (A.deeper (envOfC d.qual d.scope s.heap.objs.size (fAd K d.at_) cdv)) → PSs (cxOf (L2.CX P w) P w K mg base N d.qual d.scope (fAd K d.at_) cdv A outer s H E) d.body (rdS G E m)) (h : fn[i]? = some d := by rfl) :
    OkD P w K mg base (k + 1) d ps (fnOf N.length m) G := let ⟨fd, F⟩ := T.fd i h; ⟨fd, F, fg_of F S hb⟩
/-- how a call's things reach a def's parameters -/
def Form (K : PySem.W.Frag) (G : Gm) (d : DefD) (ps : List Str) (n : Nat) (kn : List Str) (p : List D → List D → List D) : Prop := ∃ gV : List V → List V → List V,
  (∀ fd, FunD K d.name d.qual d.params d.body d.scope (d.dvs K) (d.kws K) (fAd K d.at_) fd → ∃ g, KBn K fd ps n kn g gV) ∧ PermR G n kn.length gV p ∧ ∀ ds es : List D, ds.length = n → es.length = kn.length → (p ds es).length = ps.length
section
variable {K : PySem.W.Frag} {G : Gm} {d : DefD} {ps : List Str} {n : Nat} {kn : List Str}
/-- all by place, no defaults -/
theorem form_pos (hd : d.dfl = []) (h : ∀ (kV doc pm : Value) (an : Option Addr) (cdv ct : Value) (us : List Value), us.length = ps.length → bindArgs (PySem.W.fnOf d.name d.qual d.params d.body d.scope .none kV doc pm an cdv ct) ⟨us, []⟩ = pure (ps.zip us)) : Form K G d ps ps.length [] (fun ds _ => ds) := by
  refine ⟨fun vs _ => vs, fun fd F => ⟨fun us _ => us, ⟨fun s us ws X l1 l2 => ?_, fun r _ => r⟩⟩, fun ρ H vs ds zs es q1 q2 _ _ => ⟨q1, q1.length⟩, fun ds es l _ => l⟩
  have F2 : FunD K d.name d.qual d.params d.body d.scope [] (d.kws K) (fAd K d.at_) fd := by
    have e : d.dvs K = [] := by unfold DefD.dvs; rw [hd]; rfl
    rw [e] at F
    exact F
  exact F2.bindsA h s us l1
/-- keyword-only ones, some of them by name -/
theorem form_kw0 (g : {α : Type} → List α → List α → List α → List α) (ms : List (Str × Dv)) (mds : List D) (hd : d.dfl = []) (hk : d.kwd ≠ []) (is : List Nat) (hms : is.map (fun i => d.kwd[i]?) = ms.map some) (hm : ∀ ρ H, VRels G ρ H (ms.map fun q => q.2.v K) mds)
    (hrel : ∀ {vs mz zs : List V} {us mv ws : List Value}, Vals vs us → Vals mz mv → Vals zs ws → Vals (g vs mz zs) (g us mv ws)) (hrelD : ∀ {ρ : List Addr} {H : Hp} {vs mz zs : List V} {us mv ws : List D}, VRels G ρ H vs us → VRels G ρ H mz mv → VRels G ρ H zs ws → VRels G ρ H (g vs mz zs) (g us mv ws))
    (hl : ∀ ds es : List D, ds.length = n → es.length = kn.length → (g ds mds es).length = ps.length)
    (h : ∀ (A : Addr) (doc pm : Value) (an : Option Addr) (cdv ct : Value) (us mv ws : List Value), us.length = n → mv.length = ms.length → ws.length = kn.length →
      KwChain A ((ms.map (·.1)).zip mv) (bindArgs (PySem.W.fnOf d.name d.qual d.params d.body d.scope .none (.ref A) doc pm an cdv ct) ⟨us, kn.zip ws⟩) (ps.zip (g us mv ws))) : Form K G d ps n kn (fun ds es => g ds mds es) := by
  refine ⟨fun vs zs => g vs (ms.map fun q => q.2.v K) zs, fun fd F => ?_, fun ρ H vs ds zs es q1 q2 _ _ => ⟨hrelD q1 (hm ρ H) q2, (hrelD q1 (hm ρ H) q2).length⟩, hl⟩
  have F2 : FunD K d.name d.qual d.params d.body d.scope [] (d.kws K) (fAd K d.at_) fd := by
    have e : d.dvs K = [] := by unfold DefD.dvs; rw [hd]; rfl
    rw [e] at F
    exact F
  obtain ⟨mv, kb⟩ := F2.kbinds0 (ps := ps) n kn (ms.map fun q => (q.1, q.2.v K)) g (by unfold DefD.kws; intro z; exact hk (List.map_eq_nil_iff.mp z))
    (fun q hq => by
      obtain ⟨q', hq', rfl⟩ := List.mem_map.mp hq
      have k : some q' ∈ is.map (fun i => d.kwd[i]?) := by rw [hms]; exact List.mem_map.mpr ⟨q', hq', rfl⟩
      obtain ⟨i, _, e⟩ := List.mem_map.mp k
      exact List.mem_map.mpr ⟨q', List.mem_of_getElem? e, rfl⟩) hrel fun A doc pm an cdv ct us mv ws l1 l2 l3 => by
      have z := h A doc pm an cdv ct us mv ws l1 (by simpa using l2) l3
      rw [List.map_map]
      exact z
  refine ⟨fun us ws => g us mv ws, ?_⟩
  have e : (ms.map fun q => (q.1, q.2.v K)).map (·.2) = ms.map fun q => q.2.v K := by rw [List.map_map]; rfl
  rw [e] at kb
  exact kb
end
section
variable {G : Gm} {E : XK} {X : Cx} {j k n : Nat} {d : DefD} {ps kn : List Str} {F : Fn} {p : List D → List D → List D}
theorem OkD.calls (O : OkD X.prog X.w X.K X.mg X.base k d ps F G) (B : Form X.K G d ps n kn p) (hx : Passes (L2.CX X.prog X.w) X E) (rg : RG j X.A) (h : k ≤ j := by decide) : CallsF X G E (.ref (fAd X.K d.at_)) kn (callP n kn.length p F) := by
  obtain ⟨fd, FD, FG⟩ := O
  obtain ⟨gV, b1, b2, b3⟩ := B
  obtain ⟨g, kb⟩ := b1 fd FD
  exact calls_of FG (rg.mono h) kb hx b2 b3
theorem OkD.makes {c : Nat} (O : OkD X.prog X.w X.K X.mg X.base k d ps F G) (B : Form X.K G d ps (n + 1) kn p) (M : Mk X.K (G.cA c) (fAd X.K d.at_)) (hx : Passes (L2.CX X.prog X.w) X E) (rg : RG j X.A) (h : k + 1 ≤ j := by decide) :
    CallsF X G E (.ref (G.cA c)) kn (mkNew c (callP (n + 1) kn.length p F)) := by
  obtain ⟨fd, FD, FG⟩ := O
  obtain ⟨gV, b1, b2, b3⟩ := B
  obtain ⟨g, kb⟩ := b1 fd FD
  exact makes_of M FG (rg.mono h) kb hx b2 b3
end
/-! ### the end -/
theorem law_endE {l : PySem.W.OpenLaw} {n k : Nat} {q : Program} {loose : List Str} {XP : (Str → Option Value) → Heap → Prop} {fa : List Fa} {fn : List DefD} {ex : PySem.W.Frag → Bool} {dr : DefRec} {F : Fn} {x : Str} {d : DefD} {G : PySem.W.Frag → Gm} {YP : World → Heap → Prop}
    (hn : l.most = some n) (hn2 : n ≤ sizeLine) (hdf : dr.params.defaults = []) (rg : RG k callerA) (hG : ∀ K, (G K).K = K) (hY : ∀ w h, YP w h → ∃ K : PySem.W.Frag, K.In h ∧ SaysM fa fn ex K)
    (hg : ∀ K mg, Tp fa fn ex K mg → mg dr.name = some (.ref (fAd K d.at_))) (hdd : d.dfl = []) (hb : ∀ (kV doc pm : Value) (an : Option Addr) (cdv ct : Value) (us : List Value), us.length = [x].length → bindArgs (PySem.W.fnOf d.name d.qual d.params d.body d.scope .none kV doc pm an cdv ct) ⟨us, []⟩ = pure ([x].zip us))
    (FG : ∀ (w : World) (mg : Str → Option Value) (K : PySem.W.Frag) (base : Heap), Tp fa fn ex K mg → OkD l.prog w K mg base k d [x] F (G K))
    (hT : ∀ ns : List Int, ns.length ≤ n → ∃ h', F [.kl (ns.map .int)] Hm.start = .ok (.bl true) h') : PySem.W.WalkO q loose XP YP l.row.toRowW dr [] (fun f vs => PySem.call f vs) := by
  refine Att.attach_call hn hdf fun w s0 s1 mg mb fa o pm cd doc a vs ns Gr Y ho hd hcd hmg hobj hints hlen hgens => ?_
  obtain ⟨K, KX, c⟩ := hY _ _ Y
  have T : Tp _ _ _ K mg := ⟨c, _, KX, Gr.T.g⟩
  have e := hg K mg T
  rw [hmg] at e
  obtain rfl := Value.ref.inj (Option.some.inj e)
  -- the def is one, whatever the base
  obtain ⟨fd0, FD0, _⟩ := FG w mg K s1.heap T
  obtain ⟨oc, od, dV, kV, doc', pm', an, cdv, ct, osl, efd, lk, _⟩ := FD0.ex
  have one : ∀ fd, FunD K d.name d.qual d.params d.body d.scope (d.dvs K) (d.kws K) (fAd K d.at_) fd → fd = fd0 := fun fd FD => by
    obtain ⟨_, _, _, _, _, _, _, _, _, _, _, lk', _⟩ := FD.ex
    rw [lk] at lk'
    have := Option.some.inj lk'
    cases this
    rfl
  have F2 : FunD K d.name d.qual d.params d.body d.scope [] (d.kws K) (fAd K d.at_) fd0 := by
    have e : d.dvs K = [] := by unfold DefD.dvs; rw [hdd]; rfl
    rw [e] at FD0
    exact FD0
  exact law_go (hG K) KX Gr.T.g Gr.T.b Gr.T.builtins Gr.T.nolimit hgens hobj hints (Nat.le_trans hlen hn2) rg (fun base inB nsB => by
    obtain ⟨fd, FD, FG'⟩ := FG w mg K base T
    rw [one fd FD] at FG'
    exact FG') (fun s u => F2.bindsA hb s [u] rfl) (hT ns hlen)
end Mo
end
section
/-! The defs keep what M says of them. -/
namespace Lw
open PySem L2 PyProof.Rows Mo He
def topS (i : Nat) : Stmt := PySem.Challenge.pw_tagmill_k19_parts_of_parts.main.body.getD i (.Pass ⟨0, 0, 0, 0⟩)
abbrev s_draws : Stmt := topS 18
abbrev s_is_whole : Stmt := topS 8
abbrev s_Rooms_init : Stmt := inClass (topS 16) 0
abbrev s_take : Stmt := topS 19
abbrev s_number_of : Stmt := topS 14
abbrev s_Rooms_make_room : Stmt := inClass (topS 16) 1
abbrev s_Rooms_need_there : Stmt := inClass (topS 16) 2
abbrev s_Rooms_part_of : Stmt := inClass (topS 16) 6
abbrev s_parts : Stmt := topS 20
abbrev s_Rooms_touches : Stmt := inClass (topS 16) 15
abbrev s_Rooms_size_of : Stmt := inClass (topS 16) 7
abbrev s_Rooms_place_of : Stmt := inClass (topS 16) 3
abbrev s_Rooms_word_at : Stmt := inClass (topS 16) 4
abbrev s_told_right : Stmt := topS 21
abbrev s_Rooms_put_at : Stmt := inClass (topS 16) 5
abbrev s_is_number : Stmt := topS 15
abbrev s_Rooms_need_made : Stmt := inClass (topS 16) 11
abbrev s_Rooms_places_of : Stmt := inClass (topS 16) 14
abbrev s_law : Stmt := topS 22
abbrev dd_draws : DefD := ⟨("_law_draws", none), "_law_draws", "_law_draws", defArgs s_draws, defBody s_draws, defScope s_draws, [], []⟩
abbrev dd_is_whole : DefD := ⟨("is_whole", none), "is_whole", "is_whole", defArgs s_is_whole, defBody s_is_whole, defScope s_is_whole, [], [("least", .int 0), ("most", .int 999999999)]⟩
abbrev dd_Rooms_init : DefD := ⟨("Rooms", some "__init__"), "__init__", "Rooms.__init__", defArgs s_Rooms_init, defBody s_Rooms_init, defScope s_Rooms_init, [], [("most", .int 40)]⟩
abbrev dd_take : DefD := ⟨("_law_take", none), "_law_take", "_law_take", defArgs s_take, defBody s_take, defScope s_take, [], []⟩
abbrev dd_number_of : DefD := ⟨("number_of", none), "number_of", "number_of", defArgs s_number_of, defBody s_number_of, defScope s_number_of, [], []⟩
abbrev dd_Rooms_make_room : DefD := ⟨("Rooms", some "make_room"), "make_room", "Rooms.make_room", defArgs s_Rooms_make_room, defBody s_Rooms_make_room, defScope s_Rooms_make_room, [], []⟩
abbrev dd_Rooms_need_there : DefD := ⟨("Rooms", some "need_there"), "need_there", "Rooms.need_there", defArgs s_Rooms_need_there, defBody s_Rooms_need_there, defScope s_Rooms_need_there, [], []⟩
abbrev dd_Rooms_part_of : DefD := ⟨("Rooms", some "part_of"), "part_of", "Rooms.part_of", defArgs s_Rooms_part_of, defBody s_Rooms_part_of, defScope s_Rooms_part_of, [], []⟩
abbrev dd_parts : DefD := ⟨("_law_parts", none), "_law_parts", "_law_parts", defArgs s_parts, defBody s_parts, defScope s_parts, [], []⟩
abbrev dd_Rooms_touches : DefD := ⟨("Rooms", some "touches"), "touches", "Rooms.touches", defArgs s_Rooms_touches, defBody s_Rooms_touches, defScope s_Rooms_touches, [], []⟩
abbrev dd_Rooms_size_of : DefD := ⟨("Rooms", some "size_of"), "size_of", "Rooms.size_of", defArgs s_Rooms_size_of, defBody s_Rooms_size_of, defScope s_Rooms_size_of, [], []⟩
abbrev dd_Rooms_place_of : DefD := ⟨("Rooms", some "place_of"), "place_of", "Rooms.place_of", defArgs s_Rooms_place_of, defBody s_Rooms_place_of, defScope s_Rooms_place_of, [], []⟩
abbrev dd_Rooms_word_at : DefD := ⟨("Rooms", some "word_at"), "word_at", "Rooms.word_at", defArgs s_Rooms_word_at, defBody s_Rooms_word_at, defScope s_Rooms_word_at, [], []⟩
abbrev dd_told_right : DefD := ⟨("_law_told_right", none), "_law_told_right", "_law_told_right", defArgs s_told_right, defBody s_told_right, defScope s_told_right, [], []⟩
abbrev dd_Rooms_put_at : DefD := ⟨("Rooms", some "put_at"), "put_at", "Rooms.put_at", defArgs s_Rooms_put_at, defBody s_Rooms_put_at, defScope s_Rooms_put_at, [], []⟩
abbrev dd_is_number : DefD := ⟨("is_number", none), "is_number", "is_number", defArgs s_is_number, defBody s_is_number, defScope s_is_number, [], []⟩
abbrev dd_Rooms_need_made : DefD := ⟨("Rooms", some "need_made"), "need_made", "Rooms.need_made", defArgs s_Rooms_need_made, defBody s_Rooms_need_made, defScope s_Rooms_need_made, [], []⟩
abbrev dd_Rooms_places_of : DefD := ⟨("Rooms", some "places_of"), "places_of", "Rooms.places_of", defArgs s_Rooms_places_of, defBody s_Rooms_places_of, defScope s_Rooms_places_of, [], []⟩
abbrev dd_law : DefD := ⟨("law", none), "law", "law", defArgs s_law, defBody s_law, defScope s_law, [], []⟩
abbrev fn_ : List DefD := [dd_draws, dd_is_whole, dd_Rooms_init, dd_take, dd_number_of, dd_Rooms_make_room, dd_Rooms_need_there, dd_Rooms_part_of, dd_parts, dd_Rooms_touches, dd_Rooms_size_of, dd_Rooms_place_of, dd_Rooms_word_at, dd_told_right, dd_Rooms_put_at, dd_is_number, dd_Rooms_need_made, dd_Rooms_places_of, dd_law]
abbrev fa_ : List Fa := [.free "list", .free "enumerate", .glo "_law_draws", .free "isinstance", .free "int", .free "bool", .glo "is_whole", .int "MOST_OF_ALL" 1000, .cls "Rooms", .noat "Rooms" q_most_here, .noat "Rooms" q_all_owners, .noat "Rooms" q_all_places, .noat "Rooms" q_touched, .mkr "Rooms", .glo "Rooms", .free "len", .glo "_law_take", .glo "number_of", .int "MOST_SIZE" 64, .glo "ZERO", .meth "Rooms" "make_room", .free "range", .meth "Rooms" "need_there", .meth "Rooms" "part_of", .glo "_law_parts", .free "tuple", .meth "Rooms" "touches", .meth "Rooms" "size_of", .meth "Rooms" "place_of", .meth "Rooms" "word_at", .free "repr", .glo "_law_told_right", .meth "Rooms" "put_at", .glo "is_number", .meth "Rooms" "need_made", .meth "Rooms" "places_of", .glo "law"]
def ex_ (K : PySem.W.Frag) : Bool := tupB K "ZERO" [.str "num", .int 0] && (true)
abbrev Tt (K : PySem.W.Frag) (mg : Str → Option Value) : Prop := Tp fa_ fn_ ex_ K mg
theorem tup_ZERO {K : PySem.W.Frag} {mg : Str → Option Value} (T : Tt K mg) : tupB K "ZERO" [.str "num", .int 0] = true := (ba T.c.e).1
def cA_ (K : PySem.W.Frag) : Nat → Addr := fun c => match c with | 0 => ga K "Rooms" | _ => 0
abbrev Gk (K : PySem.W.Frag) : Gm := ⟨K, cA_ K, fun _ => 0⟩
section
variable {P : Program} {w : World} {K : PySem.W.Frag} {mg : Str → Option Value} {base : Heap}
theorem form_draws_1 {K : PySem.W.Frag} : Form K (Gk K) dd_draws ["_law_script"] 1 [] (fun ds _ => ds) := form_pos (ps := ["_law_script"]) rfl fun _ _ _ _ _ _ us hl => match us, hl with | [_], _ => rfl
theorem form_is_whole_1_most {K : PySem.W.Frag} : Form K (Gk K) dd_is_whole ["thing", "least", "most"] 1 ["most"] (fun ds es => ds ++ (([.int 0].drop 0).take 1 ++ ((es.drop 0).take 1))) := by
  refine form_kw0 (fun us mv ws => us ++ ((mv.drop 0).take 1 ++ ((ws.drop 0).take 1))) [("least", .int 0)] [.int 0] rfl (by exact fun z => nomatch z) [0] rfl (fun _ _ => .cons (.int 0) (.nil)) (fun r1 r2 r3 => r1.append (((r2.drop 0).take 1).append ((r3.drop 0).take 1))) (fun r1 r2 r3 => r1.append (((r2.drop 0).take 1).append ((r3.drop 0).take 1))) (fun ds es h1 h2 => ?_) fun A _ _ _ _ _ us mv ws h1 h2 h3 => ?_
  · exact match ds, es, h1, h2 with | [_], [_], _, _ => rfl
  · exact match us, mv, ws, h1, h2, h3 with | [_], [_], [_], _, _, _ => ⟨_, _, _, _, _, _, rfl, rfl, rfl⟩
theorem form_Rooms_init_1_most {K : PySem.W.Frag} : Form K (Gk K) dd_Rooms_init ["self", "most"] 1 ["most"] (fun ds es => ds ++ ((es.drop 0).take 1)) := by
  refine form_kw0 (fun us mv ws => us ++ ((ws.drop 0).take 1)) [] [] rfl (by exact fun z => nomatch z) [] rfl (fun _ _ => .nil) (fun r1 r2 r3 => r1.append ((r3.drop 0).take 1)) (fun r1 r2 r3 => r1.append ((r3.drop 0).take 1)) (fun ds es h1 h2 => ?_) fun A _ _ _ _ _ us mv ws h1 h2 h3 => ?_
  · exact match ds, es, h1, h2 with | [_], [_], _, _ => rfl
  · exact match us, mv, ws, h1, h2, h3 with | [_], [], [_], _, _, _ => rfl
theorem form_take_2 {K : PySem.W.Frag} : Form K (Gk K) dd_take ["_law_draw", "_law_many"] 2 [] (fun ds _ => ds) := form_pos (ps := ["_law_draw", "_law_many"]) rfl fun _ _ _ _ _ _ us hl => match us, hl with | [_, _], _ => rfl
theorem form_number_of_1 {K : PySem.W.Frag} : Form K (Gk K) dd_number_of ["word"] 1 [] (fun ds _ => ds) := form_pos (ps := ["word"]) rfl fun _ _ _ _ _ _ us hl => match us, hl with | [_], _ => rfl
theorem form_Rooms_make_room_3 {K : PySem.W.Frag} : Form K (Gk K) dd_Rooms_make_room ["self", "many", "owner"] 3 [] (fun ds _ => ds) := form_pos (ps := ["self", "many", "owner"]) rfl fun _ _ _ _ _ _ us hl => match us, hl with | [_, _, _], _ => rfl
theorem form_Rooms_need_there_2 {K : PySem.W.Frag} : Form K (Gk K) dd_Rooms_need_there ["self", "word"] 2 [] (fun ds _ => ds) := form_pos (ps := ["self", "word"]) rfl fun _ _ _ _ _ _ us hl => match us, hl with | [_, _], _ => rfl
theorem form_Rooms_part_of_4 {K : PySem.W.Frag} : Form K (Gk K) dd_Rooms_part_of ["self", "word", "start", "many"] 4 [] (fun ds _ => ds) := form_pos (ps := ["self", "word", "start", "many"]) rfl fun _ _ _ _ _ _ us hl => match us, hl with | [_, _, _, _], _ => rfl
theorem form_parts_3 {K : PySem.W.Frag} : Form K (Gk K) dd_parts ["_law_draw", "_law_rooms", "_law_size"] 3 [] (fun ds _ => ds) := form_pos (ps := ["_law_draw", "_law_rooms", "_law_size"]) rfl fun _ _ _ _ _ _ us hl => match us, hl with | [_, _, _], _ => rfl
theorem form_Rooms_touches_1 {K : PySem.W.Frag} : Form K (Gk K) dd_Rooms_touches ["self"] 1 [] (fun ds _ => ds) := form_pos (ps := ["self"]) rfl fun _ _ _ _ _ _ us hl => match us, hl with | [_], _ => rfl
theorem form_Rooms_size_of_2 {K : PySem.W.Frag} : Form K (Gk K) dd_Rooms_size_of ["self", "word"] 2 [] (fun ds _ => ds) := form_pos (ps := ["self", "word"]) rfl fun _ _ _ _ _ _ us hl => match us, hl with | [_, _], _ => rfl
theorem form_Rooms_place_of_3 {K : PySem.W.Frag} : Form K (Gk K) dd_Rooms_place_of ["self", "word", "at"] 3 [] (fun ds _ => ds) := form_pos (ps := ["self", "word", "at"]) rfl fun _ _ _ _ _ _ us hl => match us, hl with | [_, _, _], _ => rfl
theorem form_Rooms_word_at_3 {K : PySem.W.Frag} : Form K (Gk K) dd_Rooms_word_at ["self", "word", "at"] 3 [] (fun ds _ => ds) := form_pos (ps := ["self", "word", "at"]) rfl fun _ _ _ _ _ _ us hl => match us, hl with | [_, _, _], _ => rfl
theorem form_told_right_3 {K : PySem.W.Frag} : Form K (Gk K) dd_told_right ["_law_rooms", "_law_parts_here", "_law_due"] 3 [] (fun ds _ => ds) := form_pos (ps := ["_law_rooms", "_law_parts_here", "_law_due"]) rfl fun _ _ _ _ _ _ us hl => match us, hl with | [_, _, _], _ => rfl
theorem form_Rooms_put_at_4 {K : PySem.W.Frag} : Form K (Gk K) dd_Rooms_put_at ["self", "word", "at", "other"] 4 [] (fun ds _ => ds) := form_pos (ps := ["self", "word", "at", "other"]) rfl fun _ _ _ _ _ _ us hl => match us, hl with | [_, _, _, _], _ => rfl
theorem form_is_number_1 {K : PySem.W.Frag} : Form K (Gk K) dd_is_number ["thing"] 1 [] (fun ds _ => ds) := form_pos (ps := ["thing"]) rfl fun _ _ _ _ _ _ us hl => match us, hl with | [_], _ => rfl
theorem form_Rooms_need_made_2 {K : PySem.W.Frag} : Form K (Gk K) dd_Rooms_need_made ["self", "number"] 2 [] (fun ds _ => ds) := form_pos (ps := ["self", "number"]) rfl fun _ _ _ _ _ _ us hl => match us, hl with | [_, _], _ => rfl
theorem form_Rooms_places_of_2 {K : PySem.W.Frag} : Form K (Gk K) dd_Rooms_places_of ["self", "number"] 2 [] (fun ds _ => ds) := form_pos (ps := ["self", "number"]) rfl fun _ _ _ _ _ _ us hl => match us, hl with | [_, _], _ => rfl
theorem sc_draws : FnScope ["_law_script", "_law_cells", "_law_found", "_law_k", "_law_cell"] ["_law_script"] (defScope s_draws) := ⟨rfl, rfl, rfl, by decide +kernel, rfl, by decide +kernel, by decide +kernel⟩
theorem ok_draws (T : Tt K mg) : OkD P w K mg base 1 dd_draws ["_law_script"] f_draws (Gk K) := okD_of (N := ["_law_script", "_law_cells", "_law_found", "_law_k", "_law_cell"]) (ps := ["_law_script"]) (m := b_draws) (d := dd_draws) (G := Gk K) T 0 sc_draws fun cdv A outer s H E rg =>
   (ms_cons (ms_set 1 sc_draws.nd rfl (Or.inl rfl) (me_if (mt_cmp (op_neU rg.r.units) os_ne (me_var 0) (me_lst (ma_nil))) (me_bty call_list_of bs_list rfl (T.free 0) rfl (ma_cons (me_var 0) (ma_nil))) (me_lst (ma_cons (me_int) (ma_nil)))))
    (ms_cons (ms_set 2 sc_draws.nd rfl (Or.inl rfl) (me_lst (ma_nil)))
    (ms_cons (ms_for hp_of rfl (mi_enum rfl rfl (T.free 1) (ma_cons (me_sl rfl (me_var 1) mo_none (mo_some (me_int))) ma_nil)) (mg_tup rfl rfl (mgs_cons (mg_name (i := 3) sc_draws.nd rfl (Or.inl rfl)) (mgs_cons (mg_name (i := 4) sc_draws.nd rfl (Or.inl rfl)) (mgs_nil)))) (ms_one (ms_expr (me_bm rfl PySem.F.plainAttrs_list PySem.F.slot_list_append PySem.F.type_list_append mt_append bs_append (.inl rfl) (me_var 2) (ma_cons (me_dict (mp_cons (me_str) (me_op op_addU os_add (me_sl rfl (me_var 1) (mo_some (me_var 3)) mo_none) (me_sl rfl (me_var 1) mo_none (mo_some (me_var 3)))) (mp_cons (me_str) (me_op op_mulU os_mul (me_int) (me_var 3)) (mp_cons (me_str) (me_if (mt_cmp op_ge os_cmp (me_var 4) (me_op op_pow os_pow (me_int) (me_int))) (me_var 4) (me_int)) (mp_nil))))) (ma_nil))))))
    (ms_one (ms_ret (me_var 2))))))
theorem sc_is_whole : FnScope ["thing", "least", "most"] ["thing", "least", "most"] (defScope s_is_whole) := ⟨rfl, rfl, rfl, by decide +kernel, rfl, by decide +kernel, by decide +kernel⟩
theorem ok_is_whole (T : Tt K mg) : OkD P w K mg base 1 dd_is_whole ["thing", "least", "most"] f_is_whole (Gk K) := okD_of (N := ["thing", "least", "most"]) (ps := ["thing", "least", "most"]) (m := b_is_whole) (d := dd_is_whole) (G := Gk K) T 1 sc_is_whole fun cdv A outer s H E rg =>
   (ms_one (ms_ret (me_and (me_bi L2.call_isi (bs_isi (by decide)) rfl (T.free 3) rfl (ma_cons (me_var 0) (ma_cons (me_ty rfl (T.free 4) rfl) ma_nil))) (me_and (me_not (me_bi L2.call_isi (bs_isi (by decide)) rfl (T.free 3) rfl (ma_cons (me_var 0) (ma_cons (me_ty rfl (T.free 5) rfl) ma_nil)))) (me_one (me_chain op_le op_le os_cmp os_cmp (me_var 1) (me_var 0) (me_var 2)))))))
theorem sc_Rooms_init : FnScope ["self", "most"] ["self", "most"] (defScope s_Rooms_init) := ⟨rfl, rfl, rfl, by decide +kernel, rfl, by decide +kernel, by decide +kernel⟩
theorem ok_Rooms_init (T : Tt K mg) : OkD P w K mg base 2 dd_Rooms_init ["self", "most"] f_Rooms_init (Gk K) := okD_of (N := ["self", "most"]) (ps := ["self", "most"]) (m := b_Rooms_init) (d := dd_Rooms_init) (G := Gk K) T 2 sc_Rooms_init fun cdv A outer s H E rg =>
   (ms_cons (ms_if (mt_not (mt_val (me_callK (OkD.calls (ok_is_whole T) form_is_whole_1_most hx_of rg) rfl (T.glo 6) (T.kp 1) (ma_cons (me_var 1) (ma_nil)) (mk_cons (me_gint T 7 rfl) (mk_nil))))) (ms_one (ms_never)) (ms_nil))
    (ms_cons (ms_fld rfl (hC_cons (T.cls 8) (T.noat 9) hC_nil) (by decide +kernel) (me_var 0) (me_var 1))
    (ms_one (ms_asg (me_tup (ma_cons (me_lst (ma_nil)) (ma_cons (me_lst (ma_nil)) (ma_cons (me_lst (ma_nil)) (ma_nil))))) (mg_tup rfl rfl (mgs_cons (mg_fld rfl (hC_cons (T.cls 8) (T.noat 10) hC_nil) (by decide +kernel) (me_var 0)) (mgs_cons (mg_fld rfl (hC_cons (T.cls 8) (T.noat 11) hC_nil) (by decide +kernel) (me_var 0)) (mgs_cons (mg_fld rfl (hC_cons (T.cls 8) (T.noat 12) hC_nil) (by decide +kernel) (me_var 0)) (mgs_nil)))))))))
theorem sc_take : FnScope ["_law_draw", "_law_many", "_law_added", "_law_number", "_law_found", "_law_at", "_law_cells"] ["_law_draw", "_law_many"] (defScope s_take) := ⟨rfl, rfl, rfl, by decide +kernel, rfl, by decide +kernel, by decide +kernel⟩
theorem ok_take (T : Tt K mg) : OkD P w K mg base 1 dd_take ["_law_draw", "_law_many"] f_take (Gk K) := okD_of (N := ["_law_draw", "_law_many", "_law_added", "_law_number", "_law_found", "_law_at", "_law_cells"]) (ps := ["_law_draw", "_law_many"]) (m := b_take) (d := dd_take) (G := Gk K) T 3 sc_take fun cdv A outer s H E rg =>
   (ms_cons (ms_dput (hu_of rg.r) (me_var 0) (me_str) (me_op op_addU os_add (me_dget (hu_of rg.r) (me_var 0) (me_str)) (me_int)))
    (ms_cons (ms_if (mt_cmp op_gt os_cmp (me_dget (hu_of rg.r) (me_var 0) (me_str)) (me_int)) (ms_cons (ms_set 4 sc_take.nd rfl (Or.inl rfl) (me_op op_mod os_mod (me_dget (hu_of rg.r) (me_var 0) (me_str)) (me_var 1)))
    (ms_cons (ms_dput (hu_of rg.r) (me_var 0) (me_str) (me_op op_fdiv os_fdiv (me_dget (hu_of rg.r) (me_var 0) (me_str)) (me_var 1)))
    (ms_one (ms_ret (me_var 4))))) (ms_nil))
    (ms_cons (ms_par (i := 5) (j := 6) rfl sc_take.nd rfl rfl (by decide) rfl rfl (ma_cons (me_dget (hu_of rg.r) (me_var 0) (me_str)) (ma_cons (me_dget (hu_of rg.r) (me_var 0) (me_str)) (ma_nil))))
    (ms_cons (ms_set 2 sc_take.nd rfl (Or.inl rfl) (me_op op_addU os_add (me_op op_addU os_add (me_op op_mulU os_mul (me_op op_mulU os_mul (me_int) (me_var 5)) (me_var 5)) (me_op op_mulU os_mul (me_int) (me_var 5))) (me_int)))
    (ms_cons (ms_set 3 sc_take.nd rfl (Or.inl rfl) (me_op op_addU os_add (me_op op_mod os_mod (me_ix rfl (me_var 6) (me_op op_mod os_mod (me_var 5) (me_bi cl_len bs_len rfl (T.free 15) rfl (ma_cons (me_var 6) (ma_nil))))) (me_int)) (me_var 2)))
    (ms_cons (ms_set 3 sc_take.nd rfl (Or.inl rfl) (me_op op_mod os_mod (me_op op_pow os_pow (me_var 3) (me_int)) (me_int)))
    (ms_one (ms_ret (me_op op_mod os_mod (me_op op_fdiv os_fdiv (me_op op_mod os_mod (me_op op_mulU os_mul (me_var 3) (me_int)) (me_int)) (me_int)) (me_var 1))))))))))
theorem sc_number_of : FnScope ["word"] ["word"] (defScope s_number_of) := ⟨rfl, rfl, rfl, by decide +kernel, rfl, by decide +kernel, by decide +kernel⟩
theorem ok_number_of (T : Tt K mg) : OkD P w K mg base 1 dd_number_of ["word"] f_number_of (Gk K) := okD_of (N := ["word"]) (ps := ["word"]) (m := b_number_of) (d := dd_number_of) (G := Gk K) T 4 sc_number_of fun cdv A outer s H E rg =>
   (ms_cons (ms_if (mt_cmp (op_neU rg.r.units) os_ne (me_ix rfl (me_var 0) (me_int)) (me_str)) (ms_one (ms_never)) (ms_nil))
    (ms_one (ms_ret (me_ix rfl (me_var 0) (me_int)))))
theorem sc_Rooms_make_room : FnScope ["self", "many", "owner", "size", "number"] ["self", "many", "owner"] (defScope s_Rooms_make_room) := ⟨rfl, rfl, rfl, by decide +kernel, rfl, by decide +kernel, by decide +kernel⟩
theorem ok_Rooms_make_room (T : Tt K mg) : OkD P w K mg base 2 dd_Rooms_make_room ["self", "many", "owner"] f_Rooms_make_room (Gk K) := okD_of (N := ["self", "many", "owner", "size", "number"]) (ps := ["self", "many", "owner"]) (m := b_Rooms_make_room) (d := dd_Rooms_make_room) (G := Gk K) T 5 sc_Rooms_make_room fun cdv A outer s H E rg =>
   (ms_cons (ms_set 3 sc_Rooms_make_room.nd rfl (Or.inl rfl) (me_call (OkD.calls (ok_number_of T) form_number_of_1 hx_of rg) rfl (T.glo 17) (T.kp 4) (ma_cons (me_var 1) (ma_nil))))
    (ms_cons (ms_if (mt_not (mt_chain op_le op_le os_cmp os_cmp (me_int) (me_var 3) (me_gint T 18 rfl))) (ms_one (ms_never)) (ms_nil))
    (ms_cons (ms_set 4 sc_Rooms_make_room.nd rfl (Or.inl rfl) (me_bi cl_len bs_len rfl (T.free 15) rfl (ma_cons (me_fld rfl (hC_cons (T.cls 8) (T.noat 10) hC_nil) (by decide +kernel) (me_var 0)) (ma_nil))))
    (ms_cons (ms_if (mt_cmp op_ge os_cmp (me_var 4) (me_fld rfl (hC_cons (T.cls 8) (T.noat 9) hC_nil) (by decide +kernel) (me_var 0))) (ms_one (ms_never)) (ms_nil))
    (ms_cons (ms_expr (me_bm rfl PySem.F.plainAttrs_list PySem.F.slot_list_append PySem.F.type_list_append mt_append bs_append (.inl rfl) (me_fld rfl (hC_cons (T.cls 8) (T.noat 10) hC_nil) (by decide +kernel) (me_var 0)) (ma_cons (me_var 2) (ma_nil))))
    (ms_cons (ms_expr (me_bm rfl PySem.F.plainAttrs_list PySem.F.slot_list_append PySem.F.type_list_append mt_append bs_append (.inl rfl) (me_fld rfl (hC_cons (T.cls 8) (T.noat 11) hC_nil) (by decide +kernel) (me_var 0)) (ma_cons (me_op op_mulU os_mul (me_lst (ma_cons (me_gtup T 19 rfl rfl (tup_ZERO T) (fun _ _ => .cons (.str _) (.cons (.int 0) (.nil)))) (ma_nil))) (me_var 3)) (ma_nil))))
    (ms_cons (ms_expr (me_bm rfl PySem.F.plainAttrs_list PySem.F.slot_list_append PySem.F.type_list_append mt_append bs_append (.inl rfl) (me_fld rfl (hC_cons (T.cls 8) (T.noat 12) hC_nil) (by decide +kernel) (me_var 0)) (ma_cons (me_var 4) (ma_nil))))
    (ms_one (ms_ret (me_tup (ma_cons (me_str) (ma_cons (me_var 4) (ma_cons (me_int) (ma_cons (me_var 3) (ma_nil)))))))))))))))
theorem sc_Rooms_need_there : FnScope ["self", "word", "kind", "number", "start", "size"] ["self", "word"] (defScope s_Rooms_need_there) := ⟨rfl, rfl, rfl, by decide +kernel, rfl, by decide +kernel, by decide +kernel⟩
theorem ok_Rooms_need_there (T : Tt K mg) : OkD P w K mg base 1 dd_Rooms_need_there ["self", "word"] f_Rooms_need_there (Gk K) := okD_of (N := ["self", "word", "kind", "number", "start", "size"]) (ps := ["self", "word"]) (m := b_Rooms_need_there) (d := dd_Rooms_need_there) (G := Gk K) T 6 sc_Rooms_need_there fun cdv A outer s H E rg =>
   (ms_cons (ms_asg (me_var 1) (mg_tup rfl rfl (mgs_cons (mg_name (i := 2) sc_Rooms_need_there.nd rfl (Or.inl rfl)) (mgs_cons (mg_name (i := 3) sc_Rooms_need_there.nd rfl (Or.inl rfl)) (mgs_cons (mg_name (i := 4) sc_Rooms_need_there.nd rfl (Or.inl rfl)) (mgs_cons (mg_name (i := 5) sc_Rooms_need_there.nd rfl (Or.inl rfl)) (mgs_nil)))))))
    (ms_cons (ms_if (PW.pt (mw_or (mt_cmp op_ge os_cmp (me_var 3) (me_bi cl_len bs_len rfl (T.free 15) rfl (ma_cons (me_fld rfl (hC_cons (T.cls 8) (T.noat 11) hC_nil) (by decide +kernel) (me_var 0)) (ma_nil)))) (mw_or1 (mt_isN (me_ix rfl (me_fld rfl (hC_cons (T.cls 8) (T.noat 11) hC_nil) (by decide +kernel) (me_var 0)) (me_var 3)))))) (ms_one (ms_never)) (ms_nil))
    (ms_one (ms_if (mt_cmp op_gt os_cmp (me_op op_addU os_add (me_var 4) (me_var 5)) (me_bi cl_len bs_len rfl (T.free 15) rfl (ma_cons (me_ix rfl (me_fld rfl (hC_cons (T.cls 8) (T.noat 11) hC_nil) (by decide +kernel) (me_var 0)) (me_var 3)) (ma_nil)))) (ms_one (ms_never)) (ms_nil)))))
theorem sc_Rooms_part_of : FnScope ["self", "word", "start", "many", "first", "size"] ["self", "word", "start", "many"] (defScope s_Rooms_part_of) := ⟨rfl, rfl, rfl, by decide +kernel, rfl, by decide +kernel, by decide +kernel⟩
theorem ok_Rooms_part_of (T : Tt K mg) : OkD P w K mg base 2 dd_Rooms_part_of ["self", "word", "start", "many"] f_Rooms_part_of (Gk K) := okD_of (N := ["self", "word", "start", "many", "first", "size"]) (ps := ["self", "word", "start", "many"]) (m := b_Rooms_part_of) (d := dd_Rooms_part_of) (G := Gk K) T 7 sc_Rooms_part_of fun cdv A outer s H E rg =>
   (ms_cons (ms_if (mt_cmp (op_neU rg.r.units) os_ne (me_ix rfl (me_var 1) (me_int)) (me_str)) (ms_one (ms_never)) (ms_nil))
    (ms_cons (ms_par (i := 4) (j := 5) rfl sc_Rooms_part_of.nd rfl rfl (by decide) rfl rfl (ma_cons (me_call (OkD.calls (ok_number_of T) form_number_of_1 hx_of rg) rfl (T.glo 17) (T.kp 4) (ma_cons (me_var 2) (ma_nil))) (ma_cons (me_call (OkD.calls (ok_number_of T) form_number_of_1 hx_of rg) rfl (T.glo 17) (T.kp 4) (ma_cons (me_var 3) (ma_nil))) (ma_nil))))
    (ms_cons (ms_expr (me_meth (by decide +kernel) (meths_cons (T.cls 8) (T.meth 22) (OkD.calls (ok_Rooms_need_there T) form_Rooms_need_there_2 hx_of rg) meths_nil) (me_var 0) (ma_cons (me_var 1) (ma_nil))))
    (ms_cons (ms_if (PW.pt (mw_or (mt_cmp op_lt os_cmp (me_var 4) (me_int)) (mw_or (mt_cmp op_lt os_cmp (me_var 5) (me_int)) (mw_or1 (mt_cmp op_gt os_cmp (me_op op_addU os_add (me_var 4) (me_var 5)) (me_ix rfl (me_var 1) (me_int))))))) (ms_one (ms_never)) (ms_nil))
    (ms_one (ms_ret (me_tup (ma_cons (me_str) (ma_cons (me_ix rfl (me_var 1) (me_int)) (ma_cons (me_op op_addU os_add (me_ix rfl (me_var 1) (me_int)) (me_var 4)) (ma_cons (me_var 5) (ma_nil))))))))))))
theorem sc_parts : FnScope ["_law_draw", "_law_rooms", "_law_size", "_law_whole", "_law_found", "_law_turn", "_law_step", "_law_less", "_law_word", "_law_first", "_law_many"] ["_law_draw", "_law_rooms", "_law_size"] (defScope s_parts) := ⟨rfl, rfl, rfl, by decide +kernel, rfl, by decide +kernel, by decide +kernel⟩
theorem ok_parts (T : Tt K mg) : OkD P w K mg base 3 dd_parts ["_law_draw", "_law_rooms", "_law_size"] f_parts (Gk K) := okD_of (N := ["_law_draw", "_law_rooms", "_law_size", "_law_whole", "_law_found", "_law_turn", "_law_step", "_law_less", "_law_word", "_law_first", "_law_many"]) (ps := ["_law_draw", "_law_rooms", "_law_size"]) (m := b_parts) (d := dd_parts) (G := Gk K) T 8 sc_parts fun cdv A outer s H E rg =>
   (ms_cons (ms_set 3 sc_parts.nd rfl (Or.inl rfl) (me_meth (by decide +kernel) (meths_cons (T.cls 8) (T.meth 20) (OkD.calls (ok_Rooms_make_room T) form_Rooms_make_room_3 hx_of rg) meths_nil) (me_var 1) (ma_cons (me_tup (ma_cons (me_str) (ma_cons (me_var 2) (ma_nil)))) (ma_cons (me_int) (ma_nil)))))
    (ms_cons (ms_set 4 sc_parts.nd rfl (Or.inl rfl) (me_lst (ma_cons (me_tup (ma_cons (me_var 3) (ma_cons (me_int) (ma_cons (me_var 2) (ma_nil))))) (ma_nil))))
    (ms_cons (ms_for hp_of rfl (mi_rng1 (h1 := aLen1) rfl (T.free 21) (ma_cons (me_call (OkD.calls (ok_take T) form_take_2 hx_of rg) rfl (T.glo 16) (T.kp 3) (ma_cons (me_var 0) (ma_cons (me_int) (ma_nil)))) (ma_nil))) (mg_name (i := 5) sc_parts.nd rfl (Or.inl rfl)) (ms_cons (ms_asg (me_ix rfl (me_var 4) (me_call (OkD.calls (ok_take T) form_take_2 hx_of rg) rfl (T.glo 16) (T.kp 3) (ma_cons (me_var 0) (ma_cons (me_bi cl_len bs_len rfl (T.free 15) rfl (ma_cons (me_var 4) (ma_nil))) (ma_nil))))) (mg_tup rfl rfl (mgs_cons (mg_name (i := 8) sc_parts.nd rfl (Or.inl rfl)) (mgs_cons (mg_name (i := 9) sc_parts.nd rfl (Or.inl rfl)) (mgs_cons (mg_name (i := 10) sc_parts.nd rfl (Or.inl rfl)) (mgs_nil))))))
    (ms_cons (ms_set 6 sc_parts.nd rfl (Or.inl rfl) (me_call (OkD.calls (ok_take T) form_take_2 hx_of rg) rfl (T.glo 16) (T.kp 3) (ma_cons (me_var 0) (ma_cons (me_op op_addU os_add (me_var 10) (me_int)) (ma_nil)))))
    (ms_cons (ms_set 7 sc_parts.nd rfl (Or.inl rfl) (me_ix rfl (me_lst (ma_cons (me_op op_sub os_sub (me_var 10) (me_var 6)) (ma_cons (me_call (OkD.calls (ok_take T) form_take_2 hx_of rg) rfl (T.glo 16) (T.kp 3) (ma_cons (me_var 0) (ma_cons (me_op op_addU os_add (me_op op_sub os_sub (me_var 10) (me_var 6)) (me_int)) (ma_nil)))) (ma_cons (me_int) (ma_nil))))) (me_call (OkD.calls (ok_take T) form_take_2 hx_of rg) rfl (T.glo 16) (T.kp 3) (ma_cons (me_var 0) (ma_cons (me_int) (ma_nil))))))
    (ms_one (ms_expr (me_bm rfl PySem.F.plainAttrs_list PySem.F.slot_list_append PySem.F.type_list_append mt_append bs_append (.inl rfl) (me_var 4) (ma_cons (me_tup (ma_cons (me_meth (by decide +kernel) (meths_cons (T.cls 8) (T.meth 23) (OkD.calls (ok_Rooms_part_of T) form_Rooms_part_of_4 hx_of rg) meths_nil) (me_var 1) (ma_cons (me_var 8) (ma_cons (me_tup (ma_cons (me_str) (ma_cons (me_var 6) (ma_nil)))) (ma_cons (me_tup (ma_cons (me_str) (ma_cons (me_var 7) (ma_nil)))) (ma_nil))))) (ma_cons (me_op op_addU os_add (me_var 9) (me_var 6)) (ma_cons (me_var 7) (ma_nil))))) (ma_nil)))))))))
    (ms_one (ms_ret (me_var 4))))))
theorem sc_Rooms_touches : FnScope ["self"] ["self"] (defScope s_Rooms_touches) := ⟨rfl, rfl, rfl, by decide +kernel, rfl, by decide +kernel, by decide +kernel⟩
theorem ok_Rooms_touches (T : Tt K mg) : OkD P w K mg base 1 dd_Rooms_touches ["self"] f_Rooms_touches (Gk K) := okD_of (N := ["self"]) (ps := ["self"]) (m := b_Rooms_touches) (d := dd_Rooms_touches) (G := Gk K) T 9 sc_Rooms_touches fun cdv A outer s H E rg =>
   (ms_one (ms_ret (me_bty call_tuple_of bs_tuple rfl (T.free 25) rfl (ma_cons (me_fld rfl (hC_cons (T.cls 8) (T.noat 12) hC_nil) (by decide +kernel) (me_var 0)) (ma_nil)))))
theorem sc_Rooms_size_of : FnScope ["self", "word"] ["self", "word"] (defScope s_Rooms_size_of) := ⟨rfl, rfl, rfl, by decide +kernel, rfl, by decide +kernel, by decide +kernel⟩
theorem ok_Rooms_size_of (T : Tt K mg) : OkD P w K mg base 2 dd_Rooms_size_of ["self", "word"] f_Rooms_size_of (Gk K) := okD_of (N := ["self", "word"]) (ps := ["self", "word"]) (m := b_Rooms_size_of) (d := dd_Rooms_size_of) (G := Gk K) T 10 sc_Rooms_size_of fun cdv A outer s H E rg =>
   (ms_cons (ms_if (mt_cmp (op_neU rg.r.units) os_ne (me_ix rfl (me_var 1) (me_int)) (me_str)) (ms_one (ms_never)) (ms_nil))
    (ms_cons (ms_expr (me_meth (by decide +kernel) (meths_cons (T.cls 8) (T.meth 22) (OkD.calls (ok_Rooms_need_there T) form_Rooms_need_there_2 hx_of rg) meths_nil) (me_var 0) (ma_cons (me_var 1) (ma_nil))))
    (ms_one (ms_ret (me_tup (ma_cons (me_str) (ma_cons (me_ix rfl (me_var 1) (me_int)) (ma_nil))))))))
theorem sc_Rooms_place_of : FnScope ["self", "word", "at", "step"] ["self", "word", "at"] (defScope s_Rooms_place_of) := ⟨rfl, rfl, rfl, by decide +kernel, rfl, by decide +kernel, by decide +kernel⟩
theorem ok_Rooms_place_of (T : Tt K mg) : OkD P w K mg base 2 dd_Rooms_place_of ["self", "word", "at"] f_Rooms_place_of (Gk K) := okD_of (N := ["self", "word", "at", "step"]) (ps := ["self", "word", "at"]) (m := b_Rooms_place_of) (d := dd_Rooms_place_of) (G := Gk K) T 11 sc_Rooms_place_of fun cdv A outer s H E rg =>
   (ms_cons (ms_if (mt_cmp (op_neU rg.r.units) os_ne (me_ix rfl (me_var 1) (me_int)) (me_str)) (ms_one (ms_never)) (ms_nil))
    (ms_cons (ms_set 3 sc_Rooms_place_of.nd rfl (Or.inl rfl) (me_call (OkD.calls (ok_number_of T) form_number_of_1 hx_of rg) rfl (T.glo 17) (T.kp 4) (ma_cons (me_var 2) (ma_nil))))
    (ms_cons (ms_expr (me_meth (by decide +kernel) (meths_cons (T.cls 8) (T.meth 22) (OkD.calls (ok_Rooms_need_there T) form_Rooms_need_there_2 hx_of rg) meths_nil) (me_var 0) (ma_cons (me_var 1) (ma_nil))))
    (ms_cons (ms_if (mt_not (mt_chain op_le op_lt os_cmp os_cmp (me_int) (me_var 3) (me_ix rfl (me_var 1) (me_int)))) (ms_one (ms_never)) (ms_nil))
    (ms_one (ms_ret (me_op op_addU os_add (me_ix rfl (me_var 1) (me_int)) (me_var 3))))))))
theorem sc_Rooms_word_at : FnScope ["self", "word", "at", "place"] ["self", "word", "at"] (defScope s_Rooms_word_at) := ⟨rfl, rfl, rfl, by decide +kernel, rfl, by decide +kernel, by decide +kernel⟩
theorem ok_Rooms_word_at (T : Tt K mg) : OkD P w K mg base 3 dd_Rooms_word_at ["self", "word", "at"] f_Rooms_word_at (Gk K) := okD_of (N := ["self", "word", "at", "place"]) (ps := ["self", "word", "at"]) (m := b_Rooms_word_at) (d := dd_Rooms_word_at) (G := Gk K) T 12 sc_Rooms_word_at fun cdv A outer s H E rg =>
   (ms_cons (ms_set 3 sc_Rooms_word_at.nd rfl (Or.inl rfl) (me_meth (by decide +kernel) (meths_cons (T.cls 8) (T.meth 28) (OkD.calls (ok_Rooms_place_of T) form_Rooms_place_of_3 hx_of rg) meths_nil) (me_var 0) (ma_cons (me_var 1) (ma_cons (me_var 2) (ma_nil)))))
    (ms_cons (ms_expr (me_bm rfl PySem.F.plainAttrs_list PySem.F.slot_list_append PySem.F.type_list_append mt_append bs_append (.inl rfl) (me_fld rfl (hC_cons (T.cls 8) (T.noat 12) hC_nil) (by decide +kernel) (me_var 0)) (ma_cons (me_ix rfl (me_var 1) (me_int)) (ma_nil))))
    (ms_one (ms_ret (me_ix rfl (me_ix rfl (me_fld rfl (hC_cons (T.cls 8) (T.noat 11) hC_nil) (by decide +kernel) (me_var 0)) (me_ix rfl (me_var 1) (me_int))) (me_var 3))))))
theorem sc_told_right : FnScope ["_law_rooms", "_law_parts_here", "_law_due", "_law_word", "_law_first", "_law_many", "_law_told", "_law_k"] ["_law_rooms", "_law_parts_here", "_law_due"] (defScope s_told_right) := ⟨rfl, rfl, rfl, by decide +kernel, rfl, by decide +kernel, by decide +kernel⟩
theorem ok_told_right (T : Tt K mg) : OkD P w K mg base 4 dd_told_right ["_law_rooms", "_law_parts_here", "_law_due"] f_told_right (Gk K) := okD_of (N := ["_law_rooms", "_law_parts_here", "_law_due", "_law_word", "_law_first", "_law_many", "_law_told", "_law_k"]) (ps := ["_law_rooms", "_law_parts_here", "_law_due"]) (m := b_told_right) (d := dd_told_right) (G := Gk K) T 13 sc_told_right fun cdv A outer s H E rg =>
   (ms_cons (ms_for hp_of rfl (mi_seq rfl (me_var 1)) (mg_tup rfl rfl (mgs_cons (mg_name (i := 3) sc_told_right.nd rfl (Or.inr rfl)) (mgs_cons (mg_name (i := 4) sc_told_right.nd rfl (Or.inl rfl)) (mgs_cons (mg_name (i := 5) sc_told_right.nd rfl (Or.inl rfl)) (mgs_nil))))) (ms_cons (ms_if (mt_cmp (op_neU rg.r.units) os_ne (me_meth (by decide +kernel) (meths_cons (T.cls 8) (T.meth 27) (OkD.calls (ok_Rooms_size_of T) form_Rooms_size_of_2 hx_of rg) meths_nil) (me_var 0) (ma_cons (me_var 3) (ma_nil))) (me_tup (ma_cons (me_str) (ma_cons (me_var 5) (ma_nil))))) (ms_one (ms_ret (me_bl))) (ms_nil))
    (ms_cons (ms_setComp 6 (own := [("_law_k", 7)]) (one := true) (is := [7]) rfl sc_told_right.nd rfl rfl (sw_true rfl rfl rfl (by decide +kernel)) (mi_rng1 (h1 := aLen1) rfl (T.free 21) (ma_cons (me_var 5) (ma_nil))) (blkOk_by (N := ["_law_rooms", "_law_parts_here", "_law_due", "_law_word", "_law_first", "_law_many", "_law_told", "_law_k"]) (sc := defScope s_told_right) (by decide +kernel)) (bd_one (by decide)) (fun _ _ _ _ _ => pg_name (i := 7) sc_told_right.nd rfl (Or.inl rfl)) (fun _ _ _ _ _ => mts_nil) (fun _ _ _ _ _ => me_meth (by decide +kernel) (meths_cons (T.cls 8) (T.meth 29) (OkD.calls (ok_Rooms_word_at T) form_Rooms_word_at_3 passL rg) meths_nil) (me_var 0) (ma_cons (me_var 3) (ma_cons (me_tup (ma_cons (me_str) (ma_cons (me_var 7) (ma_nil)))) (ma_nil)))))
    (ms_one (ms_if (mt_cmp (op_neU rg.r.units) os_ne (me_bi (cl_repr rg) bs_repr rfl (T.free 30) rfl (ma_cons (me_var 6) (ma_nil))) (me_bi (cl_repr rg) bs_repr rfl (T.free 30) rfl (ma_cons (me_sl rfl (me_var 2) (mo_some (me_var 4)) (mo_some (me_op op_addU os_add (me_var 4) (me_var 5)))) (ma_nil)))) (ms_one (ms_ret (me_bl))) (ms_nil))))))
    (ms_one (ms_ret (me_bl))))
theorem sc_Rooms_put_at : FnScope ["self", "word", "at", "other", "place"] ["self", "word", "at", "other"] (defScope s_Rooms_put_at) := ⟨rfl, rfl, rfl, by decide +kernel, rfl, by decide +kernel, by decide +kernel⟩
theorem ok_Rooms_put_at (T : Tt K mg) : OkD P w K mg base 3 dd_Rooms_put_at ["self", "word", "at", "other"] f_Rooms_put_at (Gk K) := okD_of (N := ["self", "word", "at", "other", "place"]) (ps := ["self", "word", "at", "other"]) (m := b_Rooms_put_at) (d := dd_Rooms_put_at) (G := Gk K) T 14 sc_Rooms_put_at fun cdv A outer s H E rg =>
   (ms_cons (ms_set 4 sc_Rooms_put_at.nd rfl (Or.inl rfl) (me_meth (by decide +kernel) (meths_cons (T.cls 8) (T.meth 28) (OkD.calls (ok_Rooms_place_of T) form_Rooms_place_of_3 hx_of rg) meths_nil) (me_var 0) (ma_cons (me_var 1) (ma_cons (me_var 2) (ma_nil)))))
    (ms_cons (ms_expr (me_bm rfl PySem.F.plainAttrs_list PySem.F.slot_list_append PySem.F.type_list_append mt_append bs_append (.inl rfl) (me_fld rfl (hC_cons (T.cls 8) (T.noat 12) hC_nil) (by decide +kernel) (me_var 0)) (ma_cons (me_ix rfl (me_var 1) (me_int)) (ma_nil))))
    (ms_one (ms_asg (me_var 3) (mg_ix (me_ix rfl (me_fld rfl (hC_cons (T.cls 8) (T.noat 11) hC_nil) (by decide +kernel) (me_var 0)) (me_ix rfl (me_var 1) (me_int))) (me_var 4))))))
theorem sc_is_number : FnScope ["thing"] ["thing"] (defScope s_is_number) := ⟨rfl, rfl, rfl, by decide +kernel, rfl, by decide +kernel, by decide +kernel⟩
theorem ok_is_number (T : Tt K mg) : OkD P w K mg base 1 dd_is_number ["thing"] f_is_number (Gk K) := okD_of (N := ["thing"]) (ps := ["thing"]) (m := b_is_number) (d := dd_is_number) (G := Gk K) T 15 sc_is_number fun cdv A outer s H E rg =>
   (ms_one (ms_ret (me_and (me_bi L2.call_isi (bs_isi (by decide)) rfl (T.free 3) rfl (ma_cons (me_var 0) (ma_cons (me_ty rfl (T.free 4) rfl) ma_nil))) (me_one (me_not (me_bi L2.call_isi (bs_isi (by decide)) rfl (T.free 3) rfl (ma_cons (me_var 0) (ma_cons (me_ty rfl (T.free 5) rfl) ma_nil))))))))
theorem sc_Rooms_need_made : FnScope ["self", "number"] ["self", "number"] (defScope s_Rooms_need_made) := ⟨rfl, rfl, rfl, by decide +kernel, rfl, by decide +kernel, by decide +kernel⟩
theorem ok_Rooms_need_made (T : Tt K mg) : OkD P w K mg base 2 dd_Rooms_need_made ["self", "number"] f_Rooms_need_made (Gk K) := okD_of (N := ["self", "number"]) (ps := ["self", "number"]) (m := b_Rooms_need_made) (d := dd_Rooms_need_made) (G := Gk K) T 16 sc_Rooms_need_made fun cdv A outer s H E rg =>
   (ms_one (ms_if (PW.pt (mw_or (mt_not (mt_val (me_call (OkD.calls (ok_is_number T) form_is_number_1 hx_of rg) rfl (T.glo 33) (T.kp 15) (ma_cons (me_var 1) (ma_nil))))) (mw_or1 (mt_not (mt_chain op_le op_lt os_cmp os_cmp (me_int) (me_var 1) (me_bi cl_len bs_len rfl (T.free 15) rfl (ma_cons (me_fld rfl (hC_cons (T.cls 8) (T.noat 10) hC_nil) (by decide +kernel) (me_var 0)) (ma_nil)))))))) (ms_one (ms_never)) (ms_nil)))
theorem sc_Rooms_places_of : FnScope ["self", "number", "places"] ["self", "number"] (defScope s_Rooms_places_of) := ⟨rfl, rfl, rfl, by decide +kernel, rfl, by decide +kernel, by decide +kernel⟩
theorem ok_Rooms_places_of (T : Tt K mg) : OkD P w K mg base 3 dd_Rooms_places_of ["self", "number"] f_Rooms_places_of (Gk K) := okD_of (N := ["self", "number", "places"]) (ps := ["self", "number"]) (m := b_Rooms_places_of) (d := dd_Rooms_places_of) (G := Gk K) T 17 sc_Rooms_places_of fun cdv A outer s H E rg =>
   (ms_cons (ms_expr (me_meth (by decide +kernel) (meths_cons (T.cls 8) (T.meth 34) (OkD.calls (ok_Rooms_need_made T) form_Rooms_need_made_2 hx_of rg) meths_nil) (me_var 0) (ma_cons (me_var 1) (ma_nil))))
    (ms_cons (ms_set 2 sc_Rooms_places_of.nd rfl (Or.inl rfl) (me_ix rfl (me_fld rfl (hC_cons (T.cls 8) (T.noat 11) hC_nil) (by decide +kernel) (me_var 0)) (me_var 1)))
    (ms_one (ms_ret (me_if (mt_isN (me_var 2)) (me_lst (ma_nil)) (me_bty call_list_of bs_list rfl (T.free 0) rfl (ma_cons (me_var 2) (ma_nil))))))))
theorem sc_law : FnScope ["_law_script", "_law_draw", "_law_other", "_law_turn", "_law_rooms", "_law_size", "_law_parts_here", "_law_due", "_law_before", "_law_word", "_law_first", "_law_many", "_law_step", "_law_fresh"] ["_law_script"] (defScope s_law) := ⟨rfl, rfl, rfl, by decide +kernel, rfl, by decide +kernel, by decide +kernel⟩
theorem ok_law (T : Tt K mg) : OkD P w K mg base 5 dd_law ["_law_script"] f_law (Gk K) := okD_of (N := ["_law_script", "_law_draw", "_law_other", "_law_turn", "_law_rooms", "_law_size", "_law_parts_here", "_law_due", "_law_before", "_law_word", "_law_first", "_law_many", "_law_step", "_law_fresh"]) (ps := ["_law_script"]) (m := b_law) (d := dd_law) (G := Gk K) T 18 sc_law fun cdv A outer s H E rg =>
   (ms_cons (ms_for hp_of rfl (mi_seq rfl (me_call (OkD.calls (ok_draws T) form_draws_1 hx_of rg) rfl (T.glo 2) (T.kp 0) (ma_cons (me_var 0) (ma_nil)))) (mg_name (i := 1) sc_law.nd rfl (Or.inl rfl)) (ms_cons (ms_par (i := 4) (j := 5) rfl sc_law.nd rfl rfl (by decide) rfl rfl (ma_cons (me_callK0 (OkD.makes (c := 0) (ok_Rooms_init T) form_Rooms_init_1_most (T.mkr 13) hx_of rg) rfl (T.glo 14) (T.mkr 13).kp (mk_cons (me_int) (mk_nil))) (ma_cons (me_ix rfl (me_lst (ma_cons (me_int) (ma_cons (me_int) (ma_cons (me_int) (ma_cons (me_int) (ma_cons (me_int) (ma_cons (me_int) (ma_nil)))))))) (me_call (OkD.calls (ok_take T) form_take_2 hx_of rg) rfl (T.glo 16) (T.kp 3) (ma_cons (me_var 1) (ma_cons (me_int) (ma_nil))))) (ma_nil))))
    (ms_cons (ms_set 2 sc_law.nd rfl (Or.inl rfl) (me_meth (by decide +kernel) (meths_cons (T.cls 8) (T.meth 20) (OkD.calls (ok_Rooms_make_room T) form_Rooms_make_room_3 hx_of rg) meths_nil) (me_var 4) (ma_cons (me_tup (ma_cons (me_str) (ma_cons (me_int) (ma_nil)))) (ma_cons (me_int) (ma_nil)))))
    (ms_cons (ms_par (i := 6) (j := 7) rfl sc_law.nd rfl rfl (by decide) rfl rfl (ma_cons (me_call (OkD.calls (ok_parts T) form_parts_3 hx_of rg) rfl (T.glo 24) (T.kp 8) (ma_cons (me_var 1) (ma_cons (me_var 4) (ma_cons (me_var 5) (ma_nil))))) (ma_cons (me_op op_mulU os_mul (me_lst (ma_cons (me_tup (ma_cons (me_str) (ma_cons (me_int) (ma_nil)))) (ma_nil))) (me_var 5)) (ma_nil))))
    (ms_cons (ms_if (PW.pt (mw_or (mt_cmp (op_neU rg.r.units) os_ne (me_meth0 (by decide +kernel) (meths_cons (T.cls 8) (T.meth 26) (OkD.calls (ok_Rooms_touches T) form_Rooms_touches_1 hx_of rg) meths_nil) (me_var 4)) (me_tup (ma_cons (me_int) (ma_cons (me_int) (ma_nil))))) (mw_or1 (mt_not (mt_val (me_call (OkD.calls (ok_told_right T) form_told_right_3 hx_of rg) rfl (T.glo 31) (T.kp 13) (ma_cons (me_var 4) (ma_cons (me_var 6) (ma_cons (me_var 7) (ma_nil)))))))))) (ms_one (ms_ret (me_bl))) (ms_nil))
    (ms_cons (ms_for hp_of rfl (mi_rng1 (h1 := aLen1) rfl (T.free 21) (ma_cons (me_int) (ma_nil))) (mg_name (i := 3) sc_law.nd rfl (Or.inl rfl)) (ms_cons (ms_asg (me_ix rfl (me_var 6) (me_call (OkD.calls (ok_take T) form_take_2 hx_of rg) rfl (T.glo 16) (T.kp 3) (ma_cons (me_var 1) (ma_cons (me_bi cl_len bs_len rfl (T.free 15) rfl (ma_cons (me_var 6) (ma_nil))) (ma_nil))))) (mg_tup rfl rfl (mgs_cons (mg_name (i := 9) sc_law.nd rfl (Or.inl rfl)) (mgs_cons (mg_name (i := 10) sc_law.nd rfl (Or.inl rfl)) (mgs_cons (mg_name (i := 11) sc_law.nd rfl (Or.inl rfl)) (mgs_nil))))))
    (ms_cons (ms_set 8 sc_law.nd rfl (Or.inl rfl) (me_bi cl_len bs_len rfl (T.free 15) rfl (ma_cons (me_meth0 (by decide +kernel) (meths_cons (T.cls 8) (T.meth 26) (OkD.calls (ok_Rooms_touches T) form_Rooms_touches_1 hx_of rg) meths_nil) (me_var 4)) (ma_nil))))
    (ms_cons (ms_if (mt_cmp op_gt os_cmp (me_var 11) (me_int)) (ms_cons (ms_set 12 sc_law.nd rfl (Or.inl rfl) (me_call (OkD.calls (ok_take T) form_take_2 hx_of rg) rfl (T.glo 16) (T.kp 3) (ma_cons (me_var 1) (ma_cons (me_var 11) (ma_nil)))))
    (ms_cons (ms_set 13 sc_law.nd rfl (Or.inl rfl) (me_ix rfl (me_lst (ma_cons (me_tup (ma_cons (me_str) (ma_cons (me_op op_addU os_add (me_int) (me_var 3)) (ma_nil)))) (ma_cons (me_tup (ma_cons (me_str) (ma_cons (me_var 3) (ma_cons (me_int) (ma_nil))))) (ma_cons (me_ix rfl (me_ix rfl (me_var 6) (me_int)) (me_int)) (ma_nil))))) (me_call (OkD.calls (ok_take T) form_take_2 hx_of rg) rfl (T.glo 16) (T.kp 3) (ma_cons (me_var 1) (ma_cons (me_int) (ma_nil))))))
    (ms_cons (ms_if (PW.pt (mw_or (mt_notN (me_meth (by decide +kernel) (meths_cons (T.cls 8) (T.meth 32) (OkD.calls (ok_Rooms_put_at T) form_Rooms_put_at_4 hx_of rg) meths_nil) (me_var 4) (ma_cons (me_var 9) (ma_cons (me_tup (ma_cons (me_str) (ma_cons (me_var 12) (ma_nil)))) (ma_cons (me_var 13) (ma_nil)))))) (mw_or1 (mt_cmp (op_neU rg.r.units) os_ne (me_bi cl_len bs_len rfl (T.free 15) rfl (ma_cons (me_meth0 (by decide +kernel) (meths_cons (T.cls 8) (T.meth 26) (OkD.calls (ok_Rooms_touches T) form_Rooms_touches_1 hx_of rg) meths_nil) (me_var 4)) (ma_nil))) (me_op op_addU os_add (me_var 8) (me_int)))))) (ms_one (ms_ret (me_bl))) (ms_nil))
    (ms_one (ms_asg (me_var 13) (mg_ix (me_var 7) (me_op op_addU os_add (me_var 10) (me_var 12)))))))) (ms_nil))
    (ms_one (ms_if (PW.pt (mw_or (mt_not (mt_val (me_call (OkD.calls (ok_told_right T) form_told_right_3 hx_of rg) rfl (T.glo 31) (T.kp 13) (ma_cons (me_var 4) (ma_cons (me_var 6) (ma_cons (me_var 7) (ma_nil))))))) (mw_or1 (mt_cmp (op_neU rg.r.units) os_ne (me_bi (cl_repr rg) bs_repr rfl (T.free 30) rfl (ma_cons (me_meth (by decide +kernel) (meths_cons (T.cls 8) (T.meth 35) (OkD.calls (ok_Rooms_places_of T) form_Rooms_places_of_2 hx_of rg) meths_nil) (me_var 4) (ma_cons (me_int) (ma_nil))) (ma_nil))) (me_bi (cl_repr rg) bs_repr rfl (T.free 30) rfl (ma_cons (me_var 7) (ma_nil))))))) (ms_one (ms_ret (me_bl))) (ms_nil)))))))
    (ms_one (ms_if (PW.pt (mw_or (mt_cmp (op_neU rg.r.units) os_ne (me_meth (by decide +kernel) (meths_cons (T.cls 8) (T.meth 35) (OkD.calls (ok_Rooms_places_of T) form_Rooms_places_of_2 hx_of rg) meths_nil) (me_var 4) (ma_cons (me_int) (ma_nil))) (me_op op_mulU os_mul (me_lst (ma_cons (me_tup (ma_cons (me_str) (ma_cons (me_int) (ma_nil)))) (ma_nil))) (me_int))) (mw_or1 (mt_cmp (op_neU rg.r.units) os_ne (me_meth (by decide +kernel) (meths_cons (T.cls 8) (T.meth 27) (OkD.calls (ok_Rooms_size_of T) form_Rooms_size_of_2 hx_of rg) meths_nil) (me_var 4) (ma_cons (me_var 2) (ma_nil))) (me_tup (ma_cons (me_str) (ma_cons (me_int) (ma_nil)))))))) (ms_one (ms_ret (me_bl))) (ms_nil)))))))))
    (ms_one (ms_ret (me_bl))))
end
end Lw
end
section
set_option maxHeartbeats 0
namespace Lw
open PySem PySem.Spec PyProof.Rows L2 Mo He
def loose0 : List Str := ["_wall", "__name__", "Lack", "NoSuch", "BadNumber", "Trap", "GREAT", "is_whole", "MOST_ROOMS", "MOST_SIZE", "MOST_OF_ALL", "ZERO", "number_of", "is_number", "Rooms", "_law_draws", "_law_take", "_law_parts", "_law_told_right"]
def loose_ : List Str := loose0
abbrev Rw : PySem.W.OpenRow := PySem.W.OpenLaw.row PySem.Challenge.rw_tagmill_k19_parts_of_parts
abbrev hk_ : PySem.W.Hook := hookM 5 fa_ fn_ ex_
def ob_ (s : PySem.W.SharedT) : AlD × Bool := obsM 5 fa_ fn_ ex_ (HandSHeadRun.getT s)
theorem ob_eq (s : PySem.W.SharedT) : ob_ s = hk_.obs s.abs := obsM_eq (HandSHeadRun.getT_eq s)
theorem run_ (w : World) : HandSHeadRun.RunEq Rw (PySem.W.view Rw.prog [22]) hk_ ob_ 3000 loose_ w := by
  intro os
  kernel_rfl
end Lw
open PySem PySem.W PySem.Calls PyProof.Rows
theorem PySem.Challenge.cw_tagmill_k19_parts_of_parts_holds : PySem.Challenge.rw_tagmill_k19_parts_of_parts.Holds := by
  w_on; o_law
  refine HandSHeadRun.head_any (r := OpenLaw.row PySem.Challenge.rw_tagmill_k19_parts_of_parts) (q := view (OpenLaw.row PySem.Challenge.rw_tagmill_k19_parts_of_parts).prog [22]) (H := Lw.hk_) (ob := Lw.ob_) (M := 3000) (loose := Lw.loose_) (d := HandSHeadRun.topDef (OpenLaw.row PySem.Challenge.rw_tagmill_k19_parts_of_parts).prog 22) (kwd := []) Lw.ob_eq
    (by kernel_rfl) (fun s => by kernel_rfl) Lw.run_ (by kernel_rfl) (by kernel_rfl) (by kernel_rfl) (by rfl) (by first | assumption | decide +kernel) (by decide +kernel) ⟨rfl, rfl, rfl, rfl, rfl, by decide +kernel⟩ ?hw ?hc
  case hw => w_witness2
  case hc =>
    refine Mo.law_endE (l := PySem.Challenge.rw_tagmill_k19_parts_of_parts) (n := 63) (k := 5) (x := "_law_script") (d := Lw.dd_law) (G := Lw.Gk) (F := Lw.f_law) (fa := Lw.fa_) (fn := Lw.fn_) (ex := Lw.ex_) rfl (by decide) (by kernel_rfl) ⟨⟨rfl, by decide, by decide⟩, rfl⟩ (fun _ => rfl) (fun w h Y => Y) (fun K mg T => ?_) rfl (fun _ _ _ _ _ _ us hl => match us, hl with | [_], _ => rfl) (fun w mg K base T => Lw.ok_law T) Lw.law_true
    have e : (HandSHeadRun.topDef (OpenLaw.row PySem.Challenge.rw_tagmill_k19_parts_of_parts).prog 22).name = ("law" : PySem.Str) := by kernel_rfl
    rw [e]
    exact T.glo 36
#print axioms PySem.Challenge.cw_tagmill_k19_parts_of_parts_holds
end
