import PyProof.Rows.All
import Wide.All
import OpenK.AllK
import Wide.FinOn
import PyProof.ReprReads
import PyProof.P3Statements
import PyProof.EqLayable
import PyProof.ReprBulk
import PyProof.Rows.Walk
import HandS.ForMost
import HandS.Defaults
import HandS.MakeKwOnly
import HandS.IsInst
import HandS.Style
import HandS.Zip
import HandS.Lambda
import KE.KDictCopyH
import HandS.Exc
import HandS.WordsExc
import HandS.HeadHook4
import PyProof.ReprRoads
import HandS.Head0
import HandS.Head1
import HandS.Head2
import HandS.HeadEnd
import HandS.HeadHook1
import HandS.HeadHook2
import HandS.Iter
import HandS.TupAny
import HandS.ExcInit
import KE.KExcInit
import HandS.ExcField
import HandS.ExcIs
import HandS.SetBool
import HandS.Strs
import HandS.SetFor
import HandS.SortInts
import HandS.FStr
import HandS.RaiseMore
import OpenK.KOps
import HandS.Remove
import HandS.More
import PyProof.CollectIter
import HandS.SetKeys
import HandS.DictComp
import HandS.Deep
import HandS.Conv
import KE.SortData
import HandS.ListItems
import HandS.Text
import HandS.HeadHook3
import KE.GoesMore
import HandS.Rev
import KE.KDictZip
import KE.KItemsList
import KE.DataMinKey
import KE.DataCmp
import PyProof.DictWalks
import HandS.TupMul
import PyProof.StrBlock2
import HandS.ExcValue
import HandS.TupSets
import KE.KDictPairs
import KE.GoesEnumKw
import KE.DataMinMax
import KE.DatumOrd
import HandS.MakeKw
import HandS.NoneIn
import PyProof.RulesAssignMore
import HandS.Finally
import PySem.Challenge.RW_tagmill_k21_whole_histories_of_rooms
import KE.KIntText
set_option Elab.async false
set_option linter.all false
set_option maxRecDepth 100000
section
namespace Mo
open PySem
abbrev Key := Sum Int Str
inductive D where
  | non | bl (b : Bool) | int (i : Int) | str (x : Str) | tup (ds : List D) | kl (ds : List D) | loc (l : Nat) | ty (n : String) | ob (k : Nat)
mutual
def D.dec : (a b : D) → Decidable (a = b)
  | .non, b => match b with
    | .non => .isTrue rfl
    | .bl _ | .int _ | .str _ | .tup _ | .kl _ | .loc _ | .ty _ | .ob _ => .isFalse (fun e => nomatch e)
  | .bl x, b => match b with
    | .bl y => if e : x = y then .isTrue (by rw [e]) else .isFalse (fun q => e (D.bl.inj q))
    | .non | .int _ | .str _ | .tup _ | .kl _ | .loc _ | .ty _ | .ob _ => .isFalse (fun e => nomatch e)
  | .int x, b => match b with
    | .int y => if e : x = y then .isTrue (by rw [e]) else .isFalse (fun q => e (D.int.inj q))
    | .non | .bl _ | .str _ | .tup _ | .kl _ | .loc _ | .ty _ | .ob _ => .isFalse (fun e => nomatch e)
  | .str x, b => match b with
    | .str y => if e : x = y then .isTrue (by rw [e]) else .isFalse (fun q => e (D.str.inj q))
    | .non | .bl _ | .int _ | .tup _ | .kl _ | .loc _ | .ty _ | .ob _ => .isFalse (fun e => nomatch e)
  | .tup x, b => match b with
    | .tup y => match D.decL x y with
      | .isTrue e => .isTrue (by rw [e])
      | .isFalse e => .isFalse (fun q => e (D.tup.inj q))
    | .non | .bl _ | .int _ | .str _ | .kl _ | .loc _ | .ty _ | .ob _ => .isFalse (fun e => nomatch e)
  | .kl x, b => match b with
    | .kl y => match D.decL x y with
      | .isTrue e => .isTrue (by rw [e])
      | .isFalse e => .isFalse (fun q => e (D.kl.inj q))
    | .non | .bl _ | .int _ | .str _ | .tup _ | .loc _ | .ty _ | .ob _ => .isFalse (fun e => nomatch e)
  | .loc x, b => match b with
    | .loc y => if e : x = y then .isTrue (by rw [e]) else .isFalse (fun q => e (D.loc.inj q))
    | .non | .bl _ | .int _ | .str _ | .tup _ | .kl _ | .ty _ | .ob _ => .isFalse (fun e => nomatch e)
  | .ty x, b => match b with
    | .ty y => if e : x = y then .isTrue (by rw [e]) else .isFalse (fun q => e (D.ty.inj q))
    | .non | .bl _ | .int _ | .str _ | .tup _ | .kl _ | .loc _ | .ob _ => .isFalse (fun e => nomatch e)
  | .ob x, b => match b with
    | .ob y => if e : x = y then .isTrue (by rw [e]) else .isFalse (fun q => e (D.ob.inj q))
    | .non | .bl _ | .int _ | .str _ | .tup _ | .kl _ | .loc _ | .ty _ => .isFalse (fun e => nomatch e)
def D.decL : (a b : List D) → Decidable (a = b)
  | [], [] => .isTrue rfl
  | [], _ :: _ => .isFalse (fun e => nomatch e)
  | _ :: _, [] => .isFalse (fun e => nomatch e)
  | x :: xs, y :: ys => match D.dec x y with
    | .isFalse e => .isFalse (fun q => e (List.cons.inj q).1)
    | .isTrue e => match D.decL xs ys with
      | .isTrue e2 => .isTrue (by rw [e, e2])
      | .isFalse e2 => .isFalse (fun q => e2 (List.cons.inj q).2)
end
instance : DecidableEq D := D.dec
inductive O where
  | lst (xs : List D) | dic (kvs : List (Key × D)) | ins (c : Nat) (fs : List (Str × D)) | xd (fs : List (Str × D)) | xc (c m : Nat) | odd | xn (c : Nat) | dt (ks : List (List Int)) | dv (kvs : List (List Int × D)) | dl (kvs : List (List Int × D)) | dn (kvs : List (Option Int × D)) | dm (kvs : List (Option Int × D))
  deriving DecidableEq
structure Hm where
  n : Nat
  g : Nat → Option O
def Hm.new (h : Hm) (o : O) : Hm := ⟨h.n + 1, fun k => if k = h.n then some o else h.g k⟩
inductive R (α : Type) where
  | ok (a : α) (h : Hm) | exc (c : Nat) (fs : Nat) (h : Hm) | bad
def R.bind {α β : Type} (r : R α) (f : α → Hm → R β) : R β := match r with
  | .ok a h => f a h
  | .exc c fs h => .exc c fs h
  | .bad => .bad
inductive RS where
  | nx (σ : List (Option D)) (h : Hm) | rt (d : D) (h : Hm) | bk (σ : List (Option D)) (h : Hm) | ct (σ : List (Option D)) (h : Hm)
  | exc (c : Nat) (l : Nat) (σ : List (Option D)) (h : Hm) | bad
abbrev Env := List (Option D)
abbrev MS := Env → Hm → RS
def SL : Nat := 100000
def Hm.seq (h : Hm) : D → Option (List D)
  | .kl xs => some xs
  | .loc l => match h.g l with
    | some (.lst xs) => some xs
    | _ => none
  | _ => none
end Mo
end
section
namespace Mo
open PySem
abbrev XE := Nat → Nat → Hm → Prop
abbrev XS := Nat → Nat → List (Option D) → Hm → Prop
def TL (ds : List D) (K : Prop) : Prop := Nat.ble ds.length SL = true ∧ K
theorem tl {ds : List D} {K : Prop} (e : Nat.ble ds.length SL = true) (q : K) : TL ds K := ⟨e, q⟩
def SQ (h : Hm) (x : D) (K : List D → Prop) : Prop := ∃ xs, h.seq x = some xs ∧ K xs
theorem sqK {h : Hm} {xs : List D} {K : List D → Prop} (q : K xs) : SQ h (.kl xs) K := ⟨xs, rfl, q⟩
def R1 (ds : List D) (K : Int → Prop) : Prop := ∃ j, ds = [.int j] ∧ (-(2 ^ 62) ≤ j ∧ j < 2 ^ 62) ∧ K j
theorem r1 {j : Int} {K : Int → Prop} (e : -(2 ^ 62) ≤ j ∧ j < 2 ^ 62) (q : K j) : R1 [.int j] K := ⟨j, rfl, e, q⟩
def R2_ (ds : List D) (K : Int → Int → Prop) : Prop := ∃ i j, ds = [.int i, .int j] ∧ (-(2 ^ 62) ≤ i ∧ i < 2 ^ 62 ∧ -(2 ^ 62) ≤ j ∧ j < 2 ^ 62) ∧ K i j
theorem r2 {i j : Int} {K : Int → Int → Prop} (e : -(2 ^ 62) ≤ i ∧ i < 2 ^ 62 ∧ -(2 ^ 62) ≤ j ∧ j < 2 ^ 62) (q : K i j) : R2_ [.int i, .int j] K := ⟨i, j, rfl, e, q⟩
section
variable {α β : Type} {E : XE} {σ : Env} {h : Hm}
variable {Q : D → Hm → Prop} {QL : List D → Hm → Prop} {QB : Bool → Hm → Prop} {a b c : ME} {as ks : MA} {t u : MT}
variable {QE : Env → Hm → Prop} {g : MG}
end
section
variable {α : Type} {E : XS} {σ : Env} {h : Hm} {Q : D → Hm → Prop} {QL : List D → Hm → Prop} {QB : Bool → Hm → Prop} {QE : Env → Hm → Prop} {a b c : ME} {as ks : MA} {t u : MT} {g : MG}
abbrev XS.at (E : XS) (σ : List (Option D)) : XE := fun c l h => E c l σ h
variable {P : Po} {s1 s2 : MS}
end
section
variable {α β : Type} {E : XE} {σ : Env} {h : Hm} {Q : D → Hm → Prop} {QL : List D → Hm → Prop} {a : ME} {t : MT}
end
section
variable {h : Hm} {l k : Nat} {o : O}
theorem new_ne (e : k ≠ h.n) : (h.new o).g k = h.g k := by unfold Hm.new; simp [e]
end
structure Fr (S : List Nat) (h h' : Hm) : Prop where
  n : h.n ≤ h'.n
  g : ∀ l, l < h.n → l ∉ S → h'.g l = h.g l
theorem Fr.refl (S : List Nat) (h : Hm) : Fr S h h := ⟨Nat.le_refl _, fun _ _ _ => rfl⟩
theorem Fr.trans {S : List Nat} {h h1 h2 : Hm} (a : Fr S h h1) (b : Fr S h1 h2) : Fr S h h2 := ⟨Nat.le_trans a.n b.n, fun l k1 k2 => (b.g l (Nat.lt_of_lt_of_le k1 a.n) k2).trans (a.g l k1 k2)⟩
theorem Fr.new {S : List Nat} {h h1 : Hm} (a : Fr S h h1) (o : O) : Fr S h (h1.new o) := ⟨Nat.le_succ_of_le a.n, fun l k1 k2 => (new_ne (Nat.ne_of_lt (Nat.lt_of_lt_of_le k1 a.n))).trans (a.g l k1 k2)⟩
end Mo
end
section
namespace Mo
open PySem L2 PyProof.Rows
structure Gm where
  K : PySem.W.Frag
  cA : Nat → Addr
  oA : Nat → Addr
  T : List (Addr × Str)
  rt : List (List Addr × Hp)
def fix1 (o : Obj) : HO := .frz o (.own 0)
def Cod (q : Str) (o : Obj) : Prop := ∃ (vs : Array Value) (t : Tok), o.data = .fields vs ∧ vs[1]? = some (.str q t)
def TbS (H : Hp) (p : Addr × Str) : Prop := ∃ ps : Array Value, H p.1 = some (.tbl ps) ∧ TriplesOk ps.toList ∧ ∀ (pos : Pos) (cv : Value), codeAmong pos ps.toList = some cv → ∃ c o, cv = .ref c ∧ H c = some (fix1 o) ∧ Cod p.2 o
def Tbs (T : List (Addr × Str)) (H : Hp) : Prop := (∀ p ∈ T, TbS H p) ∧ ∃ o, H sysModules = some (fix1 o)
theorem Tbs.keep {T : List (Addr × Str)} {H H' : Hp} (t : Tbs T H) (k1 : ∀ b ps, H b = some (.tbl ps) → H' b = some (.tbl ps)) (k2 : ∀ b o u, H b = some (.frz o u) → H' b = some (.frz o u)) : Tbs T H' := ⟨fun p hp => by
  obtain ⟨ps, h1, h2, h3⟩ := t.1 p hp
  refine ⟨ps, k1 _ _ h1, h2, fun pos cv e => ?_⟩
  obtain ⟨c, o, e1, e2, e3⟩ := h3 pos cv e
  exact ⟨c, o, e1, k2 _ _ _ e2, e3⟩, let ⟨o, e⟩ := t.2; ⟨o, k2 _ _ _ e⟩⟩
theorem Tbs.new {T : List (Addr × Str)} {H : Hp} {p : Addr} {ho : HO} (t : Tbs T H) (hp : H p = none) : Tbs T (upd H p ho) :=
  t.keep (fun b ps e => by rw [upd_ne (ne_of_none e hp)]; exact e) fun b o u e => by rw [upd_ne (ne_of_none e hp)]; exact e
def SqK (K : PySem.W.Frag) (H : Hp) (a : Addr) (xs : List V) : Prop := (∃ o, H a = some (.frz o (.lst xs))) ∨
  ∃ (its : Array Value) (n : Nat), K.lookup a = some { cls := .type "list", data := .seq its n } ∧ its.size ≤ sizeLine ∧ Vals xs its.toList
theorem SqK.l {K : PySem.W.Frag} {H : Hp} {a : Addr} {xs : List V} (h : SqK K H a xs) : SqL K H a xs := by
  rcases h with ⟨o, h⟩ | ⟨its, n, h1, h5, h6⟩
  · exact .inl (.inr ⟨o, h⟩)
  · exact .inr ⟨_, its, n, h1, rfl, rfl, rfl, h5, h6⟩
mutual
inductive VRel (G : Gm) (ρ : List Addr) (H : Hp) : V → D → Prop
  | non : VRel G ρ H .non .non
  | bl (b : Bool) : VRel G ρ H (.bl b) (.bl b)
  | int (i : Int) : VRel G ρ H (.int i) (.int i)
  | str (x : Str) : VRel G ρ H (.str x) (.str x)
  | tup {a : Addr} {vs : List V} {ds : List D} : SqT G.K H a vs → VRels G ρ H vs ds → VRel G ρ H (.ref a) (.tup ds)
  | kl {a : Addr} {vs : List V} {ds : List D} : SqK G.K H a vs → VRels G ρ H vs ds → VRel G ρ H (.ref a) (.kl ds)
  | loc {a : Addr} {l : Nat} : ρ[l]? = some a → VRel G ρ H (.ref a) (.loc l)
  | ty (n : String) : VRel G ρ H (.ty n) (.ty n)
  | ob (k : Nat) : VRel G ρ H (.ref (G.oA k)) (.ob k)
inductive VRels (G : Gm) (ρ : List Addr) (H : Hp) : List V → List D → Prop
  | nil : VRels G ρ H [] []
  | cons {v : V} {d : D} {vs : List V} {ds : List D} : VRel G ρ H v d → VRels G ρ H vs ds → VRels G ρ H (v :: vs) (d :: ds)
end
def NRel {κ : Type} (G : Gm) (ρ : List Addr) (H : Hp) : List (κ × V) → List (κ × D) → Prop := Paired fun p q => p.1 = q.1 ∧ VRel G ρ H p.2 q.2
def exv (a C d : Addr) : HO := .ext fun h => ∃ (vs : Array Value) (sl : Array (Option Value)), h.get? a = some { cls := .ref C, dict := some d, data := .fields vs, slots := sl }
def exn (a C : Addr) : HO := .ext fun h => ∃ (vs : Array Value) (sl : Array (Option Value)), h.get? a = some { cls := .ref C, dict := none, data := .fields vs, slots := sl }
def entT (x : List Int × Addr × Value) : DictEntry := ⟨reduceHash (Builtin.Tuple.tupleHashOf (x.1.map hashInt)), .ref x.2.1, x.2.2⟩
def DT0 (h : Heap) (a : Addr) (L : List (List Int × Addr)) : Prop := (a == sysModules) = false ∧ ∃ xs : List (List Int × Addr × Value), xs.map (fun x => (x.1, x.2.1)) = L ∧ (xs.map (·.1)).Nodup ∧
  ∃ o es ep, h.get? a = some o ∧ o.ExactDict ∧ o.data = .dict es ep ∧ es.toList = xs.map entT
def DTO (a : Addr) (L : List (List Int × Addr)) : HO := .ext fun h => DT0 h a L
def DV0 (h : Heap) (a : Addr) (L : List (List Int × Addr × V)) : Prop := (a == sysModules) = false ∧ ∃ xs : List (List Int × Addr × Value), Paired (fun (p : List Int × Addr × V) (x : List Int × Addr × Value) => p.1 = x.1 ∧ p.2.1 = x.2.1 ∧ RelV p.2.2 x.2.2) L xs ∧ (xs.map (·.1)).Nodup ∧
  ∃ o es ep, h.get? a = some o ∧ o.ExactDict ∧ o.data = .dict es ep ∧ es.toList = xs.map entT
def DVO (a : Addr) (L : List (List Int × Addr × V)) : HO := .ext fun h => DV0 h a L
def lfN : Option Int → Leaf
  | none => .none
  | some i => .num i
def niHash : Option Int → Int
  | none => reduceHash 0xFCA86420
  | some i => hashInt i
theorem niHash_eq (w : World) (k : Option Int) : (lfN k).key.hash w = niHash k := by
  cases k <;> rfl
theorem lfN_inj {a b : Option Int} (e : lfN a = lfN b) : a = b := by
  cases a <;> cases b <;> first | rfl | (cases e; rfl) | cases e
def niKind (P : Program) (w : World) : KeyKind P w (Option Int) where
  is := fun k v => Leaf.isOf (lfN k) v
  hash := niHash
  inj := fun v a b ha hb => lfN_inj ((leafKind P w).inj v _ _ ha hb)
  byValue := fun _ _ h => Leaf.byValue h
  pyHash := fun {_ _ _ k _ _} hv h => (leafKind P w).pyHash hv (by show _; rw [show (leafKind P w).hash (lfN k) = niHash k from niHash_eq w k]; exact h)
  eqBool := fun {_ _ _ a b _ _ _} hu hv h => (leafKind P w).eqBool hu hv (by rw [show decide (lfN a = lfN b) = decide (a = b) from decide_eq_decide.mpr ⟨lfN_inj, fun e => by rw [e]⟩]; exact h)
  «strs» := fun k x t v h => (leafKind P w).«strs» (lfN k) x t v h
def DN0 (h : Heap) (a : Addr) (L : List (Option Int × V)) : Prop := (a == sysModules) = false ∧ ∃ xs : List (Option Int × Value), KV L xs ∧ ∀ (P : Program) (w : World), h.DictOf (niKind P w) a xs
def DNO (a : Addr) (L : List (Option Int × V)) : HO := .ext fun h => DN0 h a L
def VRow (G : Gm) (ρ : List Addr) (H : Hp) (p : List Int × Addr × V) (q : List Int × D) : Prop := p.1 = q.1 ∧ SqT G.K H p.2.1 (p.1.map V.int) ∧ VRel G ρ H p.2.2 q.2
def ORel (G : Gm) (ρ : List Addr) (H : Hp) (a : Addr) : O → Prop
  | .lst ds => ∃ vs, H a = some (.lst vs) ∧ VRels G ρ H vs ds
  | .dic kds => ∃ kvs, H a = some (.dK kvs) ∧ NRel G ρ H kvs kds
  | .ins c fs => ∃ dx fvs, H a = some (.ins (G.cA c) dx fvs) ∧ NRel G ρ H fvs fs
  | .xd fs => ∃ fvs, H a = some (.xd fvs) ∧ NRel G ρ H fvs fs
  | .xc c m => ∃ d, ρ[m]? = some d ∧ H a = some (exv a (G.cA c) d)
  | .odd => ∃ kvs, H a = some (.dT kvs)
  | .xn c => H a = some (exn a (G.cA c))
  | .dt ks => ∃ L : List (List Int × Addr), H a = some (DTO a L) ∧ L.map (·.1) = ks ∧ ∀ p ∈ L, SqT G.K H p.2 (p.1.map V.int)
  | .dv kvs => ∃ L, H a = some (DVO a L) ∧ Paired (VRow G ρ H) L kvs
  | .dl kvs => ∃ L o, H a = some (.frz o (DVO a L)) ∧ Paired (VRow G ρ H) L kvs
  | .dn kds => ∃ L, H a = some (DNO a L) ∧ NRel G ρ H L kds
  | .dm kds => ∃ L o, H a = some (.frz o (DNO a L)) ∧ NRel G ρ H L kds
structure Grow (ρ : List Addr) (H : Hp) (ρ' : List Addr) (H' : Hp) : Prop where
  pre : ∃ t, ρ' = ρ ++ t
  tup : ∀ b xs, H b = some (.tup xs) → H' b = some (.tup xs)
  frz : ∀ b o u, H b = some (.frz o u) → H' b = some (.frz o u)
  outT : ∀ b o, H b = some o → b ∉ ρ → (∀ ps, o ≠ .tbl ps) → H' b = some o ∧ b ∉ ρ'
theorem Grow.out {ρ ρ' : List Addr} {H H' : Hp} (g : Grow ρ H ρ' H') (b : Addr) (o : HO) (e : H b = some o) (n : b ∉ ρ) (k : ∀ ps, o ≠ .tbl ps := by first | assumption | (intro _ z; cases z)) : H' b = some o ∧ b ∉ ρ' := g.outT b o e n k
structure Ext (ρ : List Addr) (H : Hp) (ρ' : List Addr) (H' : Hp) : Prop where
  pre : ∃ t, ρ' = ρ ++ t
  tup : ∀ b xs, H b = some (.tup xs) → H' b = some (.tup xs)
  frz : ∀ b o u, H b = some (.frz o u) → H' b = some (.frz o u)
structure HRel (G : Gm) (ρ : List Addr) (H : Hp) (h : Hm) : Prop where
  len : ρ.length = h.n
  inj : ∀ (i j : Nat) a, ρ[i]? = some a → ρ[j]? = some a → i = j
  has : ∀ a, a ∈ ρ → ∃ o, H a = some o
  obj : ∀ l o, h.g l = some o → ∃ a, ρ[l]? = some a ∧ ORel G ρ H a o
  tabs : Tbs G.T H
  root : ∀ p ∈ G.rt, Ext p.1 p.2 ρ H
theorem Ext.trans {ρ ρ1 ρ2 : List Addr} {H H1 H2 : Hp} (a : Ext ρ H ρ1 H1) (b : Ext ρ1 H1 ρ2 H2) : Ext ρ H ρ2 H2 := by
  obtain ⟨t, e⟩ := a.pre
  obtain ⟨u, f⟩ := b.pre
  exact ⟨⟨t ++ u, by rw [f, e, List.append_assoc]⟩, fun c xs q => b.tup c xs (a.tup c xs q), fun c o u q => b.frz c o u (a.frz c o u q)⟩
section
variable {G : Gm} {ρ ρ' ρ1 ρ2 : List Addr} {H H' H1 H2 : Hp}
theorem Grow.refl (ρ : List Addr) (H : Hp) : Grow ρ H ρ H := ⟨⟨[], by simp⟩, fun _ _ e => e, fun _ _ _ e => e, fun _ _ e n _ => ⟨e, n⟩⟩
theorem Grow.trans (a : Grow ρ H ρ1 H1) (b : Grow ρ1 H1 ρ2 H2) : Grow ρ H ρ2 H2 := by
  obtain ⟨t, e⟩ := a.pre
  obtain ⟨u, f⟩ := b.pre
  refine ⟨⟨t ++ u, by rw [f, e, List.append_assoc]⟩, fun c xs q => b.tup c xs (a.tup c xs q), fun c o u q => b.frz c o u (a.frz c o u q), fun c o q n k => ?_⟩
  obtain ⟨q1, n1⟩ := a.out c o q n k
  exact b.out c o q1 n1 k
theorem Grow.ext (g : Grow ρ H ρ' H') : Ext ρ H ρ' H' := ⟨g.pre, g.tup, g.frz⟩
theorem Ext.at (g : Ext ρ H ρ' H') {l : Nat} {a : Addr} (h : ρ[l]? = some a) : ρ'[l]? = some a := by
  obtain ⟨t, rfl⟩ := g.pre
  have hl := (List.getElem?_eq_some_iff.mp h).1
  rw [List.getElem?_append_left hl]
  exact h
theorem Ext.sqT (g : Ext ρ H ρ' H') {K : PySem.W.Frag} {a : Addr} {xs : List V} (h : SqT K H a xs) : SqT K H' a xs := by
  rcases h with (h | ⟨o, h⟩) | h
  · exact .inl (.inl (g.tup _ _ h))
  · exact .inl (.inr ⟨o, g.frz _ _ _ h⟩)
  · exact .inr h
theorem Ext.sqK (g : Ext ρ H ρ' H') {K : PySem.W.Frag} {a : Addr} {xs : List V} (h : SqK K H a xs) : SqK K H' a xs := by
  rcases h with ⟨o, h⟩ | h
  · exact .inl ⟨o, g.frz _ _ _ h⟩
  · exact .inr h
mutual
theorem VRel.ext (g : Ext ρ H ρ' H') : ∀ {v : V} {d : D}, VRel G ρ H v d → VRel G ρ' H' v d
  | _, _, .non => .non
  | _, _, .bl b => .bl b
  | _, _, .int i => .int i
  | _, _, .str x => .str x
  | _, _, .tup h hs => .tup (g.sqT h) (VRels.ext g hs)
  | _, _, .kl h hs => .kl (g.sqK h) (VRels.ext g hs)
  | _, _, .loc h => .loc (g.at h)
  | _, _, .ty n => .ty n
  | _, _, .ob k => .ob k
theorem VRels.ext (g : Ext ρ H ρ' H') : ∀ {vs : List V} {ds : List D}, VRels G ρ H vs ds → VRels G ρ' H' vs ds
  | _, _, .nil => .nil
  | _, _, .cons h hs => .cons (VRel.ext g h) (VRels.ext g hs)
end
theorem NRel.ext {κ : Type} (g : Ext ρ H ρ' H') {kvs : List (κ × V)} {kds : List (κ × D)} (h : NRel G ρ H kvs kds) : NRel G ρ' H' kvs kds := Paired.mapP h fun _ _ q => ⟨q.1, q.2.ext g⟩
theorem ORel.ext (g : Ext ρ H ρ' H') {a : Addr} {o : O} (e : H' a = H a) (h : ORel G ρ H a o) : ORel G ρ' H' a o := by
  cases o with
  | lst ds => obtain ⟨vs, e1, r⟩ := h; exact ⟨vs, e.trans e1, r.ext g⟩
  | dic ds => obtain ⟨vs, e1, r⟩ := h; exact ⟨vs, e.trans e1, r.ext g⟩
  | ins c fs => obtain ⟨dx, fvs, e1, r⟩ := h; exact ⟨dx, fvs, e.trans e1, r.ext g⟩
  | xd fs => obtain ⟨fvs, e1, r⟩ := h; exact ⟨fvs, e.trans e1, r.ext g⟩
  | xc c m => obtain ⟨d, e1, e2⟩ := h; exact ⟨d, g.at e1, e.trans e2⟩
  | odd => obtain ⟨kvs, e1⟩ := h; exact ⟨kvs, e.trans e1⟩
  | xn c => exact e.trans h
  | dt ds => obtain ⟨L, e1, r1, r2⟩ := h; exact ⟨L, e.trans e1, r1, fun p hp => g.sqT (r2 p hp)⟩
  | dv kvs => obtain ⟨L, e1, r⟩ := h; exact ⟨L, e.trans e1, Paired.mapP r fun _ _ q => ⟨q.1, g.sqT q.2.1, q.2.2.ext g⟩⟩
  | dl kvs => obtain ⟨L, o, e1, r⟩ := h; exact ⟨L, o, e.trans e1, Paired.mapP r fun _ _ q => ⟨q.1, g.sqT q.2.1, q.2.2.ext g⟩⟩
  | dn kds => obtain ⟨L, e1, r⟩ := h; exact ⟨L, e.trans e1, r.ext g⟩
  | dm kds => obtain ⟨L, o, e1, r⟩ := h; exact ⟨L, o, e.trans e1, r.ext g⟩
theorem VRel.grow (g : Grow ρ H ρ' H') {v : V} {d : D} (q : VRel G ρ H v d) : VRel G ρ' H' v d := q.ext g.ext
theorem VRels.grow (g : Grow ρ H ρ' H') {vs : List V} {ds : List D} (q : VRels G ρ H vs ds) : VRels G ρ' H' vs ds := q.ext g.ext
theorem NRel.grow {κ : Type} (g : Grow ρ H ρ' H') {kvs : List (κ × V)} {kds : List (κ × D)} (h : NRel G ρ H kvs kds) : NRel G ρ' H' kvs kds := h.ext g.ext
theorem ORel.grow (g : Grow ρ H ρ' H') {a : Addr} {o : O} (e : H' a = H a) (h : ORel G ρ H a o) : ORel G ρ' H' a o := h.ext g.ext e
theorem Grow.at (g : Grow ρ H ρ' H') {l : Nat} {a : Addr} (h : ρ[l]? = some a) : ρ'[l]? = some a := g.ext.at h
theorem VRels.length : ∀ {vs : List V} {ds : List D}, VRels G ρ H vs ds → vs.length = ds.length
  | _, _, .nil => rfl
  | _, _, .cons _ hs => congrArg (· + 1) hs.length
theorem VRels.set {v : V} {d : D} (r : VRel G ρ H v d) : ∀ {vs : List V} {ds : List D} (i : Nat), VRels G ρ H vs ds → VRels G ρ H (vs.set i v) (ds.set i d)
  | _, _, _, .nil => .nil
  | _, _, 0, .cons _ hs => .cons r hs
  | _, _, i + 1, .cons h hs => .cons h (VRels.set r i hs)
theorem NRel.length {κ : Type} {kvs : List (κ × V)} {kds : List (κ × D)} (h : NRel G ρ H kvs kds) : kvs.length = kds.length := Paired.length h
theorem HRel.fresh {h : Hm} (r : HRel G ρ H h) {p : Addr} (hp : H p = none) : p ∉ ρ := fun m => by
  obtain ⟨o, e⟩ := r.has p m
  rw [hp] at e; cases e
theorem Grow.tmp {p : Addr} (hp : H p = none) (ho : HO) : Grow ρ H ρ (upd H p ho) :=
  ⟨⟨[], by simp⟩, fun b xs e => by rw [upd_ne (ne_of_none e hp)]; exact e, fun b o u e => by rw [upd_ne (ne_of_none e hp)]; exact e, fun b o e n _ => ⟨by rw [upd_ne (ne_of_none e hp)]; exact e, n⟩⟩
theorem HRel.tmp {h : Hm} (r : HRel G ρ H h) {p : Addr} (hp : H p = none) (ho : HO) : HRel G ρ (upd H p ho) h := by
  refine ⟨r.len, r.inj, fun a m => ?_, fun l o e => ?_, r.tabs.new hp, fun q hq => (r.root q hq).trans (Grow.tmp hp ho).ext⟩
  · obtain ⟨o, e⟩ := r.has a m
    exact ⟨o, by rw [upd_ne (ne_of_none e hp)]; exact e⟩
  · obtain ⟨a, e1, q⟩ := r.obj l o e
    obtain ⟨u, e2⟩ := r.has a (List.mem_of_getElem? e1)
    exact ⟨a, e1, q.grow (Grow.tmp hp ho) (upd_ne (ne_of_none e2 hp))⟩
theorem Grow.new {h : Hm} (r : HRel G ρ H h) {p : Addr} (hp : H p = none) (ho : HO) : Grow ρ H (ρ ++ [p]) (upd H p ho) :=
  ⟨⟨[p], rfl⟩, fun b xs e => by rw [upd_ne (ne_of_none e hp)]; exact e, fun b o u e => by rw [upd_ne (ne_of_none e hp)]; exact e, fun b o e n _ => ⟨by rw [upd_ne (ne_of_none e hp)]; exact e, fun m => by
    rcases List.mem_append.mp m with m | m
    · exact n m
    · exact ne_of_none e hp (List.mem_singleton.mp m)⟩⟩
theorem HRel.new {h : Hm} (r : HRel G ρ H h) {p : Addr} (hp : H p = none) {ho : HO} {o : O} (q : ORel G (ρ ++ [p]) (upd H p ho) p o) : HRel G (ρ ++ [p]) (upd H p ho) (h.new o) := by
  have hn := r.fresh hp
  have g : Grow ρ H (ρ ++ [p]) (upd H p ho) := Grow.new r hp ho
  refine ⟨by rw [List.length_append, r.len]; rfl, fun i j a e1 e2 => ?_, fun a m => ?_, fun l u e => ?_, r.tabs.new hp, fun q hq => (r.root q hq).trans g.ext⟩
  · rw [List.getElem?_append] at e1 e2
    split at e1 <;> split at e2
    · exact r.inj i j a e1 e2
    · rename_i h1 h2
      have e3 := List.mem_of_getElem? e2
      rw [List.mem_singleton.mp e3] at e1
      exact absurd (List.mem_of_getElem? e1) hn
    · rename_i h1 h2
      have e3 := List.mem_of_getElem? e1
      rw [List.mem_singleton.mp e3] at e2
      exact absurd (List.mem_of_getElem? e2) hn
    · have h1 := (List.getElem?_eq_some_iff.mp e1).1
      have h2 := (List.getElem?_eq_some_iff.mp e2).1
      simp only [List.length_cons, List.length_nil] at h1 h2
      omega
  · rcases List.mem_append.mp m with m | m
    · obtain ⟨o, e⟩ := r.has a m
      exact ⟨o, by rw [upd_ne (ne_of_none e hp)]; exact e⟩
    · rw [List.mem_singleton.mp m]
      exact ⟨ho, upd_same⟩
  · by_cases hl : l = h.n
    · have e' : (if l = h.n then some o else h.g l) = some u := e
      rw [if_pos hl] at e'
      cases e'
      refine ⟨p, ?_, q⟩
      rw [hl, ← r.len]
      simp
    · have e' : (if l = h.n then some o else h.g l) = some u := e
      rw [if_neg hl] at e'
      obtain ⟨a, e1, q1⟩ := r.obj l u e'
      obtain ⟨u2, e2⟩ := r.has a (List.mem_of_getElem? e1)
      exact ⟨a, g.at e1, q1.grow g (upd_ne (ne_of_none e2 hp))⟩
theorem HRel.at {h : Hm} (r : HRel G ρ H h) {l : Nat} {a : Addr} {o : O} (e : h.g l = some o) (ha : ρ[l]? = some a) : ORel G ρ H a o := by
  obtain ⟨b, e1, q⟩ := r.obj l o e
  rw [ha] at e1
  cases e1
  exact q
end
def SRel (G : Gm) (ρ : List Addr) (H : Hp) (σ : L2.St) (env : Env) : Prop := σ.length = env.length ∧ ∀ (i : Nat) (d : D), env[i]? = some (some d) → ∃ v, σ[i]? = some (some v) ∧ VRel G ρ H v d
def Wp {α β : Type} (G : Gm) (E : XK) (rel : List Addr → Hp → β → α → Prop) (r : R α) (ρ : List Addr) (H : Hp) (Q : β → Hp → Prop) : Prop := match r with
  | .ok a h' => ∀ ρ' H' b, Grow ρ H ρ' H' → HRel G ρ' H' h' → rel ρ' H' b a → Q b H'
  | .exc c l h' => ∀ ρ' H' d, Grow ρ H ρ' H' → HRel G ρ' H' h' → ρ'[l]? = some d → E (.ref (G.cA c)) (some d) H'
  | .bad => False
abbrev WM := Value → Option Addr → L2.St → Hp → Prop
abbrev EW : WM := fun _ _ _ _ => False
def WpS (G : Gm) (E : WM) (r : RS) (ρ : List Addr) (H : Hp) (D : Ends) : Prop := match r with
  | .nx env h' => ∀ ρ' H' σ', Grow ρ H ρ' H' → HRel G ρ' H' h' → SRel G ρ' H' σ' env → D.nx σ' H'
  | .bk env h' => ∀ ρ' H' σ', Grow ρ H ρ' H' → HRel G ρ' H' h' → SRel G ρ' H' σ' env → D.bk σ' H'
  | .ct env h' => ∀ ρ' H' σ', Grow ρ H ρ' H' → HRel G ρ' H' h' → SRel G ρ' H' σ' env → D.ct σ' H'
  | .rt d h' => ∀ ρ' H' v, Grow ρ H ρ' H' → HRel G ρ' H' h' → VRel G ρ' H' v d → D.rt v H'
  | .exc c l env h' => ∀ ρ' H' d σ', Grow ρ H ρ' H' → HRel G ρ' H' h' → SRel G ρ' H' σ' env → ρ'[l]? = some d → E (.ref (G.cA c)) (some d) σ' H'
  | .bad => False
section
variable {G : Gm} {E : XK} {ρ ρ' ρ1 : List Addr} {H H' H1 : Hp} {α β γ δ : Type} {rel : List Addr → Hp → β → α → Prop} {rel' : List Addr → Hp → δ → γ → Prop}
theorem SRel.grow (g : Grow ρ H ρ' H') {σ : L2.St} {env : Env} (s : SRel G ρ H σ env) : SRel G ρ' H' σ env := ⟨s.1, fun i d e => let ⟨v, e1, q⟩ := s.2 i d e; ⟨v, e1, q.grow g⟩⟩
theorem SRel.set {σ : L2.St} {env : Env} (s : SRel G ρ H σ env) {v : V} {d : D} (q : VRel G ρ H v d) (i : Nat) : SRel G ρ H (σ.set i (some v)) (env.set i (some d)) := by
  refine ⟨by rw [List.length_set, List.length_set]; exact s.1, fun j e hj => ?_⟩
  by_cases h : i = j
  · subst h
    rw [List.getElem?_set] at hj ⊢
    rw [if_pos rfl] at hj ⊢
    rw [s.1]
    split at hj
    · rename_i hl
      cases hj
      exact ⟨v, by rw [if_pos hl], q⟩
    · cases hj
  · rw [List.getElem?_set_ne h] at hj ⊢
    exact s.2 j e hj
theorem Wp.grow (g : Grow ρ H ρ1 H1) {r : R α} {Q : β → Hp → Prop} (w : Wp G E rel r ρ H Q) : Wp G E rel r ρ1 H1 Q := by
  cases r with
  | ok a h' => exact fun ρ' H' b g' hr q => w ρ' H' b (g.trans g') hr q
  | exc c fs h' => exact fun ρ' H' d g' hr e => w ρ' H' d (g.trans g') hr e
  | bad => exact w
theorem WpS.grow {E : WM} (g : Grow ρ H ρ1 H1) {r : RS} {D : Ends} (w : WpS G E r ρ H D) : WpS G E r ρ1 H1 D := by
  cases r with
  | nx a h' => exact fun ρ' H' b g' hr q => w ρ' H' b (g.trans g') hr q
  | bk a h' => exact fun ρ' H' b g' hr q => w ρ' H' b (g.trans g') hr q
  | ct a h' => exact fun ρ' H' b g' hr q => w ρ' H' b (g.trans g') hr q
  | rt a h' => exact fun ρ' H' b g' hr q => w ρ' H' b (g.trans g') hr q
  | exc c fs env h' => exact fun ρ' H' d σ' g' hr s e => w ρ' H' d σ' (g.trans g') hr s e
  | bad => exact w
theorem Wp.seq {r : R α} {f : α → Hm → R γ} {Q : δ → Hp → Prop} {Q1 : β → Hp → Prop} (w : Wp G E rel' (r.bind f) ρ H Q)
    (k : ∀ a h' ρ' H' b, Grow ρ H ρ' H' → HRel G ρ' H' h' → rel ρ' H' b a → Wp G E rel' (f a h') ρ' H' Q → Q1 b H') : Wp G E rel r ρ H Q1 := by
  cases r with
  | ok a h' => exact fun ρ' H' b g hr q => k a h' ρ' H' b g hr q (Wp.grow g w)
  | exc c fs h' => exact w
  | bad => exact w
theorem Wp.val {a : α} {h : Hm} {b : β} {Q : β → Hp → Prop} (w : Wp G E rel (.ok a h) ρ H Q) (r : HRel G ρ H h) (q : rel ρ H b a) : Q b H := w ρ H b (Grow.refl ρ H) r q
end
section
variable (G : Gm) (E : WM)
def rdS (m : MS) : TS := fun D σ H => ∃ ρ env h, SRel G ρ H σ env ∧ HRel G ρ H h ∧ WpS G E (m env h) ρ H D
end
end Mo
end
section
namespace Mo
open PySem L2 PyProof.Rows
section
variable {G : Gm} {E : WM} {X : Cx} {a b c o tg : Expr} {ma mb mc : ME} {pos : Pos} {as ks : MA} {es : List Expr}
theorem SRel.ext {ρ ρ' : List Addr} {H H' : Hp} (g : Ext ρ H ρ' H') {σ : L2.St} {env : Env} (s : SRel G ρ H σ env) : SRel G ρ' H' σ env := ⟨s.1, fun i d e => let ⟨v, e1, q⟩ := s.2 i d e; ⟨v, e1, q.ext g⟩⟩
variable {it elt : Expr} {ifs : List Expr} {scope : Scope} {own : List (Str × Nat)} {mi : MI} {t : MT} {one : Bool} {is : List Nat} {g : TG}
end
end Mo
end
section
namespace Mo
open PySem L2 PyProof.Rows He
section
variable {G : Gm} {E : WM} {X : Cx} {o : Expr} {mb : ME}
end
abbrev TqL := List (Defn × Str)
def frM (g : Addr → Option Obj) (as : List Addr) : PySem.W.Frag := (frG g as).filter fun q => !emptyTab q.2 && !(q.1 == sysModules)
theorem frM_mem {g : Addr → Option Obj} {as : List Addr} {a : Addr} {o : Obj} (h : (frM g as).lookup a = some o) : g a = some o ∧ emptyTab o = false ∧ a ≠ sysModules := by
  obtain ⟨h1, h2⟩ := List.mem_filter.mp (lookup_mem h)
  obtain ⟨h3, h4⟩ := ba h2
  refine ⟨frG_mem h1, ?_, fun z => ?_⟩
  · cases q : emptyTab o with
    | false => rfl
    | true =>
      have h3 : (!emptyTab o) = true := h3
      rw [q] at h3
      cases h3
  · have h4 : (!(a == sysModules)) = true := h4
    rw [z, show (sysModules == sysModules) = true from rfl] at h4
    cases h4
theorem frM_in {as : List Addr} {h : Heap} : (frM h.get? as).In h := fun _ _ e => (frM_mem e).1
theorem frM_tab {g : Addr → Option Obj} {as : List Addr} {a : Addr} {o : Obj} (h : g a = some o) (ht : emptyTab o = true) : (frM g as).lookup a = none := by
  cases e : (frM g as).lookup a with
  | none => rfl
  | some u =>
    obtain ⟨h1, h2, _⟩ := frM_mem e
    rw [h] at h1
    rw [← Option.some.inj h1, ht] at h2
    cases h2
theorem frM_sys {g : Addr → Option Obj} {as : List Addr} : (frM g as).lookup sysModules = none := by
  cases e : (frM g as).lookup sysModules with
  | none => rfl
  | some u => exact absurd rfl (frM_mem e).2.2
def sysB (g : Addr → Option Obj) : Bool := match g sysModules with
  | some ⟨.type c, _, _, _⟩ => decide (c = "dict")
  | _ => false
theorem sysB_ok {g : Addr → Option Obj} (h : sysB g = true) : ∃ o, g sysModules = some o ∧ o.cls = .type "dict" := by
  unfold sysB at h
  split at h
  · rename_i c d e f q
    exact ⟨_, q, congrArg Value.type (of_decide_eq_true h)⟩
  · cases h
def tqB (K : PySem.W.Frag) (tq : TqL) : Bool := decide ((tq.map fun p => (cT K p.1).2).Nodup) && tq.all fun p => !((cT K p.1).2 == sysModules)
structure SaysM (fa : List Fa) (fn : List DefD) (ex : PySem.W.Frag → Bool) (K : PySem.W.Frag) : Prop where
  d : SaysD fa fn K
  e : ex K = true
structure SaysL (fa : List Fa) (fn : List DefD) (tq : TqL) (ex : PySem.W.Frag → Bool) (h : Heap) (K : PySem.W.Frag) : Prop where
  m : SaysM fa fn ex K
  hd : ∀ p ∈ tq, PySem.W.codeHdIn K (cT K p.1).1 (cT K p.1).2 = true
  out : ∀ p ∈ tq, K.lookup (cT K p.1).2 = none
  emp : ∀ p ∈ tq, h.get? (cT K p.1).2 = some { cls := .none, data := .fields #[] }
  nd : (tq.map fun p => (cT K p.1).2).Nodup
  ns : ∀ p ∈ tq, (cT K p.1).1 ≠ sysModules ∧ (cT K p.1).2 ≠ sysModules
  sk : K.lookup sysModules = none
  sy : ∃ o, h.get? sysModules = some o ∧ o.cls = .type "dict"
theorem codeHd_some {K : PySem.W.Frag} {c P : Addr} (e : PySem.W.codeHdIn K c P = true) : ∃ o, K.lookup c = some o := by
  unfold PySem.W.codeHdIn at e
  split at e
  · rename_i q
    exact ⟨_, q⟩
  · cases e
structure Tp (fa : List Fa) (fn : List DefD) (ex : PySem.W.Frag → Bool) (K : PySem.W.Frag) (mg : Str → Option Value) : Prop where
  c : SaysM fa fn ex K
  h : ∃ h : Heap, K.In h ∧ h.Ns mainGlobals mg
section
variable {fa : List Fa} {fn : List DefD} {ex : PySem.W.Frag → Bool} {K : PySem.W.Frag} {mg : Str → Option Value}
theorem Tp.glo (T : Tp fa fn ex K mg) (i : Nat) {x : Str} (h : fa[i]? = some (.glo x) := by rfl) : mg x = some (.ref (ga K x)) := let ⟨_, a, b⟩ := T.h; glo_ok a b (T.c.d.fact i h)
theorem Tp.free (T : Tp fa fn ex K mg) (i : Nat) {x : Str} (h : fa[i]? = some (.free x) := by rfl) : mg x = none := let ⟨_, a, b⟩ := T.h; free_ok a b (T.c.d.fact i h)
theorem Tp.cls (T : Tp fa fn ex K mg) (i : Nat) {x : Str} (h : fa[i]? = some (.cls x) := by rfl) : Cls K (ga K x) := cls_ok (T.c.d.fact i h)
theorem Tp.noat (T : Tp fa fn ex K mg) (i : Nat) {x f : Str} (h : fa[i]? = some (.noat x f) := by rfl) : NoAttr K (ga K x) f := noat_ok (T.c.d.fact i h)
theorem Tp.meth (T : Tp fa fn ex K mg) (i : Nat) {x m : Str} (h : fa[i]? = some (.meth x m) := by rfl) : Meth K (ga K x) m (ma K (ga K x) m) := meth_ok (T.c.d.fact i h)
theorem Tp.mkr (T : Tp fa fn ex K mg) (i : Nat) {x : Str} (h : fa[i]? = some (.mkr x) := by rfl) : Mk K (ga K x) (ma K (ga K x) "__init__") := mkr_ok (T.c.d.fact i h)
theorem Tp.int (T : Tp fa fn ex K mg) (i : Nat) {x : Str} {n : Int} (h : fa[i]? = some (.int x n) := by rfl) : ∃ t, mg x = some (.int n t) := let ⟨_, a, b⟩ := T.h; int_ok a b (T.c.d.fact i h)
theorem Tp.str (T : Tp fa fn ex K mg) (i : Nat) {x z : Str} (h : fa[i]? = some (.str x z) := by rfl) : ∃ t, mg x = some (.str z t) := let ⟨_, a, b⟩ := T.h; str_ok a b (T.c.d.fact i h)
end
section
variable {fa : List Fa} {fn : List DefD} {ex : PySem.W.Frag → Bool} {G : Gm} {E : WM} {X : Cx}
end
section
variable {K : PySem.W.Frag} {G : Gm} {d : DefD} {ps : List Str} {n : Nat} {kn : List Str}
end
section
variable {G : Gm} {E : WM} {X : Cx} {j k n : Nat} {d : DefD} {ps kn : List Str} {F : Fn} {p : List D → List D → List D}
end
end Mo
end
section
namespace Mo
open PySem
section
variable {E : XE} {σ : Env} {h : Hm} {Q : D → Hm → Prop} {a : ME} {as : MA} {t : MT}
end
section
variable {h : Hm} {l k : Nat} {o : O}
end
structure Fz (S : Nat → Prop) (h h' : Hm) : Prop where
  n : h.n ≤ h'.n
  g : ∀ l, l < h.n → ¬ S l → h'.g l = h.g l
section
variable {S T : Nat → Prop} {h h1 h2 : Hm}
theorem Fz.at (f : Fz S h h1) {l : Nat} {o : Option O} (k : l < h.n) (n : ¬ S l) (e : h.g l = o) : h1.g l = o := (f.g l k n).trans e
theorem Fz.new (a : Fz S h h1) (o : O) : Fz S h (h1.new o) := ⟨Nat.le_succ_of_le a.n, fun l k1 k2 => (new_ne (Nat.ne_of_lt (Nat.lt_of_lt_of_le k1 a.n))).trans (a.g l k1 k2)⟩
end
end Mo
end
section
namespace Mo
open PySem L2 PyProof.Rows He
section
variable {X : Cx} {e : Expr} {st : Stmt} {t : TE} {ts : TS}
def Leave (Q : V → Hp → Prop) : V → Hp → Prop := fun v H1 => ∃ a vs, v = .ref a ∧ H1 a = some (.lst vs) ∧ ∀ o, Q v (upd H1 a (.frz o (.lst vs)))
end
section
variable {G : Gm} {E : WM} {X : Cx} {a b c : Expr} {ma mb mc : ME} {pos : Pos} {as : MA} {es : List Expr}
theorem Leave.new {E' : XK} {ρ : List Addr} {H : Hp} {h : Hm} {ds : List D} {vs : List V} {Q : VK} (w : Wp G E' (VRel G) (.ok (.kl ds) h) ρ H Q) (r : HRel G ρ H h) (q : VRels G ρ H vs ds) {p : Addr} (hp : H p = none) : Leave Q (.ref p) (upd H p (.lst vs)) := by
  refine ⟨p, vs, rfl, upd_same, fun o => ?_⟩
  rw [upd_upd]
  have g := Grow.tmp (ρ := ρ) hp (.frz o (.lst vs))
  exact w ρ _ _ g (r.tmp hp _) (.kl (.inl ⟨o, upd_same⟩) (q.grow g))
section
variable {tg it elt : Expr} {ifs : List Expr} {scope : Scope} {own : List (Str × Nat)} {mi : MI} {t : MT} {one : Bool} {is : List Nat} {g : TG}
end
end
section
variable {X : Cx} {e : Expr} {t t' : TE}
end
section
variable {G : Gm} {E : WM}
end
section
variable {G : Gm} {E : WM} {X : Cx} {a b : Expr} {ma mb : ME} {pos : Pos}
end
end Mo
end
section
namespace Mo
open PySem L2 PyProof.Rows He
section
variable {X : Cx} {pins : List (Addr × Obj)} {σ : L2.St} {H : Hp} {s : Shared} {a C d : Addr}
end
def Tst (X : Cx) (t : Expr) (m : Value → Option Bool) : Prop := ∀ {pins pn : List (Addr × Obj)} {a : Addr} {σ : L2.St} {H : Hp} {s : Shared} {oe : Obj} {b : Bool} {Q : Bool → Shared → Prop} {E : Value → Shared → Prop},
  Inv (X.suite a pn) pins σ H s → s.heap.get? a = some oe → m oe.cls = some b → (∀ h', (∀ q o, s.heap.get? q = some o → h'.get? q = some o) → Q b { s with heap := h' }) →
  wpAny (model X.prog X.w) (X.A.mark (some (.ref a))) (eval t X.env) (fun c s1 => wpAny (model X.prog X.w) (X.A.mark (some (.ref a))) (excMatches (.ref a) c) Q E s1) E s
section
variable {X : Cx} {n : Str} {tst : Expr} {m : Value → Option Bool} {i : Nat} {body suite : List Stmt} {b₀ : Stmt} {np pos pos' : Pos} {tb : WM → TS} {ts : TS} {Wout : WM}
end
end Mo
end
section
namespace Mo
open PySem L2 PyProof.Rows He
def extB (K : PySem.W.Frag) (C : Addr) (tl : List Value) (newId : String) : Bool := (match K.lookup C with
  | some ⟨.type "type", _, .cls cd, sl⟩ => (match cd.mro, sl.toList with
    | .ref C' :: bm, [_, _, _, _, some (.builtin n), _] => decide (C' = C) && (decide (n = newId) && (!cd.hasDel && (cd.hasDict && PySem.W.excTail tl bm)))
    | _, _ => false)
  | _ => false) && (eqO (PySem.W.findIn K (.ref C) "__setattr__") (some (some (.builtin "object.__setattr__"))) && (decide (PySem.W.subIn K (.ref C) (.type "BaseException") = some true) && (decide (PySem.W.typeIn K (.ref C) = some (.type "type")) && PySem.W.keepIn K (.ref C))))
def excB (K : PySem.W.Frag) (x : Str) (tl : List Value) (newId : String) (fsn : List Str) : Bool := extB K (ga K x) tl newId && (xfB K (ga K x) && (eqO (PySem.W.findIn K (.ref (ga K x)) "__init__") (some (some (.ref (ma K (ga K x) "__init__")))) && (decide (PySem.W.typeIn K (.ref (ma K (ga K x) "__init__")) = some (.type "function")) &&
  fsn.all fun f => eqO (PySem.W.findIn K (.ref (ga K x)) f) (some none))))
end Mo
end
section
namespace Mo
open PySem L2 PyProof.Rows He
section
variable {X : Cx}
inductive Nms (X : Cx) : List Expr → List Value → Prop
  | nil : Nms X [] []
  | cons {x : Str} {c : Value} {np : Pos} {es : List Expr} {cs : List Value} : Names X x c → Nms X es cs → Nms X (.Name x np :: es) (c :: cs)
theorem Nms.len {es : List Expr} {cs : List Value} (h : Nms X es cs) : cs.length = es.length := by
  induction h with
  | nil => rfl
  | cons _ _ ih => rw [List.length_cons, List.length_cons, ih]
end
end Mo
end
section
set_option maxHeartbeats 4000000
namespace Mo
open PySem L2 PyProof.Rows He PySem.W PySem.Calls
def icB (K : PySem.W.Frag) (D : Addr) : Bool := eqO (findIn K (.ref D) "__getattribute__") (some (some (.builtin "BaseException.__getattribute__"))) && (eqO (findIn K (.ref D) "__getattr__") (some none) && (decide (subIn K (.ref D) (.type "BaseException") = some true) &&
  (hasDictIn K D && (eqO (findIn K (.ref D) "__class__") (some (some (.builtin "object.__class__"))) && (eqO (specialIn K (.builtin "object.__class__") "__get__") (some (some (.builtin "getset_descriptor.__get__"))) && (decide (takesIn K (.builtin "object.__class__") = some true) && decide (mroIn K D (.type "object") = some true)))))))
section
variable {prog : Program} {w : World} {A : Around} {E : Value → Shared → Prop} {s : Shared} {K : PySem.W.Frag} {x D : Addr} {ox od : Obj}
variable {Q : Option Value → Shared → Prop}
end
end Mo
end
section
namespace Mo
open PySem L2 PyProof.Rows He
inductive Ct where
  | ty (T : String) | own (x : Str)
def Ct.v (K : PySem.W.Frag) : Ct → V
  | .ty T => .ty T
  | .own x => .ref (ga K x)
def Ct.u (K : PySem.W.Frag) : Ct → Value
  | .ty T => .type T
  | .own x => .ref (ga K x)
theorem Ct.cls (K : PySem.W.Frag) (c : Ct) : ClsV (c.v K) (c.u K) := match c with
  | .ty T => .ty T
  | .own x => .own _
section
variable {X : Cx} {pins : List (Addr × Obj)} {σ : L2.St} {H : Hp} {s : Shared}
end
def icO (K : PySem.W.Frag) (D : Addr) : Bool := eqO (PySem.W.findIn K (.ref D) "__class__") (some (some (.builtin "object.__class__"))) && (eqO (PySem.W.specialIn K (.builtin "object.__class__") "__get__") (some (some (.builtin "getset_descriptor.__get__"))) &&
  (decide (PySem.W.takesIn K (.builtin "object.__class__") = some true) && decide (PySem.W.mroIn K D (.type "object") = some true)))
def isB (K : PySem.W.Frag) (cA : Nat → Addr) (cts : List Ct) (tb : List (String × Bool)) (to tx : List (Nat × Bool)) : Bool := (tb.all fun q => decide (PySem.W.kitAny K (.type q.1) (cts.map (Ct.u K)) = some q.2)) &&
  ((to.all fun q => decide (PySem.W.kitAny K (.ref (cA q.1)) (cts.map (Ct.u K)) = some q.2) && icO K (cA q.1)) && tx.all fun q => decide (PySem.W.kitAny K (.ref (cA q.1)) (cts.map (Ct.u K)) = some q.2) && icB K (cA q.1))
section
variable {G : Gm} {E : WM} {X : Cx} {a c : Expr} {ma : ME} {cts : List Ct} {tb : List (String × Bool)} {to tx : List (Nat × Bool)} {x : Str} {p pos : Pos}
end
end Mo
end
section
namespace Mo
open PySem L2 PyProof.Rows He
def valB (o : Option PySem.W.CFound) (id : String) : Bool := match o with
  | some (.val (.builtin n)) => decide (n = id)
  | _ => false
def biB (K : PySem.W.Frag) (B initId : String) : Bool := valB (PySem.W.findCls K (.type B) (.type "type") "__init__") initId
def ciB (K : PySem.W.Frag) (x : Str) (initId : String) : Bool := eqO (PySem.W.specialIn K (.ref (ga K x)) "__getattribute__") (some (some (.builtin "type.__getattribute__"))) && (PySem.W.readsIn K (ga K x) (.type "type") && valB (PySem.W.findCls K (.ref (ga K x)) (.type "type") "__init__") initId)
section
variable {X : Cx} {B newId initId : String} {tl : List Value} {x f g : Str} {ts : TS}
end
def tryB1 (K : PySem.W.Frag) (cA : Nat → Addr) (u : Value) (ks cs : List Nat) : Bool := ks.all fun c => decide (PySem.W.exmOne K (.ref (cA c)) u = some (cs.contains c))
end Mo
end
section
set_option maxHeartbeats 4000000
namespace Mo
open PySem PySem.Spec L2 PyProof.Rows He
def neB (K : PySem.W.Frag) (C : Addr) : Bool := (match PySem.W.findIn K (.ref C) "__ne__" with
    | some (some (.builtin n)) => decide (n = "object.__ne__")
    | _ => false) && (decide (PySem.W.mroIn K C (.type "object") = some true) && ["NoneType", "bool", "int", "str", "tuple", "list", "dict"].all fun t => decide (PySem.W.subIn K (.type t) (.ref C) = some false))
section
variable {prog : Program} {w : World} {A : Around} {E : Value → Shared → Prop} {s : Shared} {K : PySem.W.Frag} {x C L f : Addr} {h₀ : Heap} {m : Str → Option Value} {ox : Obj} {od : Option Obj} {b tb : Value}
end
section
variable {G : Gm} {E : WM} {X : Cx}
end
section
variable {G : Gm} {E : WM} {X : Cx} {a : Expr} {es : List Expr} {as : MA} {x : Str} {p pos : Pos}
end
end Mo
end
section
set_option maxHeartbeats 1000000
namespace Mo
open PySem L2 PyProof.Rows He
section
variable {X : Cx} {pins : List (Addr × Obj)} {σ : L2.St} {H : Hp} {s : Shared} {T : List (Addr × Str)}
def Stays (H H' : Hp) : Prop := ∀ b o, H b = some o → (∀ ps, o ≠ .tbl ps) → H' b = some o
end
section
variable {G G' : Gm} {ρ : List Addr} {H : Hp}
end
end Mo
end
section
set_option maxHeartbeats 1000000
namespace Mo
open PySem L2 PyProof.Rows He
section
variable {G G' : Gm} {ρ : List Addr} {H : Hp} {E : XK}
theorem ORel.some {a : Addr} {o : O} (h : ORel G ρ H a o) : ∃ u, H a = some u ∧ ∀ ps, u ≠ .tbl ps := by
  cases o with
  | lst ds => obtain ⟨vs, e, r⟩ := h; exact ⟨_, e, fun _ z => nomatch z⟩
  | dic ds => obtain ⟨vs, e, r⟩ := h; exact ⟨_, e, fun _ z => nomatch z⟩
  | ins c fs => obtain ⟨dx, fvs, e, r⟩ := h; exact ⟨_, e, fun _ z => nomatch z⟩
  | xd fs => obtain ⟨fvs, e, r⟩ := h; exact ⟨_, e, fun _ z => nomatch z⟩
  | xc c m => obtain ⟨d, e1, e⟩ := h; exact ⟨_, e, fun _ z => by unfold exv at z; cases z⟩
  | odd => obtain ⟨kvs, e⟩ := h; exact ⟨_, e, fun _ z => nomatch z⟩
  | xn c => exact ⟨_, h, fun _ z => by unfold exn at z; cases z⟩
  | dt ds => obtain ⟨L, e, r⟩ := h; exact ⟨_, e, fun _ z => by unfold DTO at z; cases z⟩
  | dv kvs => obtain ⟨L, e, r⟩ := h; exact ⟨_, e, fun _ z => by unfold DVO at z; cases z⟩
  | dl kvs => obtain ⟨L, o, e, r⟩ := h; exact ⟨_, e, fun _ z => nomatch z⟩
  | dn kds => obtain ⟨L, e, r⟩ := h; exact ⟨_, e, fun _ z => by unfold DNO at z; cases z⟩
  | dm kds => obtain ⟨L, o, e, r⟩ := h; exact ⟨_, e, fun _ z => nomatch z⟩
theorem Stays.grow {H2 : Hp} {f : Addr} {o : Obj} (st : Stays H H2) (nf : H f = none) : Grow ρ H (ρ ++ [f]) H2 :=
  ⟨⟨[f], rfl⟩, fun b xs e => st _ _ e (fun _ z => nomatch z), fun b o u e => st _ _ e (fun _ z => nomatch z), fun b o e n k => ⟨st _ _ e k, fun m => by
    rcases List.mem_append.mp m with m | m
    · exact n m
    · exact ne_of_none e nf (List.mem_singleton.mp m)⟩⟩
end
section
variable {P : Program} {w : World} {K : PySem.W.Frag} {mg : Str → Option Value} {base : Heap} {fa : List Fa} {fn : List DefD} {ex : PySem.W.Frag → Bool} {k : Nat} {N : List Str} {a : Str} {Gf : List (List Addr × Hp) → Gm} {m : Nat → (Hm → R D) → MS} {d : DefD}
end
section
variable {X : Cx} {E : WM} {Gf : List (List Addr × Hp) → Gm} {params : Arguments} {body : Expr} {scope : Scope} {mb : ME} {a : Str} {N : List Str} {d : DefD} {k : Nat}
end
end Mo
end
section
set_option maxHeartbeats 1000000
namespace Mo
open PySem L2 PyProof.Rows He
section
variable {G : Gm} {E : WM} {X : Cx} {ρ : List Addr} {H H' : Hp} {h : Hm}
theorem Grow.keeps (k : ∀ b o, H b = some o → H' b = some o) : Grow ρ H ρ H' := ⟨⟨[], by simp⟩, fun b xs e => k b _ e, fun b o u e => k b _ e, fun b o e n _ => ⟨k b o e, n⟩⟩
theorem HRel.keeps (r : HRel G ρ H h) (k : ∀ b o, H b = some o → H' b = some o) : HRel G ρ H' h := by
  refine ⟨r.len, r.inj, fun a m => ?_, fun l o e => ?_, r.tabs.keep (fun b ps e => k _ _ e) (fun b o u e => k _ _ e), fun q hq => (r.root q hq).trans (Grow.keeps k).ext⟩
  · obtain ⟨o, e⟩ := r.has a m
    exact ⟨o, k _ _ e⟩
  · obtain ⟨a, e1, q⟩ := r.obj l o e
    obtain ⟨u, e2⟩ := r.has a (List.mem_of_getElem? e1)
    exact ⟨a, e1, q.grow (Grow.keeps k) (by rw [e2]; exact k _ _ e2)⟩
end
end Mo
end
section
set_option maxHeartbeats 1000000
namespace Mo
open PySem L2 PyProof.Rows PySem.W
structure EnG (items : Array Value) (lo : Addr) (h : Heap) (as : List Addr) : Prop where
  rise : as.Pairwise (· < ·)
  above : ∀ a ∈ as, lo < a
  pairs : ∀ (j : Nat) (a : Addr), as[j]? = some a → ∃ t x, items[j]? = some x ∧ h.get? a = some { cls := .type "tuple", data := .seq #[.int j t, x] }
theorem EnG.there {items : Array Value} {lo : Addr} {h : Heap} {as : List Addr} (g : EnG items lo h as) {a : Addr} (ha : a ∈ as) : a < h.objs.size := by
  obtain ⟨j, hj⟩ := List.mem_iff_getElem?.mp ha
  obtain ⟨_, _, _, e⟩ := g.pairs j a hj
  exact Heap.lt_size e
section
variable {prog : Program} {w : World} {A : Around} {s : Shared} {items : Array Value}
end
end Mo
end
section
set_option maxHeartbeats 4000000
namespace Mo
open PySem PySem.Spec L2 PyProof.Rows He
section
variable {X : Cx}
inductive PrH (P : Program) (w : World) (h : Heap) : List (Addr × L2.Key × V) → List (Value × L2.Key × Value) → Prop
  | nil : PrH P w h [] []
  | cons {a : Addr} {k : L2.Key} {v : V} {ps : List (Addr × L2.Key × V)} {u r : Value} {rs : List (Value × L2.Key × Value)} : h.IsTuple a #[u, r] → (mixKind P w).is k u = true → RelV v r → PrH P w h ps rs → PrH P w h ((a, k, v) :: ps) ((u, k, r) :: rs)
variable {P : Program} {w : World} {h : Heap}
theorem PrH.len {ps : List (Addr × L2.Key × V)} {rs : List (Value × L2.Key × Value)} (x : PrH P w h ps rs) : ps.length = rs.length := by
  induction x with
  | nil => rfl
  | cons _ _ _ _ ih => rw [List.length_cons, List.length_cons, ih]
end
section
variable {G : Gm} {E : WM}
end
end Mo
end
section
set_option maxHeartbeats 4000000
namespace Mo
open PySem L2 PyProof.Rows He
inductive HdK (X : Cx) : List ExceptHandler → List ((Value → Option Bool) × Nat × TS) → Prop
  | nil : HdK X [] []
  | cons {n : Str} {tst : Expr} {m : Value → Option Bool} {i : Nat} {b₀ : Stmt} {suite : List Stmt} {pos' : Pos} {ts : TS} {hds : List ExceptHandler} {l : List ((Value → Option Bool) × Nat × TS)} (hi : X.N[i]? = some n) (hln : X.env.kindOf n = some .local) (hc : Tst X tst m)
      (hsu : ∀ (a : Addr) (pn : List (Addr × Obj)), PSs (X.suite a pn) (b₀ :: suite) ts) (r : HdK X hds l) : HdK X (.ExceptHandler (some tst) (some n) (b₀ :: suite) pos' :: hds) ((m, i, ts) :: l)
section
variable {X : Cx} {body : List Stmt} {pos : Pos} {tb : WM → TS} {Wout : WM} {h₀ : ExceptHandler} {hds : List ExceptHandler} {l : List ((Value → Option Bool) × Nat × TS)}
end
inductive HdM (X : Cx) (G : Gm) (ks : List Nat) : List ExceptHandler → List (Nat × List Nat × MS) → List ((Value → Option Bool) × Nat × TS) → Prop
  | nil : HdM X G ks [] [] []
  | cons {n : Str} {tst : Expr} {m : Value → Option Bool} {i : Nat} {b₀ : Stmt} {suite : List Stmt} {pos' : Pos} {ms : MS} {cs : List Nat} {hds : List ExceptHandler} {hm : List (Nat × List Nat × MS)} {l : List ((Value → Option Bool) × Nat × TS)} (hi : X.N[i]? = some n) (hln : X.env.kindOf n = some .local) (hc : Tst X tst m)
      (hK : ∀ c, ks.contains c = true → m (.ref (G.cA c)) = some (cs.contains c)) (hsu : ∀ (a : Addr) (pn : List (Addr × Obj)), PSs (X.suite a pn) (b₀ :: suite) (rdS G EW ms)) (r : HdM X G ks hds hm l) :
      HdM X G ks (.ExceptHandler (some tst) (some n) (b₀ :: suite) pos' :: hds) ((i, cs, ms) :: hm) ((m, i, rdS G EW ms) :: l)
theorem HdM.k {X : Cx} {G : Gm} {ks : List Nat} {hds : List ExceptHandler} {hm : List (Nat × List Nat × MS)} {l : List ((Value → Option Bool) × Nat × TS)} (r : HdM X G ks hds hm l) : HdK X hds l := by
  induction r with
  | nil => exact .nil
  | cons hi hln hc hK hsu r ih => exact .cons hi hln hc hsu ih
section
variable {G : Gm} {E : WM} {X : Cx} {body : List Stmt} {pos : Pos} {mb : MS} {ks : List Nat} {h₀ : ExceptHandler} {hds : List ExceptHandler} {hm : List (Nat × List Nat × MS)} {l : List ((Value → Option Bool) × Nat × TS)}
end
end Mo
end
section
set_option maxHeartbeats 1000000
namespace Mo
open PySem L2 PyProof.Rows He
def addK {α : Type} (k : Nat → List Addr → α) : List Addr → Nat → List Addr → α
  | [], m, acc => k m acc
  | a :: r, m, acc => HandSHeadRun.frNat a fun a => match Nat.beq (Nat.land (Nat.shiftRight m a) 1) 1 with
    | true => addK k r m acc
    | false => HandSHeadRun.frNat (Nat.lor m (Nat.shiftLeft 1 a)) fun m => addK k r m (a :: acc)
def levK (g : Addr → Option Obj) : Nat → Nat → List Addr → List Addr → List Addr
  | 0, _, _, acc => acc
  | n + 1, m, fr, acc => addK (fun m new => levK g n m new (acc ++ new)) (fr.flatMap fun a => match g a with
    | some o => refsD o
    | none => []) m []
def asF (n : Nat) (g : Addr → Option Obj) : List Addr := levK g n (Nat.shiftLeft 1 mainGlobals) [mainGlobals] [mainGlobals] ++ [cStatics]
def obsMA (A : (Addr → Option Obj) → List Addr) (fa : List Fa) (fn : List DefD) (tq : TqL) (ex : PySem.W.Frag → Bool) (g : Addr → Option Obj) : AlD × Bool := (obsD fa fn (frM g (A g)), ex (frM g (A g)) && (tabsB g (tq.map (·.1)) (frM g (A g)) && (tqB (frM g (A g)) tq && sysB g)))
theorem saysL_ofA {A : (Addr → Option Obj) → List Addr} {fa : List Fa} {fn : List DefD} {tq : TqL} {ex : PySem.W.Frag → Bool} {h : Heap} (e : obsMA A fa fn tq ex h.get? = (valD fn, true)) : SaysL fa fn tq ex h (frM h.get? (A h.get?)) := by
  have e1 := congrArg (fun z : AlD × Bool => z.1) e
  have e2 : (ex (frM h.get? (A h.get?)) && (tabsB h.get? (tq.map (·.1)) (frM h.get? (A h.get?)) && (tqB (frM h.get? (A h.get?)) tq && sysB h.get?))) = true := congrArg (fun z : AlD × Bool => z.2) e
  obtain ⟨h1, h2⟩ := ba e2
  obtain ⟨h3, h4⟩ := ba h2
  obtain ⟨h5, h6⟩ := ba h4
  obtain ⟨h7, h8⟩ := ba h5
  have all : ∀ p ∈ tq, PySem.W.codeHdIn (frM h.get? (A h.get?)) (cT (frM h.get? (A h.get?)) p.1).1 (cT (frM h.get? (A h.get?)) p.1).2 = true ∧ ∃ o, h.get? (cT (frM h.get? (A h.get?)) p.1).2 = some o ∧ emptyTab o = true := fun p hp => by
    obtain ⟨u1, u2⟩ := ba (List.all_eq_true.mp h3 p.1 (List.mem_map_of_mem hp))
    cases z : h.get? (cT (frM h.get? (A h.get?)) p.1).2 with
    | none => rw [z] at u2; cases u2
    | some o => rw [z] at u2; exact ⟨u1, o, rfl, u2⟩
  refine ⟨⟨e1, h1⟩, fun p hp => (all p hp).1, fun p hp => ?_, fun p hp => ?_, of_decide_eq_true h7, fun p hp => ⟨fun z => ?_, fun z => ?_⟩, frM_sys, sysB_ok h6⟩
  · obtain ⟨_, o, z1, z2⟩ := all p hp
    exact frM_tab z1 z2
  · obtain ⟨_, o, z1, z2⟩ := all p hp
    rw [z1, emptyTab_eq z2]
  · obtain ⟨o, y⟩ := codeHd_some (all p hp).1
    rw [z, frM_sys] at y
    cases y
  · have y := List.all_eq_true.mp h8 p hp
    rw [z, show (sysModules == sysModules) = true from rfl] at y
    cases y
def hookMA (A : (Addr → Option Obj) → List Addr) (fa : List Fa) (fn : List DefD) (tq : TqL) (ex : PySem.W.Frag → Bool) : PySem.W.Hook where
  α := AlD × Bool
  obs := fun s => obsMA A fa fn tq ex s.heap.get?
  val := fun _ => (valD fn, true)
  says := fun _ h => ∃ K : PySem.W.Frag, K.In h ∧ SaysL fa fn tq ex h K
  of := fun _ _ e => ⟨_, frM_in, saysL_ofA e⟩
  keeps := fun _ _ _ ⟨K, hK, c⟩ k => ⟨K, PySem.W.Frag.In.keeps hK k, c.m, c.hd, c.out, (fun p hp => k _ _ (c.emp p hp)), c.nd, c.ns, c.sk, let ⟨o, e1, e2⟩ := c.sy; ⟨o, k _ _ e1, e2⟩⟩
end Mo
end
section
set_option maxHeartbeats 4000000
namespace Mo
open PySem PySem.Spec L2 PyProof.Rows He
section
variable {prog : Program} {w : World} {s : Shared} {K : PySem.W.Frag} {x C dx : Addr}
end
def eqRB (K : PySem.W.Frag) (C : Addr) : Bool := ["NoneType", "int", "str", "tuple", "list"].all fun t => decide (PySem.W.subIn K (.ref C) (.type t) = some false)
section
variable {G : Gm} {E : WM} {X : Cx}
end
section
variable {G : Gm} {E : WM} {X : Cx} {ma : ME}
variable {tg it elt : Expr} {ifs : List Expr} {scope : Scope} {own : List (Str × Nat)} {mi : MI} {t : MT} {one : Bool} {is : List Nat} {g : TG} {x : Str} {p pos pos2 : Pos}
end
end Mo
end
section
namespace Lw
open PySem Mo
def q_name : Str := ⟨#[110, 97, 109, 101]⟩
def q_word : Str := ⟨#[119, 111, 114, 100]⟩
def q_most_here : Str := ⟨#[109, 111, 115, 116, 95, 104, 101, 114, 101]⟩
def q_all_owners : Str := ⟨#[97, 108, 108, 95, 111, 119, 110, 101, 114, 115]⟩
def q_all_places : Str := ⟨#[97, 108, 108, 95, 112, 108, 97, 99, 101, 115]⟩
def q_touched : Str := ⟨#[116, 111, 117, 99, 104, 101, 100]⟩
end Lw
end
section
set_option maxHeartbeats 4000000
namespace Lw
open PySem L2 PyProof.Rows Mo He
def topS (i : Nat) : Stmt := PySem.Challenge.pw_tagmill_k21_whole_histories_of_rooms.main.body.getD i (.Pass ⟨0, 0, 0, 0⟩)
abbrev s_NoSuch_init : Stmt := inClass (topS 2) 0
abbrev s_Trap_init : Stmt := inClass (topS 4) 0
abbrev s_is_whole : Stmt := topS 7
abbrev s_Rooms_init : Stmt := inClass (topS 15) 0
abbrev s_number_of : Stmt := topS 13
abbrev s_Rooms_make_room : Stmt := inClass (topS 15) 1
abbrev s_Rooms_need_there : Stmt := inClass (topS 15) 2
abbrev s_Rooms_place_of : Stmt := inClass (topS 15) 3
abbrev s_Rooms_put_at : Stmt := inClass (topS 15) 5
abbrev s_Rooms_word_at : Stmt := inClass (topS 15) 4
abbrev s_is_number : Stmt := topS 14
abbrev s_Rooms_there : Stmt := inClass (topS 15) 8
abbrev s_Rooms_owners : Stmt := inClass (topS 15) 9
abbrev s_Rooms_end_rooms : Stmt := inClass (topS 15) 10
abbrev s_led : Stmt := topS 38
abbrev s_Rooms_all_kept : Stmt := inClass (topS 15) 17
abbrev s_Rooms_eq : Stmt := inClass (topS 15) 18
abbrev s_turns_right : Stmt := topS 39
abbrev s_Rooms_rooms_twin : Stmt := inClass (topS 15) 16
abbrev s_near_right : Stmt := topS 40
abbrev s_draws : Stmt := topS 17
abbrev s_take : Stmt := topS 18
abbrev s_begun : Stmt := topS 30
abbrev s_copied : Stmt := topS 33
abbrev s_owner_right : Stmt := topS 35
abbrev s_any_number : Stmt := topS 26
abbrev s_any_word : Stmt := topS 27
abbrev s_any_step : Stmt := topS 28
abbrev s_any_deed : Stmt := topS 29
abbrev s_make : Stmt := topS 21
abbrev s_lead : Stmt := topS 19
abbrev s_part : Stmt := topS 22
abbrev s_place : Stmt := topS 20
abbrev s_due : Stmt := topS 23
abbrev s_Rooms_part_of : Stmt := inClass (topS 15) 6
abbrev s_Rooms_size_of : Stmt := inClass (topS 15) 7
abbrev s_asked : Stmt := topS 24
abbrev s_done : Stmt := topS 25
abbrev s_noted : Stmt := topS 31
abbrev s_Rooms_len : Stmt := inClass (topS 15) 19
abbrev s_Rooms_need_made : Stmt := inClass (topS 15) 11
abbrev s_Rooms_places_of : Stmt := inClass (topS 15) 14
abbrev s_spoilt : Stmt := topS 36
abbrev s_Rooms_touches : Stmt := inClass (topS 15) 15
abbrev s_Rooms_repr : Stmt := inClass (topS 15) 20
abbrev s_Rooms_owner_of : Stmt := inClass (topS 15) 13
abbrev s_Rooms_is_gone : Stmt := inClass (topS 15) 12
abbrev s_alike : Stmt := topS 32
abbrev s_kept : Stmt := topS 34
abbrev s_equal_right : Stmt := topS 37
abbrev s_law : Stmt := topS 41
abbrev dd_NoSuch_init : DefD := ⟨("NoSuch", some "__init__"), "__init__", "NoSuch.__init__", defArgs s_NoSuch_init, defBody s_NoSuch_init, defScope s_NoSuch_init, [], []⟩
abbrev dd_Trap_init : DefD := ⟨("Trap", some "__init__"), "__init__", "Trap.__init__", defArgs s_Trap_init, defBody s_Trap_init, defScope s_Trap_init, [], []⟩
abbrev dd_is_whole : DefD := ⟨("is_whole", none), "is_whole", "is_whole", defArgs s_is_whole, defBody s_is_whole, defScope s_is_whole, [], [("least", .int 0), ("most", .int 999999999)]⟩
abbrev dd_Rooms_init : DefD := ⟨("Rooms", some "__init__"), "__init__", "Rooms.__init__", defArgs s_Rooms_init, defBody s_Rooms_init, defScope s_Rooms_init, [], [("most", .int 40)]⟩
abbrev dd_number_of : DefD := ⟨("number_of", none), "number_of", "number_of", defArgs s_number_of, defBody s_number_of, defScope s_number_of, [], []⟩
abbrev dd_Rooms_make_room : DefD := ⟨("Rooms", some "make_room"), "make_room", "Rooms.make_room", defArgs s_Rooms_make_room, defBody s_Rooms_make_room, defScope s_Rooms_make_room, [], []⟩
abbrev dd_Rooms_need_there : DefD := ⟨("Rooms", some "need_there"), "need_there", "Rooms.need_there", defArgs s_Rooms_need_there, defBody s_Rooms_need_there, defScope s_Rooms_need_there, [], []⟩
abbrev dd_Rooms_place_of : DefD := ⟨("Rooms", some "place_of"), "place_of", "Rooms.place_of", defArgs s_Rooms_place_of, defBody s_Rooms_place_of, defScope s_Rooms_place_of, [], []⟩
abbrev dd_Rooms_put_at : DefD := ⟨("Rooms", some "put_at"), "put_at", "Rooms.put_at", defArgs s_Rooms_put_at, defBody s_Rooms_put_at, defScope s_Rooms_put_at, [], []⟩
abbrev dd_Rooms_word_at : DefD := ⟨("Rooms", some "word_at"), "word_at", "Rooms.word_at", defArgs s_Rooms_word_at, defBody s_Rooms_word_at, defScope s_Rooms_word_at, [], []⟩
abbrev dd_is_number : DefD := ⟨("is_number", none), "is_number", "is_number", defArgs s_is_number, defBody s_is_number, defScope s_is_number, [], []⟩
abbrev dd_Rooms_there : DefD := ⟨("Rooms", some "there"), "there", "Rooms.there", defArgs s_Rooms_there, defBody s_Rooms_there, defScope s_Rooms_there, [], []⟩
abbrev dd_Rooms_owners : DefD := ⟨("Rooms", some "owners"), "owners", "Rooms.owners", defArgs s_Rooms_owners, defBody s_Rooms_owners, defScope s_Rooms_owners, [], []⟩
abbrev dd_Rooms_end_rooms : DefD := ⟨("Rooms", some "end_rooms"), "end_rooms", "Rooms.end_rooms", defArgs s_Rooms_end_rooms, defBody s_Rooms_end_rooms, defScope s_Rooms_end_rooms, [], []⟩
abbrev dd_led : DefD := ⟨("_law_led", none), "_law_led", "_law_led", defArgs s_led, defBody s_led, defScope s_led, [], []⟩
abbrev dd_Rooms_all_kept : DefD := ⟨("Rooms", some "all_kept"), "all_kept", "Rooms.all_kept", defArgs s_Rooms_all_kept, defBody s_Rooms_all_kept, defScope s_Rooms_all_kept, [], []⟩
abbrev dd_Rooms_eq : DefD := ⟨("Rooms", some "__eq__"), "__eq__", "Rooms.__eq__", defArgs s_Rooms_eq, defBody s_Rooms_eq, defScope s_Rooms_eq, [], []⟩
abbrev dd_turns_right : DefD := ⟨("_law_turns_right", none), "_law_turns_right", "_law_turns_right", defArgs s_turns_right, defBody s_turns_right, defScope s_turns_right, [], []⟩
abbrev dd_Rooms_rooms_twin : DefD := ⟨("Rooms", some "rooms_twin"), "rooms_twin", "Rooms.rooms_twin", defArgs s_Rooms_rooms_twin, defBody s_Rooms_rooms_twin, defScope s_Rooms_rooms_twin, [], []⟩
abbrev dd_near_right : DefD := ⟨("_law_near_right", none), "_law_near_right", "_law_near_right", defArgs s_near_right, defBody s_near_right, defScope s_near_right, [], []⟩
abbrev dd_draws : DefD := ⟨("_law_draws", none), "_law_draws", "_law_draws", defArgs s_draws, defBody s_draws, defScope s_draws, [], []⟩
abbrev dd_take : DefD := ⟨("_law_take", none), "_law_take", "_law_take", defArgs s_take, defBody s_take, defScope s_take, [], []⟩
abbrev dd_begun : DefD := ⟨("_law_begun", none), "_law_begun", "_law_begun", defArgs s_begun, defBody s_begun, defScope s_begun, [], []⟩
abbrev dd_copied : DefD := ⟨("_law_copied", none), "_law_copied", "_law_copied", defArgs s_copied, defBody s_copied, defScope s_copied, [], []⟩
abbrev dd_owner_right : DefD := ⟨("_law_owner_right", none), "_law_owner_right", "_law_owner_right", defArgs s_owner_right, defBody s_owner_right, defScope s_owner_right, [], []⟩
abbrev dd_any_number : DefD := ⟨("_law_any_number", none), "_law_any_number", "_law_any_number", defArgs s_any_number, defBody s_any_number, defScope s_any_number, [], []⟩
abbrev dd_any_word : DefD := ⟨("_law_any_word", none), "_law_any_word", "_law_any_word", defArgs s_any_word, defBody s_any_word, defScope s_any_word, [], []⟩
abbrev dd_any_step : DefD := ⟨("_law_any_step", none), "_law_any_step", "_law_any_step", defArgs s_any_step, defBody s_any_step, defScope s_any_step, [], []⟩
abbrev dd_any_deed : DefD := ⟨("_law_any_deed", none), "_law_any_deed", "_law_any_deed", defArgs s_any_deed, defBody s_any_deed, defScope s_any_deed, [], []⟩
abbrev dd_make : DefD := ⟨("_law_make", none), "_law_make", "_law_make", defArgs s_make, defBody s_make, defScope s_make, [], []⟩
abbrev dd_lead : DefD := ⟨("_law_lead", none), "_law_lead", "_law_lead", defArgs s_lead, defBody s_lead, defScope s_lead, [], []⟩
abbrev dd_part : DefD := ⟨("_law_part", none), "_law_part", "_law_part", defArgs s_part, defBody s_part, defScope s_part, [], []⟩
abbrev dd_place : DefD := ⟨("_law_place", none), "_law_place", "_law_place", defArgs s_place, defBody s_place, defScope s_place, [], []⟩
abbrev dd_due : DefD := ⟨("_law_due", none), "_law_due", "_law_due", defArgs s_due, defBody s_due, defScope s_due, [], []⟩
abbrev dd_Rooms_part_of : DefD := ⟨("Rooms", some "part_of"), "part_of", "Rooms.part_of", defArgs s_Rooms_part_of, defBody s_Rooms_part_of, defScope s_Rooms_part_of, [], []⟩
abbrev dd_Rooms_size_of : DefD := ⟨("Rooms", some "size_of"), "size_of", "Rooms.size_of", defArgs s_Rooms_size_of, defBody s_Rooms_size_of, defScope s_Rooms_size_of, [], []⟩
abbrev dd_asked : DefD := ⟨("_law_asked", none), "_law_asked", "_law_asked", defArgs s_asked, defBody s_asked, defScope s_asked, [], []⟩
abbrev dd_done : DefD := ⟨("_law_done", none), "_law_done", "_law_done", defArgs s_done, defBody s_done, defScope s_done, [], []⟩
abbrev dd_noted : DefD := ⟨("_law_noted", none), "_law_noted", "_law_noted", defArgs s_noted, defBody s_noted, defScope s_noted, [], []⟩
abbrev dd_Rooms_len : DefD := ⟨("Rooms", some "__len__"), "__len__", "Rooms.__len__", defArgs s_Rooms_len, defBody s_Rooms_len, defScope s_Rooms_len, [], []⟩
abbrev dd_Rooms_need_made : DefD := ⟨("Rooms", some "need_made"), "need_made", "Rooms.need_made", defArgs s_Rooms_need_made, defBody s_Rooms_need_made, defScope s_Rooms_need_made, [], []⟩
abbrev dd_Rooms_places_of : DefD := ⟨("Rooms", some "places_of"), "places_of", "Rooms.places_of", defArgs s_Rooms_places_of, defBody s_Rooms_places_of, defScope s_Rooms_places_of, [], []⟩
abbrev dd_spoilt : DefD := ⟨("_law_spoilt", none), "_law_spoilt", "_law_spoilt", defArgs s_spoilt, defBody s_spoilt, defScope s_spoilt, [], []⟩
abbrev dd_Rooms_touches : DefD := ⟨("Rooms", some "touches"), "touches", "Rooms.touches", defArgs s_Rooms_touches, defBody s_Rooms_touches, defScope s_Rooms_touches, [], []⟩
abbrev dd_Rooms_repr : DefD := ⟨("Rooms", some "__repr__"), "__repr__", "Rooms.__repr__", defArgs s_Rooms_repr, defBody s_Rooms_repr, defScope s_Rooms_repr, [], []⟩
abbrev dd_Rooms_owner_of : DefD := ⟨("Rooms", some "owner_of"), "owner_of", "Rooms.owner_of", defArgs s_Rooms_owner_of, defBody s_Rooms_owner_of, defScope s_Rooms_owner_of, [], []⟩
abbrev dd_Rooms_is_gone : DefD := ⟨("Rooms", some "is_gone"), "is_gone", "Rooms.is_gone", defArgs s_Rooms_is_gone, defBody s_Rooms_is_gone, defScope s_Rooms_is_gone, [], []⟩
abbrev dd_alike : DefD := ⟨("_law_alike", none), "_law_alike", "_law_alike", defArgs s_alike, defBody s_alike, defScope s_alike, [], []⟩
abbrev dd_kept : DefD := ⟨("_law_kept", none), "_law_kept", "_law_kept", defArgs s_kept, defBody s_kept, defScope s_kept, [], []⟩
abbrev dd_equal_right : DefD := ⟨("_law_equal_right", none), "_law_equal_right", "_law_equal_right", defArgs s_equal_right, defBody s_equal_right, defScope s_equal_right, [], []⟩
abbrev dd_law : DefD := ⟨("law", none), "law", "law", defArgs s_law, defBody s_law, defScope s_law, [], []⟩
abbrev fn_ : List DefD := [dd_NoSuch_init, dd_Trap_init, dd_is_whole, dd_Rooms_init, dd_number_of, dd_Rooms_make_room, dd_Rooms_need_there, dd_Rooms_place_of, dd_Rooms_put_at, dd_Rooms_word_at, dd_is_number, dd_Rooms_there, dd_Rooms_owners, dd_Rooms_end_rooms, dd_led, dd_Rooms_all_kept, dd_Rooms_eq, dd_turns_right, dd_Rooms_rooms_twin, dd_near_right, dd_draws, dd_take, dd_begun, dd_copied, dd_owner_right, dd_any_number, dd_any_word, dd_any_step, dd_any_deed, dd_make, dd_lead, dd_part, dd_place, dd_due, dd_Rooms_part_of, dd_Rooms_size_of, dd_asked, dd_done, dd_noted, dd_Rooms_len, dd_Rooms_need_made, dd_Rooms_places_of, dd_spoilt, dd_Rooms_touches, dd_Rooms_repr, dd_Rooms_owner_of, dd_Rooms_is_gone, dd_alike, dd_kept, dd_equal_right, dd_law]
abbrev fa_ : List Fa := [.glo "NoSuch", .glo "Lack", .glo "Trap", .free "ArithmeticError", .free "isinstance", .free "int", .free "bool", .glo "is_whole", .int "MOST_OF_ALL" 1000, .cls "Rooms", .noat "Rooms" q_most_here, .noat "Rooms" q_all_owners, .noat "Rooms" q_all_places, .noat "Rooms" q_touched, .mkr "Rooms", .glo "Rooms", .glo "number_of", .int "MOST_SIZE" 64, .free "len", .glo "ZERO", .meth "Rooms" "make_room", .meth "Rooms" "need_there", .meth "Rooms" "place_of", .meth "Rooms" "put_at", .meth "Rooms" "word_at", .glo "is_number", .free "sorted", .free "enumerate", .meth "Rooms" "there", .meth "Rooms" "owners", .meth "Rooms" "end_rooms", .glo "_law_led", .meth "Rooms" "all_kept", .meth "Rooms" "__eq__", .glo "_law_turns_right", .free "list", .meth "Rooms" "rooms_twin", .glo "_law_near_right", .glo "_law_draws", .glo "_law_take", .glo "_law_begun", .free "range", .glo "_law_copied", .glo "_law_owner_right", .glo "_law_any_number", .glo "_law_any_word", .glo "_law_any_step", .glo "_law_any_deed", .glo "_law_make", .glo "_law_lead", .glo "_law_part", .glo "_law_place", .glo "_law_due", .free "repr", .meth "Rooms" "part_of", .meth "Rooms" "size_of", .glo "_law_asked", .glo "_law_done", .glo "_law_noted", .meth "Rooms" "__len__", .meth "Rooms" "need_made", .meth "Rooms" "places_of", .glo "_law_spoilt", .free "tuple", .meth "Rooms" "touches", .meth "Rooms" "__repr__", .free "str", .free "set", .meth "Rooms" "owner_of", .meth "Rooms" "is_gone", .glo "_law_alike", .glo "_law_kept", .glo "_law_equal_right", .glo "law"]
def cA_ (K : PySem.W.Frag) : Nat → Addr := fun c => match c with | 0 => ga K "Rooms" | 1 => ga K "NoSuch" | 2 => ga K "Trap" | _ => 0
def ex_ (K : PySem.W.Frag) : Bool := ciB K "Lack" "LookupError.__init__" && (excB K "NoSuch" [.type "LookupError", .type "Exception", .type "BaseException", .type "object"] "LookupError.__new__" [q_name] && (biB K "ArithmeticError" "ArithmeticError.__init__" && (excB K "Trap" [.type "ArithmeticError", .type "Exception", .type "BaseException", .type "object"] "ArithmeticError.__new__" [q_word] && (isB K (cA_ K) [.own "Rooms"] [("NoneType", false), ("bool", false), ("int", false), ("str", false), ("tuple", false), ("list", false), ("dict", false)] [(0, true)] [] && (neB K (ga K "Rooms") && (tryB1 K (cA_ K) (.ref (ga K "NoSuch")) [1, 2] [1] && (tryB1 K (cA_ K) (.ref (ga K "Trap")) [1, 2] [2] && (eqRB K (ga K "Rooms") && (tupB K "ZERO" [.str "num", .int 0] && (true))))))))))
abbrev tq_ : TqL := []
section
variable {P : Program} {w : World} {K : PySem.W.Frag} {mg : Str → Option Value} {base : Heap} {rts : List (List Addr × Hp)}
end
end Lw
end
section
set_option maxHeartbeats 0
namespace Lw
open PySem PySem.Spec PyProof.Rows L2 Mo He
def loose0 : List Str := ["__name__", "Lack", "NoSuch", "BadNumber", "Trap", "GREAT", "is_whole", "MOST_ROOMS", "MOST_SIZE", "MOST_OF_ALL", "ZERO", "number_of", "is_number", "Rooms", "_law_draws", "_law_take", "_law_lead", "_law_place", "_law_make", "_law_part", "_law_due", "_law_asked", "_law_done", "_law_any_number", "_law_any_word", "_law_any_step", "_law_any_deed", "_law_begun", "_law_noted", "_law_alike"]
def loose1 : List Str := ["_law_copied", "_law_kept", "_law_owner_right", "_law_spoilt", "_law_equal_right", "_law_led", "_law_turns_right", "_law_near_right"]
def loose_ : List Str := loose0 ++ loose1
abbrev Rw : PySem.W.OpenRow := PySem.W.OpenLaw.row PySem.Challenge.rw_tagmill_k21_whole_histories_of_rooms
abbrev hk_ : PySem.W.Hook := hookMA (asF 5) fa_ fn_ tq_ ex_
def ob_ (s : PySem.W.SharedT) : AlD × Bool := obsMA (asF 5) fa_ fn_ tq_ ex_ (HandSHeadRun.getT s)
theorem run_ (w : World) : HandSHeadRun.RunEq Rw (PySem.W.view Rw.prog [41]) hk_ ob_ 6000 loose_ w := by
  intro os
  kernel_rfl
end Lw
open PySem PySem.W PySem.Calls PyProof.Rows
end
section
namespace Mo
open PySem
def eqS (x y : Str) : Bool := x.cps.toList == y.cps.toList
theorem eqS_iff {x y : Str} : eqS x y = true ↔ x = y := by
  unfold eqS
  constructor
  · intro e
    have e := eq_of_beq e
    cases x with
    | mk a =>
      cases y with
      | mk b => exact congrArg Str.mk (Array.ext' e)
  · intro e
    rw [e]
    exact beq_self_eq_true _
def strDec : (x y : Str) → Decidable (x = y) := fun x y => match h : eqS x y with
  | true => .isTrue (eqS_iff.mp h)
  | false => .isFalse fun e => by rw [eqS_iff.mpr e] at h; cases h
def keyDec : (a b : Key) → Decidable (a = b) := fun a b => match a, b with
  | .inl i, .inl j => if h : i = j then .isTrue (by rw [h]) else .isFalse fun e => h (Sum.inl.inj e)
  | .inr x, .inr y => match strDec x y with
    | .isTrue h => .isTrue (by rw [h])
    | .isFalse h => .isFalse fun e => h (Sum.inr.inj e)
  | .inl _, .inr _ => .isFalse fun e => nomatch e
  | .inr _, .inl _ => .isFalse fun e => nomatch e
def Hm.start : Hm := ⟨0, fun _ => none⟩
def Hm.put (h : Hm) (l : Nat) (o : O) : Hm := ⟨h.n, fun k => if k = l then some o else h.g k⟩
def R.stm {α : Type} (r : R α) (σ : List (Option D)) (f : α → Hm → RS) : RS := match r with
  | .ok a h => f a h
  | .exc c fs h => .exc c fs σ h
  | .bad => .bad
def R.quiet {α : Type} (r : R α) : R α := match r with
  | .ok a h => .ok a h
  | _ => .bad
abbrev ME := Env → Hm → R D
abbrev MA := Env → Hm → R (List D)
abbrev MT := Env → Hm → R Bool
abbrev Fn := List D → Hm → R D
structure It where
  xs : List D
  ok : Hm → Bool
abbrev MI := Env → Hm → R It
abbrev MG := D → Env → Hm → R Env
def eV (i : Nat) : ME := fun σ h => match σ[i]? with
  | some (some d) => .ok d h
  | _ => .bad
def eC (d : D) : ME := fun _ h => .ok d h
def eOp (f : D → D → Hm → R D) (a b : ME) : ME := fun σ h => (a σ h).bind fun x h1 => (b σ h1).bind fun y h2 => f x y h2
def eUn (f : D → Hm → R D) (a : ME) : ME := fun σ h => (a σ h).bind fun x h1 => f x h1
def aNil : MA := fun _ h => .ok [] h
def aCons (a : ME) (r : MA) : MA := fun σ h => (a σ h).bind fun x h1 => (r σ h1).bind fun xs h2 => .ok (x :: xs) h2
def ifR {α : Type} (c : Bool) (r : R α) : R α := match c with
  | true => r
  | false => .bad
def eTup (as : MA) : ME := fun σ h => (as σ h).bind fun ds h1 => ifR (decide (ds.length ≤ SL)) (.ok (.tup ds) h1)
def eLst (as : MA) : ME := fun σ h => (as σ h).bind fun ds h1 => ifR (decide (ds.length ≤ SL)) (.ok (.loc h1.n) (h1.new (.lst ds)))
def eIf (t : MT) (a b : ME) : ME := fun σ h => (t σ h).bind fun c h1 => match c with
  | true => a σ h1
  | false => b σ h1
def eAnd (a b : ME) : ME := fun σ h => (a σ h).bind fun x h1 => match x with
  | .bl true => b σ h1
  | .bl false => .ok (.bl false) h1
  | _ => .bad
def eOr (a b : ME) : ME := fun σ h => (a σ h).bind fun x h1 => match x with
  | .bl true => .ok (.bl true) h1
  | .bl false => b σ h1
  | _ => .bad
def eNot (a : ME) : ME := fun σ h => (a σ h).bind fun x h1 => match x with
  | .bl b => .ok (.bl (!b)) h1
  | _ => .bad
def tB (a : ME) : MT := fun σ h => (a σ h).bind fun x h1 => match x with
  | .bl b => .ok b h1
  | _ => .bad
def tAnd (a b : MT) : MT := fun σ h => (a σ h).bind fun c h1 => match c with
  | true => b σ h1
  | false => .ok false h1
def tOr (a b : MT) : MT := fun σ h => (a σ h).bind fun c h1 => match c with
  | true => .ok true h1
  | false => b σ h1
def tNot (a : MT) : MT := fun σ h => (a σ h).bind fun c h1 => .ok (!c) h1
def tYes : MT := fun _ h => .ok true h
def datL (f : D → Option PyData) : List D → Option (List PyData)
  | [] => some []
  | d :: ds => match f d, datL f ds with
    | some p, some ps => some (p :: ps)
    | _, _ => none
def dat : Nat → Hm → D → Option PyData
  | 0, _, _ => none
  | n + 1, h, d => match d with
    | .non => some .none
    | .bl b => some (.bool b)
    | .int i => some (.int i)
    | .str x => match PyData.strOk x with
      | true => some (.str x)
      | false => none
    | .tup ds => (datL (dat n h) ds).map .tuple
    | .kl xs => (datL (dat n h) xs).map .list
    | .loc l => match h.g l with
      | some (.lst xs) => (datL (dat n h) xs).map .list
      | _ => none
    | _ => none
def DEP : Nat := 12
def opAdd : D → D → Hm → R D
  | .int i, .int j, h => .ok (.int (i + j)) h
  | .str x, .str y, h => ifR (decide (x.length + y.length ≤ SL)) (.ok (.str (x ++ y)) h)
  | .loc a, .loc b, h => match h.g a, h.g b with
    | some (.lst xs), some (.lst ys) => ifR (decide (xs.length + ys.length ≤ SL)) (.ok (.loc h.n) (h.new (.lst (xs ++ ys))))
    | _, _ => .bad
  | _, _, _ => .bad
def opSub : D → D → Hm → R D
  | .int i, .int j, h => .ok (.int (i - j)) h
  | _, _, _ => .bad
def mulOk (i j : Int) : Bool := decide ((-(2 ^ 64) < i ∧ i < 2 ^ 64) ∨ (-(2 ^ 64) < j ∧ j < 2 ^ 64))
def opMul : D → D → Hm → R D
  | .int i, .int j, h => ifR (mulOk i j) (.ok (.int (i * j)) h)
  | .loc a, .int k, h => match h.g a with
    | some (.lst xs) => ifR (decide (-(2 ^ 63) ≤ k ∧ k < 2 ^ 63 ∧ xs.length * k.toNat ≤ SL)) (.ok (.loc h.n) (h.new (.lst (List.replicate k.toNat xs).flatten)))
    | _ => .bad
  | _, _, _ => .bad
def opMod : D → D → Hm → R D
  | .int i, .int j, h => ifR (decide (0 < j)) (.ok (.int (i % j)) h)
  | _, _, _ => .bad
def opFDiv : D → D → Hm → R D
  | .int i, .int j, h => ifR (decide (0 < j ∧ j < 1073741824)) (.ok (.int (i / j)) h)
  | _, _, _ => .bad
def opPow : D → D → Hm → R D
  | .int i, .int j, h => ifR (decide (0 ≤ j ∧ j ≤ 1000000 ∧ i.natAbs < 2 ^ 64)) (.ok (.int (i ^ j.toNat)) h)
  | _, _, _ => .bad
def opNeg : D → Hm → R D
  | .int i, h => .ok (.int (-i)) h
  | _, _ => .bad
def opCmp (p : Int → Int → Bool) : D → D → Hm → R D
  | .int i, .int j, h => .ok (.bl (p i j)) h
  | _, _, _ => .bad
abbrev opLt := opCmp fun i j => decide (i < j)
abbrev opLe := opCmp fun i j => decide (i ≤ j)
abbrev opGt := opCmp fun i j => decide (j < i)
abbrev opGe := opCmp fun i j => decide (j ≤ i)
def opEq (x y : D) (h : Hm) : R D := match x, y with
  | .int i, .int j => .ok (.bl (decide (i = j))) h
  | .str i, .str j => .ok (.bl (@decide (i = j) (strDec i j))) h
  | x, y => match dat DEP h x, dat DEP h y with
    | some p, some q => .ok (.bl (PyData.eqv p q)) h
    | _, _ => .bad
def opNe (x y : D) (h : Hm) : R D := match x, y with
  | .int i, .int j => .ok (.bl (!decide (i = j))) h
  | .str i, .str j => .ok (.bl (!@decide (i = j) (strDec i j))) h
  | x, y => match dat DEP h x, dat DEP h y with
    | some p, some q => .ok (.bl (!PyData.eqv p q)) h
    | _, _ => .bad
def opIsN (x : D) (h : Hm) : R D := .ok (.bl (decide (x = .non))) h
def opNotN (x : D) (h : Hm) : R D := .ok (.bl (!decide (x = .non))) h
def eChain (f g : D → D → Hm → R D) (a b c : ME) : ME := fun σ h => (a σ h).bind fun x h1 => (b σ h1).bind fun y h2 => (f x y h2).bind fun z h3 => match z with
  | .bl true => (c σ h3).bind fun w h4 => g y w h4
  | .bl false => .ok (.bl false) h3
  | _ => .bad
def kOf : D → Option Key
  | .int i => some (.inl i)
  | .str x => some (.inr x)
  | _ => none
def lookA (k : Key) : List (Key × D) → Option D
  | [] => none
  | (a, v) :: r => @ite _ (a = k) (keyDec a k) (some v) (lookA k r)
def putK (kvs : List (Key × D)) (k : Key) (v : D) : List (Key × D) := match kvs.any fun kv => @decide (kv.1 = k) (keyDec kv.1 k) with
  | true => kvs.map fun kv => @ite _ (kv.1 = k) (keyDec kv.1 k) (kv.1, v) kv
  | false => kvs ++ [(k, v)]
def ixI (n : Nat) (i : Int) : Option Nat := if 0 ≤ i then (if i < n then some i.toNat else none) else if -(n : Int) ≤ i then some (i + n).toNat else none
def nth {α : Type} (xs : List α) (i : Int) : Option α := (ixI xs.length i).bind fun j => xs[j]?
def optR {α : Type} (o : Option α) (h : Hm) : R α := match o with
  | some a => .ok a h
  | none => .bad
def opIx : D → D → Hm → R D
  | .tup ds, .int i, h => optR (nth ds i) h
  | x, .int i, h => match h.seq x with
    | some xs => optR (nth xs i) h
    | none => .bad
  | _, _, _ => .bad
def opDGet : D → D → Hm → R D
  | .loc l, y, h => match h.g l, kOf y with
    | some (.dic kvs), some k => optR (lookA k kvs) h
    | _, _ => .bad
  | _, _, _ => .bad
def sIx (n d : Nat) : Option Int → Nat
  | none => d
  | some v => if v < 0 then (v + (n : Int)).toNat else min v.toNat n
def cutL {α : Type} (xs : List α) (lo hi : Option Int) : List α := (xs.drop (sIx xs.length 0 lo)).take (sIx xs.length xs.length hi - sIx xs.length 0 lo)
abbrev MO := Env → Hm → R (Option Int)
def oNone : MO := fun _ h => .ok none h
def oSome (a : ME) : MO := fun σ h => (a σ h).bind fun x h1 => match x with
  | .int i => .ok (some i) h1
  | _ => .bad
def eSl (a : ME) (lo hi : MO) : ME := fun σ h => (a σ h).bind fun x h1 => (lo σ h1).bind fun l h2 => (hi σ h2).bind fun u h3 => match h3.seq x with
  | some xs => .ok (.loc h3.n) (h3.new (.lst (cutL xs l u)))
  | none => .bad
def callP (n m : Nat) (p : List D → List D → List D) (f : Fn) : List D → List D → Hm → R D := fun ds es h => ifR (decide (ds.length = n) && decide (es.length = m)) (f (p ds es) h)
def eCall (f : List D → List D → Hm → R D) (as ks : MA) : ME := fun σ h => (as σ h).bind fun ds h1 => (ks σ h1).bind fun es h2 => f ds es h2
def lookF (f : Str) : List (Str × D) → Option D
  | [] => none
  | (a, v) :: r => @ite _ (f = a) (strDec f a) (some v) (lookF f r)
def putF (f : Str) (v : D) : List (Str × D) → List (Str × D)
  | [] => [(f, v)]
  | (g, w) :: r => @ite _ (g = f) (strDec g f) ((g, v) :: r) ((g, w) :: putF f v r)
def eFld (a : ME) (cs : List Nat) (f : Str) : ME := fun σ h => (a σ h).bind fun x h1 => match x with
  | .loc l => match h1.g l with
    | some (.ins c fs) => ifR (cs.contains c) (optR (lookF f fs) h1)
    | _ => .bad
  | _ => .bad
def xfK (cs : List Nat) (f : Str) (x : D) (h1 : Hm) : R D := match x with
  | .loc l => match h1.g l with
    | some (.xc c m) => match h1.g m with
      | some (.xd fs) => ifR (cs.contains c) (optR (lookF f fs) h1)
      | _ => .bad
    | _ => .bad
  | _ => .bad
def eXf (a : ME) (cs : List Nat) (f : Str) : ME := fun σ h => (a σ h).bind (xfK cs f)
def pickF {α : Type} (c : Nat) : List (Nat × α) → Option α
  | [] => none
  | (d, f) :: r => if d = c then some f else pickF c r
def selM (m : Str) (ms : List (Nat × (List D → List D → Hm → R D))) (h : Hm) : D → Option (List D → List D → Hm → R D)
  | .loc l => match h.g l with
    | some (.ins c fs) => match pickF c ms, lookF m fs with
      | some f, none => some f
      | _, _ => none
    | _ => none
  | _ => none
def eMeth (a : ME) (m : Str) (ms : List (Nat × (List D → List D → Hm → R D))) (as ks : MA) : ME := fun σ h => (a σ h).bind fun x h1 => match selM m ms h1 x with
  | some f => (as σ h1).bind fun ds h2 => (ks σ h2).bind fun es h3 => f (x :: ds) es h3
  | none => .bad
def mkNew (c : Nat) (f : List D → List D → Hm → R D) (ds es : List D) (h : Hm) : R D := (f (.loc h.n :: ds) es (h.new (.ins c []))).bind fun v h1 => match v with
  | .non => .ok (.loc h.n) h1
  | _ => .bad
abbrev Bi := List D → Hm → R D
def eBi (b : Bi) (as : MA) : ME := fun σ h => (as σ h).bind fun ds h1 => b ds h1
def bLen : Bi
  | [.tup ds], h => .ok (.int ds.length) h
  | [.str x], h => ifR (decide (x.length ≤ SL)) (.ok (.int x.length) h)
  | [.kl xs], h => .ok (.int xs.length) h
  | [.loc l], h => match h.g l with
    | some (.lst xs) => .ok (.int xs.length) h
    | some (.dic kvs) => .ok (.int kvs.length) h
    | _ => .bad
  | _, _ => .bad
def bList : Bi
  | [.tup ds], h => .ok (.loc h.n) (h.new (.lst ds))
  | [x], h => match h.seq x with
    | some xs => .ok (.loc h.n) (h.new (.lst xs))
    | none => .bad
  | _, _ => .bad
def bTuple : Bi
  | [.tup ds], h => .ok (.tup ds) h
  | [x], h => match h.seq x with
    | some xs => .ok (.tup xs) h
    | none => .bad
  | _, _ => .bad
mutual
def tame : PyData → Bool
  | .none | .bool _ => true
  | .int i => decide (i.natAbs < 2 ^ 140)
  | .str x => PyData.strOk x
  | .list xs | .tuple xs => tameL xs
  | .dict _ => false
def tameL : List PyData → Bool
  | [] => true
  | x :: xs => tame x && tameL xs
end
def fits (p : PyData) : Bool := tame p && decide (p.bulk ≤ 90000)
def bRepr : Bi
  | [x], h => match dat DEP h x with
    | some p => ifR (fits p) (.ok (.str p.shown) h)
    | none => .bad
  | _, _ => .bad
def tyD (h : Hm) : D → Option String
  | .non => some "NoneType"
  | .bl _ => some "bool"
  | .int _ => some "int"
  | .str _ => some "str"
  | .tup _ => some "tuple"
  | .kl _ => some "list"
  | .loc l => match h.g l with
    | some (.lst _) => some "list"
    | some (.dic _) => some "dict"
    | _ => none
  | _ => none
def bIsi (T : String) : Bi
  | [x, .ty U], h => match tyD h x, decide (U = T) with
    | some t, true => .ok (.bl (t == T || (t == "bool" && T == "int"))) h
    | _, _ => .bad
  | _, _ => .bad
abbrev Mb := D → List D → Hm → R D
def eBM (T : String) (b : Mb) (o : ME) (as : MA) : ME := fun σ h => (o σ h).bind fun x h1 => ifR (decide (tyD h1 x = some T)) ((as σ h1).bind fun ds h2 => b x ds h2)
def mAppend : Mb
  | .loc l, [y], h => match h.g l with
    | some (.lst xs) => ifR (decide (xs.length < SL)) (.ok .non (h.put l (.lst (xs ++ [y]))))
    | _ => .bad
  | _, _, _ => .bad
def bInt : Bi
  | [.int i], h => .ok (.int i) h
  | [.bl b], h => .ok (.int (if b then 1 else 0)) h
  | _, _ => .bad
def flatD : D → Bool
  | .non | .bl _ | .int _ | .str _ => true
  | _ => false
def eqF : D → D → Bool
  | .non, .non => true
  | .bl a, .bl b => a == b
  | .bl a, .int b => (if a then 1 else 0) == b
  | .int a, .bl b => a == (if b then 1 else 0)
  | .int a, .int b => a == b
  | .str a, .str b => a == b
  | _, _ => false
def inD (x : D) (xs : List D) : Bool := xs.any fun y => eqF y x
def opIn (neg : Bool) (x y : D) (h : Hm) : R D := match y with
  | .tup ds => ifR (flatD x && ds.all flatD) (.ok (.bl (if neg then !inD x ds else inD x ds)) h)
  | y => match h.seq y with
    | some ds => ifR (flatD x && ds.all flatD) (.ok (.bl (if neg then !inD x ds else inD x ds)) h)
    | none => .bad
def pairsM : List (ME × ME) → Env → Hm → R (List (D × D))
  | [], _, h => .ok [] h
  | (k, v) :: r, σ, h => (k σ h).bind fun x h1 => (v σ h1).bind fun y h2 => (pairsM r σ h2).bind fun ps h3 => .ok ((x, y) :: ps) h3
def keyed : List (D × D) → Option (List (Key × D))
  | [] => some []
  | (x, y) :: r => match kOf x, keyed r with
    | some k, some ps => some ((k, y) :: ps)
    | _, _ => none
def eDict (ps : List (ME × ME)) : ME := fun σ h => (pairsM ps σ h).bind fun qs h1 => match keyed qs with
  | some kvs => ifR (decide (kvs.length ≤ 15)) (.ok (.loc h1.n) (h1.new (.dic (kvs.foldl (fun acc kv => putK acc kv.1 kv.2) []))))
  | none => .bad
def iSeq (a : ME) : MI := fun σ h => (a σ h).bind fun x h1 => match x with
  | .tup ds => .ok ⟨ds, fun _ => true⟩ h1
  | x => match h1.seq x with
    | some xs => .ok ⟨xs, fun h' => decide (h'.seq x = some xs)⟩ h1
    | none => .bad
def intsFrom (lo : Int) (n : Nat) : List D := (List.range n).map fun (i : Nat) => .int (lo + i)
def rngOf : List D → Hm → R It
  | [.int j], h => ifR (decide (-(2 ^ 62) ≤ j ∧ j < 2 ^ 62)) (.ok ⟨intsFrom 0 j.toNat, fun _ => true⟩ h)
  | [.int i, .int j], h => ifR (decide (-(2 ^ 62) ≤ i ∧ i < 2 ^ 62 ∧ -(2 ^ 62) ≤ j ∧ j < 2 ^ 62)) (.ok ⟨intsFrom i (j - i).toNat, fun _ => true⟩ h)
  | _, _ => .bad
def iRng (as : MA) : MI := fun σ h => (as σ h).bind rngOf
def numbered (i : Nat) : List D → List D
  | [] => []
  | x :: xs => .tup [.int i, x] :: numbered (i + 1) xs
def iEnum (a : ME) : MI := fun σ h => (a σ h).bind fun x h1 => match h1.seq x with
  | some xs => .ok ⟨numbered 0 xs, fun h' => decide (h'.seq x = some xs)⟩ h1
  | none => .bad
def gN (i : Nat) : MG := fun d σ h => .ok (σ.set i (some d)) h
def gsAll : List MG → List D → Env → Hm → R Env
  | [], [], σ, h => .ok σ h
  | g :: gs, d :: ds, σ, h => (g d σ h).bind fun σ1 h1 => gsAll gs ds σ1 h1
  | _, _, _, _ => .bad
def gT (n : Nat) (gs : List MG) : MG := fun d σ h => match d with
  | .tup ds => ifR (decide (ds.length = n)) (gsAll gs ds σ h)
  | _ => .bad
def gIx (o i : ME) : MG := fun d σ h => (o σ h).bind fun x h1 => (i σ h1).bind fun y h2 => match x, y with
  | .loc l, .int k => match h2.g l with
    | some (.lst xs) => match ixI xs.length k with
      | some j => .ok σ (h2.put l (.lst (xs.set j d)))
      | none => .bad
    | _ => .bad
  | _, _ => .bad
def fldK (cs : List Nat) (f : Str) (d : D) (σ : Env) (x : D) (h1 : Hm) : R Env := match x with
  | .loc l => match h1.g l with
    | some (.ins c fs) => ifR (cs.contains c && decide (fs.length < 1000)) (.ok σ (h1.put l (.ins c (putF f d fs))))
    | _ => .bad
  | _ => .bad
def gFld (a : ME) (cs : List Nat) (f : Str) : MG := fun d σ h => (a σ h).bind (fldK cs f d σ)
def sNext : MS := fun σ h => .nx σ h
def sSeq (a b : MS) : MS := fun σ h => match a σ h with
  | .nx σ1 h1 => b σ1 h1
  | r => r
def sExpr (e : ME) : MS := fun σ h => (e σ h).stm σ fun _ h1 => .nx σ h1
def sAsg (e : ME) (g : MG) : MS := fun σ h => (e σ h).stm σ fun x h1 => (g x σ h1).quiet.stm σ fun σ1 h2 => .nx σ1 h2
def sPar (is : List Nat) (as : MA) : MS := fun σ h => (as σ h).stm σ fun ds h1 => match is, ds with
  | [i, j], [x, y] => .nx ((σ.set i (some x)).set j (some y)) h1
  | [i, j, k], [x, y, z] => .nx (((σ.set i (some x)).set j (some y)).set k (some z)) h1
  | _, _ => .bad
def sFld (a : ME) (cs : List Nat) (f : Str) (e : ME) : MS := fun σ h => (e σ h).stm σ fun y h1 => (a σ h1).stm σ fun x h2 => match x with
  | .loc l => match h2.g l with
    | some (.ins c fs) => match cs.contains c && decide (fs.length < 1000) with
      | true => .nx σ (h2.put l (.ins c (putF f y fs)))
      | false => .bad
    | _ => .bad
  | _ => .bad
def sDPut (d k e : ME) : MS := fun σ h => (e σ h).stm σ fun v h1 => (d σ h1).stm σ fun x h2 => (k σ h2).stm σ fun y h3 => match x with
  | .loc l => match h3.g l, kOf y with
    | some (.dic kvs), some q => match decide (kvs.length < SL) with
      | true => .nx σ (h3.put l (.dic (putK kvs q v)))
      | false => .bad
    | _, _ => .bad
  | _ => .bad
def sRet (e : ME) : MS := fun σ h => (e σ h).stm σ fun x h1 => .rt x h1
def sRetN : MS := fun _ h => .rt .non h
def sIf (t : MT) (a b : MS) : MS := fun σ h => (t σ h).stm σ fun c h1 => match c with
  | true => a σ h1
  | false => b σ h1
def sBad : MS := fun _ _ => .bad
def sRaise (c : Nat) (fsn : List Str) (as : MA) : MS := fun σ h => (as σ h).stm σ fun ds h1 => match decide (ds.length = fsn.length) with
  | true => .exc c h1.n σ (h1.new (.xd (fsn.zip ds).reverse))
  | false => .bad
def goneN (i : Nat) : RS → RS
  | .nx σ h => .nx (σ.set i none) h
  | .bk σ h => .bk (σ.set i none) h
  | .ct σ h => .ct (σ.set i none) h
  | .rt d h => .rt d h
  | _ => .bad
def sTryAs (body : MS) (i : Nat) (ks cs : List Nat) (suite : MS) : MS := fun σ h => match body σ h with
  | .exc c l σ1 h1 => match ks.contains c, cs.contains c with
    | true, true => goneN i (suite (σ1.set i (some (.loc h1.n))) (h1.new (.xc c l)))
    | true, false => .exc c l σ1 h1
    | false, _ => .bad
  | r => r
def sBreak : MS := fun σ h => .bk σ h
def sCont : MS := fun σ h => .ct σ h
def forGo (g : MG) (body : MS) (ok : Hm → Bool) : List D → MS
  | [] => fun σ h => match ok h with
    | true => .nx σ h
    | false => .bad
  | d :: ds => fun σ h => match ok h with
    | false => .bad
    | true => (g d σ h).quiet.stm σ fun σ1 h1 => match body σ1 h1 with
      | .nx σ2 h2 => forGo g body ok ds σ2 h2
      | .ct σ2 h2 => forGo g body ok ds σ2 h2
      | .bk σ2 h2 => .nx σ2 h2
      | .rt d h2 => .rt d h2
      | .exc c fs σ2 h2 => .exc c fs σ2 h2
      | .bad => .bad
def sFor (it : MI) (g : MG) (body : MS) : MS := fun σ h => (it σ h).stm σ fun J h1 => forGo g body J.ok J.xs σ h1
def wipe (σ : Env) : List Nat → Env
  | [] => σ
  | v :: vs => (wipe σ vs).set v none
def setsN : List Nat → List D → Env → Option Env
  | [], [], σ => some σ
  | i :: is, d :: ds, σ => setsN is ds (σ.set i (some d))
  | _, _, _ => none
def bindC (one : Bool) (is : List Nat) (d : D) (σ : Env) : Option Env := match one, d with
  | true, d => setsN is [d] σ
  | false, .tup ds => setsN is ds σ
  | false, _ => none
def compGo (bd : D → Env → Option Env) (t : MT) (e : ME) (ok : Hm → Bool) (σ : Env) : List D → List D → Hm → R (List D)
  | [], acc, h => ifR (ok h) (.ok acc h)
  | d :: ds, acc, h => match ok h, bd d σ with
    | true, some σ1 => (t σ1 h).quiet.bind fun c h1 => match c with
      | false => compGo bd t e ok σ ds acc h1
      | true => (e σ1 h1).quiet.bind fun y h2 => ifR (decide (acc.length < SL)) (compGo bd t e ok σ ds (acc ++ [y]) h2)
    | _, _ => .bad
def eComp (it : MI) (own : List Nat) (one : Bool) (is : List Nat) (t : MT) (e : ME) : ME := fun σ h => (it σ h).bind fun J h1 =>
  (compGo (bindC one is) t e J.ok (wipe σ own) J.xs [] h1).bind fun acc h2 => .ok (.loc h2.n) (h2.new (.lst acc))
def fnOf (N : Nat) (body : MS) : Fn := fun ds h => match body (ds.map some ++ List.replicate (N - ds.length) none) h with
  | .nx _ h1 => .ok .non h1
  | .rt d h1 => .ok d h1
  | .exc c fs _ h1 => .exc c fs h1
  | _ => .bad
end Mo
end
section
namespace Mo
open PySem
def Ev {α : Type} (E : XE) (r : R α) (Q : α → Hm → Prop) : Prop := match r with
  | .ok a h => Q a h
  | .exc c fs h => E c fs h
  | .bad => False
structure Po where
  nx : Env → Hm → Prop
  rt : D → Hm → Prop
  bk : Env → Hm → Prop
  ct : Env → Hm → Prop
abbrev Po.nxt (P : Po) (K : Env → Hm → Prop) : Po := ⟨K, P.rt, P.bk, P.ct⟩
def EvS (E : XS) (r : RS) (P : Po) : Prop := match r with
  | .nx σ h => P.nx σ h
  | .rt d h => P.rt d h
  | .bk σ h => P.bk σ h
  | .ct σ h => P.ct σ h
  | .exc c fs σ h => E c fs σ h
  | .bad => False
theorem eqv_int {i j : Int} : PyData.eqv (.int i) (.int j) = decide (i = j) := by
  rw [Bool.eq_iff_iff]
  simp [PyData.eqv]
theorem eqv_str {i j : Str} : PyData.eqv (.str i) (.str j) = @decide (i = j) (strDec i j) := by
  rw [Bool.eq_iff_iff]
  simp [PyData.eqv]
def NB (x : D) (K : Bool → Prop) : Prop := ∃ v, x = .bl v ∧ K v
theorem nb {v : Bool} {K : Bool → Prop} (q : K v) : NB (.bl v) K := ⟨v, rfl, q⟩
def NI (x : D) (K : Int → Prop) : Prop := ∃ v, x = .int v ∧ K v
theorem ni {v : Int} {K : Int → Prop} (q : K v) : NI (.int v) K := ⟨v, rfl, q⟩
def NN (x : D) (K : Prop) : Prop := x = .non ∧ K
theorem nn {K : Prop} (q : K) : NN .non K := ⟨rfl, q⟩
def P2 (ds : List D) (K : D → D → Prop) : Prop := ∃ x y, ds = [x, y] ∧ K x y
theorem p2 {x y : D} {K : D → D → Prop} (q : K x y) : P2 [x, y] K := ⟨x, y, rfl, q⟩
def P3_ (ds : List D) (K : D → D → D → Prop) : Prop := ∃ x y z, ds = [x, y, z] ∧ K x y z
theorem p3 {x y z : D} {K : D → D → D → Prop} (q : K x y z) : P3_ [x, y, z] K := ⟨x, y, z, rfl, q⟩
theorem seq_loc {h : Hm} {l : Nat} {xs : List D} (e : h.g l = some (.lst xs)) : h.seq (.loc l) = some xs := by
  unfold Hm.seq
  simp only [e]
theorem sqL {h : Hm} {l : Nat} {xs : List D} {K : List D → Prop} (e : h.g l = some (.lst xs)) (q : K xs) : SQ h (.loc l) K := ⟨xs, seq_loc e, q⟩
def IT (h : Hm) (x : D) (K : It → Prop) : Prop := (∃ xs, x = .tup xs ∧ K ⟨xs, fun _ => true⟩) ∨ ∃ xs, h.seq x = some xs ∧ (∀ ds, x ≠ .tup ds) ∧ K ⟨xs, fun h' => decide (h'.seq x = some xs)⟩
theorem itT {h : Hm} {xs : List D} {K : It → Prop} (q : K ⟨xs, fun _ => true⟩) : IT h (.tup xs) K := .inl ⟨xs, rfl, q⟩
theorem itL {h : Hm} {l : Nat} {xs : List D} {K : It → Prop} (e : h.g l = some (.lst xs)) (q : K ⟨xs, fun h' => decide (h'.seq (.loc l) = some xs)⟩) : IT h (.loc l) K := .inr ⟨xs, seq_loc e, (fun _ z => nomatch z), q⟩
theorem itK {h : Hm} {xs : List D} {K : It → Prop} (q : K ⟨xs, fun _ => true⟩) : IT h (.kl xs) K := .inr ⟨xs, rfl, (fun _ z => nomatch z), by
  have e : (fun h' : Hm => decide (h'.seq (.kl xs) = some xs)) = fun _ => true := funext fun h' => decide_eq_true rfl
  rw [e]
  exact q⟩
def FL (h : Hm) (cs : List Nat) (f : Str) (x : D) (K : D → Prop) : Prop := ∃ l c fs v, x = .loc l ∧ h.g l = some (.ins c fs) ∧ cs.contains c = true ∧ lookF f fs = some v ∧ K v
theorem fl {h : Hm} {cs : List Nat} {f : Str} {l c : Nat} {fs : List (Str × D)} {v : D} {K : D → Prop} (e1 : h.g l = some (.ins c fs)) (e2 : cs.contains c = true) (e3 : lookF f fs = some v) (q : K v) : FL h cs f (.loc l) K := ⟨l, c, fs, v, rfl, e1, e2, e3, q⟩
def SM (m : Str) (ms : List (Nat × (List D → List D → Hm → R D))) (h : Hm) (x : D) (K : (List D → List D → Hm → R D) → Prop) : Prop := ∃ F, selM m ms h x = some F ∧ K F
theorem sm {m : Str} {ms : List (Nat × (List D → List D → Hm → R D))} {h : Hm} {l c : Nat} {fs : List (Str × D)} {F : List D → List D → Hm → R D} {K : (List D → List D → Hm → R D) → Prop} (e : h.g l = some (.ins c fs)) (e1 : pickF c ms = some F) (e2 : lookF m fs = none) (q : K F) : SM m ms h (.loc l) K := ⟨F, by
  unfold selM
  simp only [e, e1, e2], q⟩
def PF (h : Hm) (cs : List Nat) (x : D) (K : Nat → Nat → List (Str × D) → Prop) : Prop := ∃ l c fs, x = .loc l ∧ h.g l = some (.ins c fs) ∧ cs.contains c = true ∧ fs.length < 1000 ∧ K l c fs
theorem pf {h : Hm} {cs : List Nat} {l c : Nat} {fs : List (Str × D)} {K : Nat → Nat → List (Str × D) → Prop} (e1 : h.g l = some (.ins c fs)) (e2 : cs.contains c = true) (e3 : Nat.ble (fs.length + 1) 1000 = true) (q : K l c fs) : PF h cs (.loc l) K := ⟨l, c, fs, rfl, e1, e2, Nat.le_of_ble_eq_true e3, q⟩
def GI (h : Hm) (x y : D) (K : Nat → List D → Nat → Prop) : Prop := ∃ l i xs j, x = .loc l ∧ y = .int i ∧ h.g l = some (.lst xs) ∧ ixI xs.length i = some j ∧ K l xs j
theorem gi {h : Hm} {l : Nat} {i : Int} {xs : List D} {j : Nat} {K : Nat → List D → Nat → Prop} (e1 : h.g l = some (.lst xs)) (e2 : ixI xs.length i = some j) (q : K l xs j) : GI h (.loc l) (.int i) K := ⟨l, i, xs, j, rfl, rfl, e1, e2, q⟩
def DP (h : Hm) (x y : D) (K : Nat → List (Key × D) → Key → Prop) : Prop := ∃ l kvs k, x = .loc l ∧ h.g l = some (.dic kvs) ∧ kOf y = some k ∧ kvs.length < SL ∧ K l kvs k
theorem dp {h : Hm} {l : Nat} {y : D} {kvs : List (Key × D)} {k : Key} {K : Nat → List (Key × D) → Key → Prop} (e1 : h.g l = some (.dic kvs)) (e2 : kOf y = some k) (e3 : kvs.length < SL) (q : K l kvs k) : DP h (.loc l) y K := ⟨l, kvs, k, rfl, e1, e2, e3, q⟩
def KD (qs : List (D × D)) (K : List (Key × D) → Prop) : Prop := ∃ kvs, keyed qs = some kvs ∧ kvs.length ≤ 15 ∧ K (kvs.foldl (fun acc kv => putK acc kv.1 kv.2) [])
theorem kd {qs : List (D × D)} {kvs kws : List (Key × D)} {K : List (Key × D) → Prop} (e : keyed qs = some kvs) (e2 : Nat.ble kvs.length 15 = true) (e3 : kvs.foldl (fun acc kv => putK acc kv.1 kv.2) [] = kws) (q : K kws) : KD qs K := ⟨kvs, e, Nat.le_of_ble_eq_true e2, by rw [e3]; exact q⟩
def TY (h : Hm) (x : D) (T : String) (K : Prop) : Prop := tyD h x = some T ∧ K
theorem tyL {h : Hm} {l : Nat} {xs : List D} {K : Prop} (e : h.g l = some (.lst xs)) (q : K) : TY h (.loc l) "list" K := ⟨by unfold tyD; simp only [e], q⟩
theorem tyDc {h : Hm} {l : Nat} {xs : List (Key × D)} {K : Prop} (e : h.g l = some (.dic xs)) (q : K) : TY h (.loc l) "dict" K := ⟨by unfold tyD; simp only [e], q⟩
def RZ (fsn : List Str) (ds : List D) (K : List (Str × D) → Prop) : Prop := ds.length = fsn.length ∧ K (fsn.zip ds).reverse
theorem rz {fsn : List Str} {ds : List D} {K : List (Str × D) → Prop} (e : ds.length = fsn.length) (q : K (fsn.zip ds).reverse) : RZ fsn ds K := ⟨e, q⟩
def sel (c : Bool) (A B : Prop) : Prop := match c with
  | true => A
  | false => B
section
variable {α β : Type} {E : XE} {σ : Env} {h : Hm}
theorem Ev.mono {r : R α} {Q Q' : α → Hm → Prop} (w : Ev E r Q) (k : ∀ a h, Q a h → Q' a h) : Ev E r Q' := by
  cases r with
  | ok a h => exact k a h w
  | exc c fs h => exact w
  | bad => exact w
theorem EvS.mono {r : RS} {P P' : Po} {E : XS} (w : EvS E r P) (k1 : ∀ σ h, P.nx σ h → P'.nx σ h) (k2 : ∀ d h, P.rt d h → P'.rt d h) (k3 : ∀ σ h, P.bk σ h → P'.bk σ h) (k4 : ∀ σ h, P.ct σ h → P'.ct σ h): EvS E r P' := by
  cases r with
  | nx σ h => exact k1 _ _ w
  | rt d h => exact k2 _ _ w
  | bk σ h => exact k3 _ _ w
  | ct σ h => exact k4 _ _ w
  | exc c fs σ h => exact w
  | bad => exact w
theorem ev_bind {r : R α} {f : α → Hm → R β} {Q : β → Hm → Prop} (w : Ev E r fun a h1 => Ev E (f a h1) Q) : Ev E (r.bind f) Q := by
  cases r with
  | ok a h => exact w
  | exc c fs h => exact w
  | bad => exact w
theorem es_stm {E : XS} {P : Po} {r : R α} {f : α → Hm → RS} (w : Ev (fun c l h => E c l σ h) r fun a h1 => EvS E (f a h1) P) : EvS E (r.stm σ f) P := by
  cases r with
  | ok a h => exact w
  | exc c fs h => exact w
  | bad => exact w
theorem ev_ifR {c : Bool} {r : R α} {Q : α → Hm → Prop} (hc : c = true) (w : Ev E r Q) : Ev E (ifR c r) Q := by
  rw [hc]
  exact w
variable {Q : D → Hm → Prop} {QL : List D → Hm → Prop} {QB : Bool → Hm → Prop} {a b c : ME} {as ks : MA} {t u : MT}
theorem ev_var {i : Nat} {d : D} (e : σ[i]? = some (some d)) (q : Q d h) : Ev E (eV i σ h) Q := by
  unfold eV
  rw [e]
  exact q
theorem ev_c {d : D} (q : Q d h) : Ev E (eC d σ h) Q := q
theorem ev_op {f : D → D → Hm → R D} (q : Ev E (a σ h) fun x h1 => Ev E (b σ h1) fun y h2 => Ev E (f x y h2) Q) : Ev E (eOp f a b σ h) Q := ev_bind (q.mono fun x h1 w => ev_bind w)
theorem ev_un {f : D → Hm → R D} (q : Ev E (a σ h) fun x h1 => Ev E (f x h1) Q) : Ev E (eUn f a σ h) Q := ev_bind q
theorem ev_nil (q : QL [] h) : Ev E (aNil σ h) QL := q
theorem ev_cons (q : Ev E (a σ h) fun x h1 => Ev E (as σ h1) fun xs h2 => QL (x :: xs) h2) : Ev E (aCons a as σ h) QL := ev_bind (q.mono fun x h1 w => ev_bind w)
theorem ev_tup (q : Ev E (as σ h) fun ds h1 => TL ds (Q (.tup ds) h1)) : Ev E (eTup as σ h) Q := ev_bind (q.mono fun ds h1 w => ev_ifR (decide_eq_true (Nat.le_of_ble_eq_true w.1)) w.2)
theorem ev_lst (q : Ev E (as σ h) fun ds h1 => TL ds (Q (.loc h1.n) (h1.new (.lst ds)))) : Ev E (eLst as σ h) Q := ev_bind (q.mono fun ds h1 w => ev_ifR (decide_eq_true (Nat.le_of_ble_eq_true w.1)) w.2)
theorem sel_t {c : Bool} {A B : Prop} (hc : c = true) (w : A) : sel c A B := by
  rw [hc]
  exact w
theorem sel_f {c : Bool} {A B : Prop} (hc : c = false) (w : B) : sel c A B := by
  rw [hc]
  exact w
theorem sel_of {c : Bool} {A B : Prop} (k1 : c = true → A) (k2 : c = false → B) : sel c A B := by
  cases c with
  | true => exact k1 rfl
  | false => exact k2 rfl
theorem ev_eIf (q : Ev E (t σ h) fun c h1 => sel c (Ev E (a σ h1) Q) (Ev E (b σ h1) Q)) : Ev E (eIf t a b σ h) Q := ev_bind (q.mono fun c h1 w => by cases c <;> exact w)
theorem ev_and (q : Ev E (a σ h) fun x h1 => NB x fun v => sel v (Ev E (b σ h1) Q) (Q (.bl false) h1)) : Ev E (eAnd a b σ h) Q := ev_bind (q.mono fun x h1 ⟨v, e, w⟩ => by subst e; cases v <;> exact w)
theorem ev_or (q : Ev E (a σ h) fun x h1 => NB x fun v => sel v (Q (.bl true) h1) (Ev E (b σ h1) Q)) : Ev E (eOr a b σ h) Q := ev_bind (q.mono fun x h1 ⟨v, e, w⟩ => by subst e; cases v <;> exact w)
theorem ev_not (q : Ev E (a σ h) fun x h1 => NB x fun v => Q (.bl (!v)) h1) : Ev E (eNot a σ h) Q := ev_bind (q.mono fun x h1 ⟨v, e, w⟩ => by subst e; exact w)
theorem ev_chain {f g : D → D → Hm → R D} (q : Ev E (a σ h) fun x h1 => Ev E (b σ h1) fun y h2 => Ev E (f x y h2) fun z h3 => NB z fun v => sel v (Ev E (c σ h3) fun w h4 => Ev E (g y w h4) Q) (Q (.bl false) h3)) : Ev E (eChain f g a b c σ h) Q :=
  ev_bind (q.mono fun x h1 w => ev_bind (w.mono fun y h2 w => ev_bind (w.mono fun z h3 ⟨v, e, w⟩ => by
    subst e
    cases v with
    | true => exact ev_bind w
    | false => exact w)))
theorem ev_tB (q : Ev E (a σ h) fun x h1 => NB x fun v => QB v h1) : Ev E (tB a σ h) QB := ev_bind (q.mono fun x h1 ⟨v, e, w⟩ => by subst e; exact w)
theorem ev_tAnd (q : Ev E (t σ h) fun c h1 => sel c (Ev E (u σ h1) QB) (QB false h1)) : Ev E (tAnd t u σ h) QB := ev_bind (q.mono fun c h1 w => by cases c <;> exact w)
theorem ev_tOr (q : Ev E (t σ h) fun c h1 => sel c (QB true h1) (Ev E (u σ h1) QB)) : Ev E (tOr t u σ h) QB := ev_bind (q.mono fun c h1 w => by cases c <;> exact w)
theorem ev_tNot (q : Ev E (t σ h) fun c h1 => QB (!c) h1) : Ev E (tNot t σ h) QB := ev_bind q
theorem ev_tYes (q : QB true h) : Ev E (tYes σ h) QB := q
theorem ev_add {i j : Int} (q : Q (.int (i + j)) h) : Ev E (opAdd (.int i) (.int j) h) Q := q
theorem ev_sub {i j : Int} (q : Q (.int (i - j)) h) : Ev E (opSub (.int i) (.int j) h) Q := q
theorem ev_mul {i j : Int} (k : (-(2 ^ 64) < i ∧ i < 2 ^ 64) ∨ (-(2 ^ 64) < j ∧ j < 2 ^ 64)) (q : Q (.int (i * j)) h) : Ev E (opMul (.int i) (.int j) h) Q := ev_ifR (decide_eq_true k) q
theorem ev_rep {l : Nat} {xs : List D} {k : Int} (e : h.g l = some (.lst xs)) (k1 : -(2 ^ 63) ≤ k ∧ k < 2 ^ 63 ∧ xs.length * k.toNat ≤ SL) (q : Q (.loc h.n) (h.new (.lst (List.replicate k.toNat xs).flatten))) : Ev E (opMul (.loc l) (.int k) h) Q := by
  unfold opMul
  simp only [e]
  exact ev_ifR (decide_eq_true k1) q
theorem ev_mod {i j : Int} (k : 0 < j) (q : Q (.int (i % j)) h) : Ev E (opMod (.int i) (.int j) h) Q := ev_ifR (decide_eq_true k) q
theorem ev_fdiv {i j : Int} (k : 0 < j ∧ j < 1073741824) (q : Q (.int (i / j)) h) : Ev E (opFDiv (.int i) (.int j) h) Q := ev_ifR (decide_eq_true k) q
theorem ev_pow {i j : Int} (k : 0 ≤ j ∧ j ≤ 1000000 ∧ i.natAbs < 2 ^ 64) (q : Q (.int (i ^ j.toNat)) h) : Ev E (opPow (.int i) (.int j) h) Q := ev_ifR (decide_eq_true k) q
theorem ev_neg {i : Int} (q : Q (.int (-i)) h) : Ev E (opNeg (.int i) h) Q := q
theorem ev_lt {i j : Int} (q : Q (.bl (decide (i < j))) h) : Ev E (opLt (.int i) (.int j) h) Q := q
theorem ev_le {i j : Int} (q : Q (.bl (decide (i ≤ j))) h) : Ev E (opLe (.int i) (.int j) h) Q := q
theorem ev_gt {i j : Int} (q : Q (.bl (decide (j < i))) h) : Ev E (opGt (.int i) (.int j) h) Q := q
theorem ev_ge {i j : Int} (q : Q (.bl (decide (j ≤ i))) h) : Ev E (opGe (.int i) (.int j) h) Q := q
theorem ev_eqI {i j : Int} (q : Q (.bl (decide (i = j))) h) : Ev E (opEq (.int i) (.int j) h) Q := q
theorem ev_neI {i j : Int} (q : Q (.bl (!decide (i = j))) h) : Ev E (opNe (.int i) (.int j) h) Q := q
theorem ev_eqS {i j : Str} (q : Q (.bl (@decide (i = j) (strDec i j))) h) : Ev E (opEq (.str i) (.str j) h) Q := q
theorem ev_neS {i j : Str} (q : Q (.bl (!@decide (i = j) (strDec i j))) h) : Ev E (opNe (.str i) (.str j) h) Q := q
theorem dat_str {n : Nat} {x : Str} {p : PyData} (e : dat (n + 1) h (.str x) = some p) : p = .str x := by
  unfold dat at e
  simp only at e
  cases k : PyData.strOk x with
  | true => rw [k] at e; exact (Option.some.inj e).symm
  | false => rw [k] at e; cases e
theorem ev_eqD {x y : D} {p r : PyData} (e1 : dat DEP h x = some p) (e2 : dat DEP h y = some r) (q : Q (.bl (PyData.eqv p r)) h) : Ev E (opEq x y h) Q := by
  unfold opEq
  split
  · cases (show some _ = some _ from e1)
    cases (show some _ = some _ from e2)
    rw [eqv_int] at q
    exact q
  · cases dat_str e1
    cases dat_str e2
    rw [eqv_str] at q
    exact q
  · simp only [e1, e2]
    exact q
theorem ev_neD {x y : D} {p r : PyData} (e1 : dat DEP h x = some p) (e2 : dat DEP h y = some r) (q : Q (.bl (!PyData.eqv p r)) h) : Ev E (opNe x y h) Q := by
  unfold opNe
  split
  · cases (show some _ = some _ from e1)
    cases (show some _ = some _ from e2)
    rw [eqv_int] at q
    exact q
  · cases dat_str e1
    cases dat_str e2
    rw [eqv_str] at q
    exact q
  · simp only [e1, e2]
    exact q
theorem ev_isN {x : D} (q : Q (.bl (decide (x = .non))) h) : Ev E (opIsN x h) Q := q
theorem ev_notN {x : D} (q : Q (.bl (!decide (x = .non))) h) : Ev E (opNotN x h) Q := q
theorem ev_ixT {ds : List D} {i : Int} {d : D} (e : nth ds i = some d) (q : Q d h) : Ev E (opIx (.tup ds) (.int i) h) Q := by
  unfold opIx
  simp only [e]
  exact q
theorem ev_ixL {l : Nat} {xs : List D} {i : Int} {d : D} (e1 : h.g l = some (.lst xs)) (e : nth xs i = some d) (q : Q d h) : Ev E (opIx (.loc l) (.int i) h) Q := by
  unfold opIx Hm.seq
  simp only [e1, e]
  exact q
theorem ev_ixK {xs : List D} {i : Int} {d : D} (e : nth xs i = some d) (q : Q d h) : Ev E (opIx (.kl xs) (.int i) h) Q := by
  unfold opIx Hm.seq
  simp only [e]
  exact q
theorem ev_dgetS {l : Nat} {kvs : List (Key × D)} {k : Str} {d : D} (e1 : h.g l = some (.dic kvs)) (e : lookA (.inr k) kvs = some d) (q : Q d h) : Ev E (opDGet (.loc l) (.str k) h) Q := by
  unfold opDGet
  simp only [e1, kOf, e]
  exact q
theorem ev_oNone {QO : Option Int → Hm → Prop} (q : QO none h) : Ev E (oNone σ h) QO := q
theorem ev_oSome {QO : Option Int → Hm → Prop} (q : Ev E (a σ h) fun x h1 => NI x fun i => QO (some i) h1) : Ev E (oSome a σ h) QO := ev_bind (q.mono fun x h1 ⟨i, e, w⟩ => by subst e; exact w)
theorem ev_sl {lo hi : MO} (q : Ev E (a σ h) fun x h1 => Ev E (lo σ h1) fun l h2 => Ev E (hi σ h2) fun u h3 => SQ h3 x fun xs => Q (.loc h3.n) (h3.new (.lst (cutL xs l u)))) : Ev E (eSl a lo hi σ h) Q :=
  ev_bind (q.mono fun x h1 w => ev_bind (w.mono fun l h2 w => ev_bind (w.mono fun u h3 ⟨xs, e, w⟩ => by simp only [e]; exact w)))
theorem ev_fld {cs : List Nat} {f : Str} (q : Ev E (a σ h) fun x h1 => FL h1 cs f x fun v => Q v h1) : Ev E (eFld a cs f σ h) Q := ev_bind (q.mono fun x h1 ⟨l, c, fs, v, e, e1, e2, e3, w⟩ => by
  subst e
  simp only [e1, e2, e3]
  exact w)
theorem ev_call {f : List D → List D → Hm → R D} (q : Ev E (as σ h) fun ds h1 => Ev E (ks σ h1) fun es h2 => Ev E (f ds es h2) Q) : Ev E (eCall f as ks σ h) Q := ev_bind (q.mono fun x h1 w => ev_bind w)
theorem ev_callP {n m : Nat} {p : List D → List D → List D} {f : Fn} {ds es : List D} (k1 : ds.length = n) (k2 : es.length = m) (q : Ev E (f (p ds es) h) Q) : Ev E (callP n m p f ds es h) Q := ev_ifR (by rw [k1, k2]; simp) q
theorem ev_meth {m : Str} {ms : List (Nat × (List D → List D → Hm → R D))} (q : Ev E (a σ h) fun x h1 => SM m ms h1 x fun F => Ev E (as σ h1) fun ds h2 => Ev E (ks σ h2) fun es h3 => Ev E (F (x :: ds) es h3) Q) : Ev E (eMeth a m ms as ks σ h) Q := ev_bind (q.mono fun x h1 ⟨F, e, w⟩ => by
  simp only [e]
  exact ev_bind (w.mono fun ds h2 w => ev_bind w))
theorem ev_new {c : Nat} {f : List D → List D → Hm → R D} {ds es : List D} (q : Ev E (f (.loc h.n :: ds) es (h.new (.ins c []))) fun v h1 => NN v (Q (.loc h.n) h1)) : Ev E (mkNew c f ds es h) Q := ev_bind (q.mono fun v h1 ⟨e, w⟩ => by subst e; exact w)
theorem ev_bi {f : Bi} (q : Ev E (as σ h) fun ds h1 => Ev E (f ds h1) Q) : Ev E (eBi f as σ h) Q := ev_bind q
theorem ev_lenT {ds : List D} (q : Q (.int ds.length) h) : Ev E (bLen [.tup ds] h) Q := q
theorem ev_lenK {ds : List D} (q : Q (.int ds.length) h) : Ev E (bLen [.kl ds] h) Q := q
theorem ev_lenL {l : Nat} {xs : List D} (e : h.g l = some (.lst xs)) (q : Q (.int xs.length) h) : Ev E (bLen [.loc l] h) Q := by
  unfold bLen
  simp only [e]
  exact q
theorem ev_lenD {l : Nat} {kvs : List (Key × D)} (e : h.g l = some (.dic kvs)) (q : Q (.int kvs.length) h) : Ev E (bLen [.loc l] h) Q := by
  unfold bLen
  simp only [e]
  exact q
theorem ev_listT {ds : List D} (q : Q (.loc h.n) (h.new (.lst ds))) : Ev E (bList [.tup ds] h) Q := q
theorem ev_listK {ds : List D} (q : Q (.loc h.n) (h.new (.lst ds))) : Ev E (bList [.kl ds] h) Q := q
theorem ev_listL {l : Nat} {xs : List D} (e : h.g l = some (.lst xs)) (q : Q (.loc h.n) (h.new (.lst xs))) : Ev E (bList [.loc l] h) Q := by
  unfold bList Hm.seq
  simp only [e]
  exact q
theorem ev_tupL {l : Nat} {xs : List D} (e : h.g l = some (.lst xs)) (q : Q (.tup xs) h) : Ev E (bTuple [.loc l] h) Q := by
  unfold bTuple Hm.seq
  simp only [e]
  exact q
theorem ev_tupT {ds : List D} (q : Q (.tup ds) h) : Ev E (bTuple [.tup ds] h) Q := q
theorem ev_tupK {ds : List D} (q : Q (.tup ds) h) : Ev E (bTuple [.kl ds] h) Q := q
theorem ev_repr {x : D} {p : PyData} (e : dat DEP h x = some p) (k : fits p = true) (q : Q (.str p.shown) h) : Ev E (bRepr [x] h) Q := by
  unfold bRepr
  simp only [e]
  exact ev_ifR k q
theorem ev_isi {T t : String} {x : D} (e : tyD h x = some t) (q : Q (.bl (t == T || (t == "bool" && T == "int"))) h) : Ev E (bIsi T [x, .ty T] h) Q := by
  unfold bIsi
  simp only [e, decide_eq_true rfl]
  exact q
theorem ev_bm {T : String} {f : Mb} (q : Ev E (a σ h) fun x h1 => TY h1 x T (Ev E (as σ h1) fun ds h2 => Ev E (f x ds h2) Q)) : Ev E (eBM T f a as σ h) Q := ev_bind (q.mono fun x h1 ⟨e, w⟩ => ev_ifR (decide_eq_true e) (ev_bind w))
theorem ev_append {l : Nat} {xs : List D} {y : D} (e : h.g l = some (.lst xs)) (k : xs.length < SL) (q : Q .non (h.put l (.lst (xs ++ [y])))) : Ev E (mAppend (.loc l) [y] h) Q := by
  unfold mAppend
  simp only [e]
  exact ev_ifR (decide_eq_true k) q
theorem ev_pnil {QP : List (D × D) → Hm → Prop} (q : QP [] h) : Ev E (pairsM [] σ h) QP := q
theorem ev_pcons {QP : List (D × D) → Hm → Prop} {ps : List (ME × ME)} (q : Ev E (a σ h) fun x h1 => Ev E (b σ h1) fun y h2 => Ev E (pairsM ps σ h2) fun r h3 => QP ((x, y) :: r) h3) : Ev E (pairsM ((a, b) :: ps) σ h) QP := ev_bind (q.mono fun x h1 w => ev_bind (w.mono fun y h2 w => ev_bind w))
theorem ev_dict {ps : List (ME × ME)} (q : Ev E (pairsM ps σ h) fun qs h1 => KD qs fun kvs => Q (.loc h1.n) (h1.new (.dic kvs))) : Ev E (eDict ps σ h) Q := ev_bind (q.mono fun qs h1 ⟨kvs, e, k, w⟩ => by
  simp only [e]
  exact ev_ifR (decide_eq_true k) w)
variable {QE : Env → Hm → Prop} {g : MG}
theorem ev_gN {i : Nat} {d : D} (q : QE (σ.set i (some d)) h) : Ev E (gN i d σ h) QE := q
theorem ev_gnil (q : QE σ h) : Ev E (gsAll [] [] σ h) QE := q
theorem ev_gcons {gs : List MG} {d : D} {ds : List D} (q : Ev E (g d σ h) fun σ1 h1 => Ev E (gsAll gs ds σ1 h1) QE) : Ev E (gsAll (g :: gs) (d :: ds) σ h) QE := ev_bind q
theorem ev_gT {n : Nat} {gs : List MG} {ds : List D} (k : ds.length = n) (q : Ev E (gsAll gs ds σ h) QE) : Ev E (gT n gs (.tup ds) σ h) QE := ev_ifR (decide_eq_true k) q
theorem ev_gIx {d : D} (q : Ev E (a σ h) fun x h1 => Ev E (b σ h1) fun y h2 => GI h2 x y fun l xs j => QE σ (h2.put l (.lst (xs.set j d)))) : Ev E (gIx a b d σ h) QE := ev_bind (q.mono fun x h1 w => ev_bind (w.mono fun y h2 ⟨l, i, xs, j, e1, e2, e3, e4, w2⟩ => by
  subst e1 e2
  simp only [e3, e4]
  exact w2))
theorem ev_gFld {cs : List Nat} {f : Str} {d : D} (q : Ev E (a σ h) fun x h1 => PF h1 cs x fun l c fs => QE σ (h1.put l (.ins c (putF f d fs)))) : Ev E (gFld a cs f d σ h) QE := ev_bind (q.mono fun x h1 ⟨l, c, fs, e, e1, e2, e3, w⟩ => by
  subst e
  unfold fldK
  simp only [e1]
  exact ev_ifR (by rw [e2, decide_eq_true e3]; rfl) w)
theorem ev_quiet0 {E : XE} {r : R α} {Q : α → Hm → Prop} (w : Ev (fun _ _ _ => False) r Q) : Ev E r.quiet Q := by
  cases r with
  | ok a h => exact w
  | exc c fs h => exact w
  | bad => exact w
end
section
variable {α : Type} {E : XS} {σ : Env} {h : Hm} {Q : D → Hm → Prop} {QL : List D → Hm → Prop} {QB : Bool → Hm → Prop} {QE : Env → Hm → Prop} {a b c : ME} {as ks : MA} {t u : MT} {g : MG}
variable {P : Po} {s1 s2 : MS}
theorem es_next (q : P.nx σ h) : EvS E (sNext σ h) P := q
theorem es_seq (q : EvS E (s1 σ h) (P.nxt fun σ1 h1 => EvS E (s2 σ1 h1) P)) : EvS E (sSeq s1 s2 σ h) P := by
  unfold sSeq
  cases e : s1 σ h with
  | nx σ1 h1 => rw [e] at q; exact q
  | _ => rw [e] at q; exact q
theorem es_expr (q : Ev (E.at σ) (a σ h) fun _ h1 => P.nx σ h1) : EvS E (sExpr a σ h) P := es_stm q
theorem es_asg (q : Ev (E.at σ) (a σ h) fun x h1 => Ev (fun _ _ _ => False) (g x σ h1) fun σ1 h2 => P.nx σ1 h2) : EvS E (sAsg a g σ h) P := es_stm (q.mono fun x h1 w => es_stm (ev_quiet0 w))
theorem es_par2 {i j : Nat} (q : Ev (E.at σ) (as σ h) fun ds h1 => P2 ds fun x y => P.nx ((σ.set i (some x)).set j (some y)) h1) : EvS E (sPar [i, j] as σ h) P := es_stm (q.mono fun ds h1 ⟨x, y, e, w⟩ => by subst e; exact w)
theorem es_par3 {i j k : Nat} (q : Ev (E.at σ) (as σ h) fun ds h1 => P3_ ds fun x y z => P.nx (((σ.set i (some x)).set j (some y)).set k (some z)) h1) : EvS E (sPar [i, j, k] as σ h) P := es_stm (q.mono fun ds h1 ⟨x, y, z, e, w⟩ => by subst e; exact w)
theorem es_fld {cs : List Nat} {f : Str} (q : Ev (E.at σ) (b σ h) fun y h1 => Ev (E.at σ) (a σ h1) fun x h2 => PF h2 cs x fun l c fs => P.nx σ (h2.put l (.ins c (putF f y fs)))) : EvS E (sFld a cs f b σ h) P := es_stm (q.mono fun y h1 w => es_stm (w.mono fun x h2 ⟨l, c, fs, e, e1, e2, e3, w⟩ => by
  subst e
  have k : (cs.contains c && decide (fs.length < 1000)) = true := by rw [e2, decide_eq_true e3]; rfl
  simp only [e1, k]
  exact w))
theorem es_dputS {d k : ME} (q : Ev (E.at σ) (a σ h) fun v h1 => Ev (E.at σ) (d σ h1) fun x h2 => Ev (E.at σ) (k σ h2) fun y h3 => DP h3 x y fun l kvs kk => P.nx σ (h3.put l (.dic (putK kvs kk v)))) : EvS E (sDPut d k a σ h) P :=
  es_stm (q.mono fun v h1 w => es_stm (w.mono fun x h2 w => es_stm (w.mono fun y h3 ⟨l, kvs, kk, e, e1, e2, e3, w2⟩ => by
    subst e
    simp only [e1, e2, decide_eq_true e3]
    exact w2)))
theorem es_ret (q : Ev (E.at σ) (a σ h) P.rt) : EvS E (sRet a σ h) P := es_stm q
theorem es_retN (q : P.rt .non h) : EvS E (sRetN σ h) P := q
theorem es_if (q : Ev (E.at σ) (t σ h) fun c h1 => sel c (EvS E (s1 σ h1) P) (EvS E (s2 σ h1) P)) : EvS E (sIf t s1 s2 σ h) P := es_stm (q.mono fun c h1 w => by cases c <;> exact w)
theorem es_break (q : P.bk σ h) : EvS E (sBreak σ h) P := q
theorem es_cont (q : P.ct σ h) : EvS E (sCont σ h) P := q
abbrev poF (Q : D → Hm → Prop) : Po := ⟨fun _ h => Q .non h, Q, fun _ _ => False, fun _ _ => False⟩
theorem ev_fn {E : XE} {N : Nat} {body : MS} {ds : List D} (q : EvS (fun c l _ h => E c l h) (body (ds.map some ++ List.replicate (N - ds.length) none) h) (poF Q)) : Ev E (fnOf N body ds h) Q := by
  unfold fnOf
  cases e : body (ds.map some ++ List.replicate (N - ds.length) none) h with
  | nx σ h1 => rw [e] at q; exact q
  | rt d h1 => rw [e] at q; exact q
  | exc c fs σ h1 => rw [e] at q; exact q
  | bk σ h1 => rw [e] at q; exact q.elim
  | ct σ h1 => rw [e] at q; exact q.elim
  | bad => rw [e] at q; exact q.elim
theorem ev_iSeq {E : XE} {QI : It → Hm → Prop} (q : Ev E (a σ h) fun x h1 => IT h1 x fun J => QI J h1) : Ev E (iSeq a σ h) QI := ev_bind (q.mono fun x h1 w => by
  rcases w with ⟨xs, e, w⟩ | ⟨xs, e, n, w⟩
  · subst e
    exact w
  · cases x with
    | tup ds => exact absurd rfl (n ds)
    | _ => simp only [e]; exact w)
theorem ev_rng1 {E : XE} {QI : It → Hm → Prop} (q : Ev E (as σ h) fun ds h1 => R1 ds fun j => QI ⟨intsFrom 0 j.toNat, fun _ => true⟩ h1) : Ev E (iRng as σ h) QI := ev_bind (q.mono fun ds h1 ⟨j, e, k, w⟩ => by subst e; exact ev_ifR (decide_eq_true k) w)
theorem ev_rng2 {E : XE} {QI : It → Hm → Prop} (q : Ev E (as σ h) fun ds h1 => R2_ ds fun i j => QI ⟨intsFrom i (j - i).toNat, fun _ => true⟩ h1) : Ev E (iRng as σ h) QI := ev_bind (q.mono fun ds h1 ⟨i, j, e, k, w⟩ => by subst e; exact ev_ifR (decide_eq_true k) w)
theorem ev_enum {E : XE} {QI : It → Hm → Prop} (q : Ev E (a σ h) fun x h1 => SQ h1 x fun xs => QI ⟨numbered 0 xs, fun h' => decide (h'.seq x = some xs)⟩ h1) : Ev E (iEnum a σ h) QI := ev_bind (q.mono fun x h1 ⟨xs, e, w⟩ => by simp only [e]; exact w)
theorem es_raise {c : Nat} {fsn : List Str} (q : Ev (E.at σ) (as σ h) fun ds h1 => RZ fsn ds fun fs => E c h1.n σ (h1.new (.xd fs))) : EvS E (sRaise c fsn as σ h) P := es_stm (q.mono fun ds h1 ⟨e, w⟩ => by
  simp only [decide_eq_true e]
  exact w)
theorem es_try {i : Nat} {ks cs : List Nat} (q : EvS (fun c l σ1 h1 => ks.contains c = true ∧ sel (cs.contains c) (EvS E (goneN i (s2 (σ1.set i (some (.loc h1.n))) (h1.new (.xc c l)))) P) (E c l σ1 h1)) (s1 σ h) P) : EvS E (sTryAs s1 i ks cs s2 σ h) P := by
  unfold sTryAs
  cases e : s1 σ h with
  | exc c l σ1 h1 =>
    rw [e] at q
    have q : ks.contains c = true ∧ sel (cs.contains c) (EvS E (goneN i (s2 (σ1.set i (some (.loc h1.n))) (h1.new (.xc c l)))) P) (E c l σ1 h1) := q
    show EvS E (match ks.contains c, cs.contains c with | true, true => _ | true, false => _ | false, _ => _) P
    rw [q.1]
    have q := q.2
    cases k : cs.contains c with
    | true => rw [k] at q; exact q
    | false => rw [k] at q; exact q
  | _ => rw [e] at q; exact q
theorem es_gone {i : Nat} {r : RS} (q : EvS (fun _ _ _ _ => False) r ⟨fun σ h => P.nx (σ.set i none) h, P.rt, fun σ h => P.bk (σ.set i none) h, fun σ h => P.ct (σ.set i none) h⟩) : EvS E (goneN i r) P := by
  cases r <;> exact q
theorem es_for {it : MI} {body : MS} (q : Ev (E.at σ) (it σ h) fun J h1 => EvS E (forGo g body J.ok J.xs σ h1) P) : EvS E (sFor it g body σ h) P := es_stm q
theorem for_nil {body : MS} {ok : Hm → Bool} (k : ok h = true) (q : P.nx σ h) : EvS E (forGo g body ok [] σ h) P := by
  unfold forGo
  rw [k]
  exact q
theorem for_cons {body : MS} {ok : Hm → Bool} {d : D} {ds : List D} (k : ok h = true) (q : Ev (fun _ _ _ => False) (g d σ h) fun σ1 h1 => EvS E (body σ1 h1) ⟨fun σ2 h2 => EvS E (forGo g body ok ds σ2 h2) P, P.rt, P.nx, fun σ2 h2 => EvS E (forGo g body ok ds σ2 h2) P⟩) : EvS E (forGo g body ok (d :: ds) σ h) P := by
  unfold forGo
  rw [k]
  refine es_stm (ev_quiet0 (q.mono fun σ1 h1 w => ?_))
  cases e : body σ1 h1 with
  | nx σ2 h2 => rw [e] at w; exact w
  | ct σ2 h2 => rw [e] at w; exact w
  | bk σ2 h2 => rw [e] at w; exact w
  | rt d h2 => rw [e] at w; exact w
  | exc c fs σ2 h2 => rw [e] at w; exact w
  | bad => rw [e] at w; exact w
theorem for_inv {body : MS} {ok : Hm → Bool} (I : Nat → Env → Hm → Prop) : ∀ (xs : List D) (n : Nat) (σ : Env) (h : Hm), I n σ h → (∀ i σ h, n ≤ i → i ≤ n + xs.length → I i σ h → ok h = true) →
    (∀ i d σ h, xs[i]? = some d → I (n + i) σ h → Ev (fun _ _ _ => False) (g d σ h) fun σ1 h1 => EvS E (body σ1 h1) ⟨I (n + i + 1), P.rt, P.nx, I (n + i + 1)⟩) → (∀ σ h, I (n + xs.length) σ h → P.nx σ h) → EvS E (forGo g body ok xs σ h) P
  | [], n, σ, h, i0, iok, _, fin => by
    unfold forGo
    rw [iok n σ h (Nat.le_refl _) (Nat.le_refl _) i0]
    exact fin _ _ i0
  | d :: ds, n, σ, h, i0, iok, step, fin => by
    unfold forGo
    rw [iok n σ h (Nat.le_refl _) (Nat.le_add_right _ _) i0]
    refine es_stm (ev_quiet0 ((step 0 d σ h rfl i0).mono fun σ1 h1 w => ?_))
    have nxt : ∀ σ2 h2, I (n + 1) σ2 h2 → EvS E (forGo g body ok ds σ2 h2) P := fun σ2 h2 i1 => for_inv I ds (n + 1) σ2 h2 i1 (fun i σ h k1 k2 => iok i σ h (by omega) (by simp only [List.length_cons]; omega)) (fun i d σ h e j => by
      have z := step (i + 1) d σ h (by simpa using e) (by rw [show n + (i + 1) = n + 1 + i by omega]; exact j)
      rw [show n + (i + 1) = n + 1 + i by omega] at z
      exact z) fun σ h j => fin σ h (by rw [List.length_cons, show n + (ds.length + 1) = n + 1 + ds.length by omega]; exact j)
    cases e : body σ1 h1 with
    | nx σ2 h2 => rw [e] at w; exact nxt _ _ w
    | ct σ2 h2 => rw [e] at w; exact nxt _ _ w
    | bk σ2 h2 => rw [e] at w; exact w
    | rt d h2 => rw [e] at w; exact w
    | exc c fs σ2 h2 => rw [e] at w; exact w
    | bad => rw [e] at w; exact w
end
section
variable {α β : Type} {E : XE} {σ : Env} {h : Hm} {Q : D → Hm → Prop} {QL : List D → Hm → Prop} {a : ME} {t : MT}
theorem ev_quiet {r : R α} {Q : α → Hm → Prop} (w : Ev (fun _ _ _ => False) r Q) : Ev E r.quiet Q := by
  cases r with
  | ok a h => exact w
  | exc c fs h => exact w
  | bad => exact w
theorem ev_comp {it : MI} {own is : List Nat} {one : Bool} (q : Ev E (it σ h) fun J h1 => Ev E (compGo (bindC one is) t a J.ok (wipe σ own) J.xs [] h1) fun acc h2 => Q (.loc h2.n) (h2.new (.lst acc))) : Ev E (eComp it own one is t a σ h) Q := ev_bind (q.mono fun J h1 w => ev_bind w)
theorem comp_inv {bd : D → Env → Option Env} {ok : Hm → Bool} (I : Nat → List D → Hm → Prop) : ∀ (xs : List D) (n : Nat) (acc : List D) (h : Hm), I n acc h → (∀ i acc h, n ≤ i → i ≤ n + xs.length → I i acc h → ok h = true) →
    (∀ i d acc h, xs[i]? = some d → I (n + i) acc h → ∃ σ1, bd d σ = some σ1 ∧ Ev (fun _ _ _ => False) (t σ1 h) fun c h1 => sel c (Ev (fun _ _ _ => False) (a σ1 h1) fun y h2 => acc.length < SL ∧ I (n + i + 1) (acc ++ [y]) h2) (I (n + i + 1) acc h1)) →
    (∀ acc h, I (n + xs.length) acc h → QL acc h) → Ev E (compGo bd t a ok σ xs acc h) QL
  | [], n, acc, h, i0, iok, _, fin => by
    unfold compGo
    exact ev_ifR (iok n acc h (Nat.le_refl _) (Nat.le_refl _) i0) (fin _ _ i0)
  | d :: ds, n, acc, h, i0, iok, step, fin => by
    unfold compGo
    rw [iok n acc h (Nat.le_refl _) (Nat.le_add_right _ _) i0]
    obtain ⟨σ1, e, w⟩ := step 0 d acc h rfl i0
    rw [e]
    have nxt : ∀ acc2 h2, I (n + 1) acc2 h2 → Ev E (compGo bd t a ok σ ds acc2 h2) QL := fun acc2 h2 i1 => comp_inv I ds (n + 1) acc2 h2 i1 (fun i acc h k1 k2 => iok i acc h (by omega) (by simp only [List.length_cons]; omega)) (fun i d acc h e j => by
      have z := step (i + 1) d acc h (by simpa using e) (by rw [show n + (i + 1) = n + 1 + i by omega]; exact j)
      rw [show n + (i + 1) = n + 1 + i by omega] at z
      exact z) fun acc h j => fin acc h (by rw [List.length_cons, show n + (ds.length + 1) = n + 1 + ds.length by omega]; exact j)
    refine ev_bind (ev_quiet (w.mono fun c h1 w => ?_))
    cases c with
    | false => exact nxt _ _ w
    | true => exact ev_bind (ev_quiet (Ev.mono w fun y h2 ⟨k, w⟩ => ev_ifR (decide_eq_true k) (nxt _ _ w)))
end
section
variable {h : Hm} {l k : Nat} {o : O}
theorem put_eq (e : k = l) : (h.put l o).g k = some o := by unfold Hm.put; simp [e]
theorem put_ne (e : k ≠ l) : (h.put l o).g k = h.g k := by unfold Hm.put; simp [e]
theorem new_eq (e : k = h.n) : (h.new o).g k = some o := by unfold Hm.new; simp [e]
theorem put_put {o' : O} : (h.put l o).put l o' = h.put l o' := by
  unfold Hm.put
  simp only [Hm.mk.injEq, true_and]
  funext k
  by_cases e : k = l <;> simp [e]
theorem put_n : (h.put l o).n = h.n := rfl
theorem new_n : (h.new o).n = h.n + 1 := rfl
end
theorem Fr.put {S : List Nat} {h h1 : Hm} (a : Fr S h h1) {l : Nat} (o : O) (k : l ∈ S ∨ h.n ≤ l) : Fr S h (h1.put l o) := ⟨a.n, fun m k1 k2 => (put_ne (fun e => by
  subst e
  rcases k with k | k
  · exact k2 k
  · omega)).trans (a.g m k1 k2)⟩
theorem Fr.after {S T : List Nat} {h h1 h2 : Hm} (a : Fr S h h1) (b : Fr T h1 h2) (k : ∀ l ∈ T, h.n ≤ l ∨ l ∈ S) : Fr S h h2 := ⟨Nat.le_trans a.n b.n, fun l k1 k2 => (b.g l (Nat.lt_of_lt_of_le k1 a.n) fun z => by
  rcases k l z with y | y
  · omega
  · exact k2 y).trans (a.g l k1 k2)⟩
theorem Fr.sub {S T : List Nat} {h h1 : Hm} (a : Fr S h h1) (k : ∀ l ∈ S, l < h.n → l ∈ T) : Fr T h h1 := ⟨a.n, fun l k1 k2 => a.g l k1 fun z => k2 (k l z k1)⟩
theorem ixI_at {n : Nat} {z : Int} (k0 : 0 ≤ z) (k1 : z < n) : ixI n z = some z.toNat := by
  unfold ixI
  rw [if_pos k0, if_pos k1]
theorem ints_at {lo : Int} {n i : Nat} {d : D} (e : (Mo.intsFrom lo n)[i]? = some d) : d = .int (lo + i) ∧ i < n := by
  unfold Mo.intsFrom at e
  rw [List.getElem?_map] at e
  obtain ⟨j, e1, e2⟩ := Option.map_eq_some_iff.mp e
  have k := (List.getElem?_eq_some_iff.mp e1).1
  rw [List.length_range] at k
  rw [List.getElem?_range k] at e1
  cases e1
  exact ⟨e2.symm, k⟩
theorem ints_len {lo : Int} {n : Nat} : (Mo.intsFrom lo n).length = n := by rw [Mo.intsFrom, List.length_map, List.length_range]
theorem cut_from {α : Type} {xs : List α} {i : Nat} (k : i ≤ xs.length) : cutL xs (some (i : Int)) none = xs.drop i := by
  unfold cutL sIx
  simp only
  rw [if_neg (by omega), show min (i : Int).toNat xs.length = i by omega]
  exact List.take_of_length_le (by rw [List.length_drop]; omega)
theorem cut_to {α : Type} {xs : List α} {i : Nat} : cutL xs none (some (i : Int)) = xs.take i := by
  unfold cutL sIx
  simp only
  rw [if_neg (by omega), Int.toNat_natCast, Nat.sub_zero, List.drop_zero]
  by_cases k : i ≤ xs.length
  · rw [Nat.min_eq_left k]
  · rw [Nat.min_eq_right (by omega), List.take_of_length_le (Nat.le_refl _), List.take_of_length_le (by omega)]
theorem datL_ints {n : Nat} {h : Hm} : ∀ ns : List Int, datL (dat (n + 1) h) (ns.map D.int) = some (ns.map PyData.int)
  | [] => rfl
  | a :: l => by
    have ih := datL_ints (n := n) (h := h) l
    show (match dat (n + 1) h (.int a), datL (dat (n + 1) h) (l.map D.int) with | some p, some ps => some (p :: ps) | _, _ => none) = _
    rw [ih]
    rfl
mutual
theorem eqv_of_tame : ∀ d : PyData, tame d = true → PyData.eqv d d = true
  | .none, _ => rfl
  | .bool b, _ => by simp [PyData.eqv]
  | .int i, _ => by simp [PyData.eqv]
  | .str x, _ => by simp [PyData.eqv]
  | .list xs, h => by rw [PyData.eqv]; exact eqvAll_of_tame xs (by simpa only [tame] using h)
  | .tuple xs, h => by rw [PyData.eqv]; exact eqvAll_of_tame xs (by simpa only [tame] using h)
  | .dict _, h => by simp only [tame] at h; cases h
theorem eqvAll_of_tame : ∀ xs : List PyData, tameL xs = true → PyData.eqvAll xs xs = true
  | [], _ => rfl
  | x :: xs, h => by
    have h' : tame x = true ∧ tameL xs = true := by simpa only [tameL, Bool.and_eq_true] using h
    rw [PyData.eqvAll, eqv_of_tame x h'.1, eqvAll_of_tame xs h'.2]
    rfl
end
end Mo
end
section
namespace Mo
open PySem L2 PyProof.Rows
def Mu : HO → Prop
  | .lst _ | .dK _ | .dT _ | .set _ _ | .ins _ _ _ | .ext _ => True
  | _ => False
theorem Tbs.put {T : List (Addr × Str)} {H : Hp} {a : Addr} {u u' : HO} (t : Tbs T H) (hu : H a = some u) (hm : Mu u) : Tbs T (upd H a u') :=
  t.keep (fun b ps e => by rw [upd_ne (ne_of e hu (by rintro rfl; exact hm))]; exact e) fun b o v e => by rw [upd_ne (ne_of e hu (by rintro rfl; exact hm))]; exact e
section
variable {G : Gm} {ρ ρ' ρ1 ρ2 : List Addr} {H H' H1 H2 : Hp}
theorem VRels.get : ∀ {vs : List V} {ds : List D} {i : Nat} {d : D}, VRels G ρ H vs ds → ds[i]? = some d → ∃ v, vs[i]? = some v ∧ VRel G ρ H v d
  | _, _, _, _, .nil, e => by simp at e
  | _, _, 0, d, .cons h _, e => by simp at e; subst e; exact ⟨_, rfl, h⟩
  | _, _, i + 1, d, .cons _ hs, e => by
    obtain ⟨v, e1, r⟩ := VRels.get (i := i) hs (by simpa using e)
    exact ⟨v, by simpa using e1, r⟩
theorem VRels.append : ∀ {vs ws : List V} {ds es : List D}, VRels G ρ H vs ds → VRels G ρ H ws es → VRels G ρ H (vs ++ ws) (ds ++ es)
  | _, _, _, _, .nil, r => r
  | _, _, _, _, .cons h hs, r => .cons h (hs.append r)
theorem VRels.take : ∀ {vs : List V} {ds : List D} (n : Nat), VRels G ρ H vs ds → VRels G ρ H (vs.take n) (ds.take n)
  | _, _, 0, _ => .nil
  | _, _, _ + 1, .nil => .nil
  | _, _, n + 1, .cons h hs => .cons h (hs.take n)
theorem VRels.drop : ∀ {vs : List V} {ds : List D} (n : Nat), VRels G ρ H vs ds → VRels G ρ H (vs.drop n) (ds.drop n)
  | _, _, 0, r => r
  | _, _, _ + 1, .nil => .nil
  | _, _, n + 1, .cons _ hs => hs.drop n
theorem VRels.rep {vs : List V} {ds : List D} (r : VRels G ρ H vs ds) : ∀ k : Nat, VRels G ρ H (List.replicate k vs).flatten (List.replicate k ds).flatten
  | 0 => .nil
  | k + 1 => by
    rw [List.replicate_succ, List.replicate_succ, List.flatten_cons, List.flatten_cons]
    exact r.append (r.rep k)
theorem Grow.put {h : Hm} (r : HRel G ρ H h) {l : Nat} {a : Addr} {u : HO} (ha : ρ[l]? = some a) (hu : H a = some u) (hm : Mu u) (u' : HO) : Grow ρ H ρ (upd H a u') := by
  refine ⟨⟨[], by simp⟩, fun b xs e => ?_, fun b o v e => ?_, fun b o e n _ => ⟨?_, n⟩⟩
  · rw [upd_ne (ne_of e hu (by rintro rfl; exact hm))]; exact e
  · rw [upd_ne (ne_of e hu (by rintro rfl; exact hm))]; exact e
  · rw [upd_ne]
    · exact e
    · rintro rfl
      exact n (List.mem_of_getElem? ha)
theorem HRel.put {h : Hm} (r : HRel G ρ H h) {l : Nat} {a : Addr} {u u' : HO} {o : O} (ha : ρ[l]? = some a) (hu : H a = some u) (hm : Mu u) (q : ORel G ρ (upd H a u') a o) : HRel G ρ (upd H a u') (h.put l o) := by
  have g := Grow.put r ha hu hm u'
  refine ⟨r.len, r.inj, fun b m => ?_, fun k v e => ?_, r.tabs.put hu hm, fun q hq => (r.root q hq).trans g.ext⟩
  · by_cases hb : b = a
    · exact ⟨u', by rw [hb]; exact upd_same⟩
    · obtain ⟨o, e⟩ := r.has b m
      exact ⟨o, by rw [upd_ne hb]; exact e⟩
  · have e' : (if k = l then some o else h.g k) = some v := e
    by_cases hk : k = l
    · rw [if_pos hk] at e'
      cases e'
      exact ⟨a, by rw [hk]; exact ha, q⟩
    · rw [if_neg hk] at e'
      obtain ⟨b, e1, q1⟩ := r.obj k v e'
      refine ⟨b, e1, q1.grow g (upd_ne ?_)⟩
      rintro rfl
      exact hk (r.inj k l b e1 ha)
theorem HRel.seqL {h : Hm} (r : HRel G ρ H h) {x : D} {v : V} {ds : List D} (e : h.seq x = some ds) (q : VRel G ρ H v x) : ∃ a vs, v = .ref a ∧ SqL G.K H a vs ∧ VRels G ρ H vs ds := by
  cases q with
  | kl h1 h2 =>
    cases (show some _ = some ds from e)
    exact ⟨_, _, rfl, h1.l, h2⟩
  | @loc a l ha =>
    have e' : (match h.g l with | some (.lst xs) => some xs | _ => none) = some ds := e
    split at e'
    · rename_i xs e1
      cases e'
      obtain ⟨vs, e2, q⟩ := r.at e1 ha
      exact ⟨a, vs, rfl, SqL.of e2, q⟩
    · cases e'
  | non => cases e
  | bl b => cases e
  | int i => cases e
  | str i => cases e
  | tup _ _ => cases e
  | ty n => cases e
  | ob k => cases e
end
abbrev atW (E : WM) (σ : L2.St) : XK := fun c d H => E c d σ H
section
variable {G : Gm} {E : XK} {ρ ρ' ρ1 : List Addr} {H H' H1 : Hp} {α β γ δ : Type} {rel : List Addr → Hp → β → α → Prop} {rel' : List Addr → Hp → δ → γ → Prop}
theorem SRel.unset {σ : L2.St} {env : Env} (s : SRel G ρ H σ env) (i : Nat) : SRel G ρ H (σ.set i none) (env.set i none) := by
  refine ⟨by rw [List.length_set, List.length_set]; exact s.1, fun j e hj => ?_⟩
  by_cases h : i = j
  · subst h
    rw [List.getElem?_set] at hj
    rw [if_pos rfl] at hj
    split at hj
    · cases hj
    · cases hj
  · rw [List.getElem?_set_ne h] at hj ⊢
    exact s.2 j e hj
theorem SRel.wipe {σ : L2.St} {env : Env} (s : SRel G ρ H σ env) : ∀ vs : List Nat, SRel G ρ H (L2.wipe σ vs) (wipe env vs)
  | [] => s
  | v :: vs => (SRel.wipe s vs).unset v
theorem Wp.stm {E : WM} {σ : L2.St} {env : Env} {r : R α} {f : α → Hm → RS} {D : Ends} {Q1 : β → Hp → Prop} (hs : SRel G ρ H σ env) (w : WpS G E (r.stm env f) ρ H D)
    (k : ∀ a h' ρ' H' b, Grow ρ H ρ' H' → HRel G ρ' H' h' → rel ρ' H' b a → WpS G E (f a h') ρ' H' D → Q1 b H') : Wp G (atW E σ) rel r ρ H Q1 := by
  cases r with
  | ok a h' => exact fun ρ' H' b g hr q => k a h' ρ' H' b g hr q (WpS.grow g w)
  | exc c fs h' => exact fun ρ' H' d g hr e => w ρ' H' d σ g hr (hs.grow g) e
  | bad => exact w
theorem Wp.stmQ {E : WM} {E' : XK} {env : Env} {r : R α} {f : α → Hm → RS} {D : Ends} {Q1 : β → Hp → Prop} (w : WpS G E (r.quiet.stm env f) ρ H D)
    (k : ∀ a h' ρ' H' b, Grow ρ H ρ' H' → HRel G ρ' H' h' → rel ρ' H' b a → WpS G E (f a h') ρ' H' D → Q1 b H') : Wp G E' rel r ρ H Q1 := by
  cases r with
  | ok a h' => exact fun ρ' H' b g hr q => k a h' ρ' H' b g hr q (WpS.grow g w)
  | exc c fs h' => exact False.elim w
  | bad => exact w
theorem Wp.any {E' : XK} {r : R α} {Q : β → Hp → Prop} (w : Wp G (fun _ _ _ => False) rel r ρ H Q) : Wp G E' rel r ρ H Q := by
  cases r with
  | ok a h' => exact w
  | exc c fs h' => exact fun ρ' H' d g hr e => (w ρ' H' d g hr e).elim
  | bad => exact w
theorem Wp.ifR {c : Bool} {r : R α} {Q : β → Hp → Prop} (w : Wp G E rel (ifR c r) ρ H Q) : c = true ∧ Wp G E rel r ρ H Q := by
  cases c with
  | true => exact ⟨rfl, w⟩
  | false => exact False.elim w
theorem Wp.optR {o : Option α} {h : Hm} {Q : β → Hp → Prop} (w : Wp G E rel (optR o h) ρ H Q) : ∃ a, o = some a ∧ Wp G E rel (.ok a h) ρ H Q := by
  cases o with
  | none => exact False.elim w
  | some a => exact ⟨a, rfl, w⟩
end
section
variable (G : Gm) (E : WM)
def rd (m : ME) : TE := fun σ H Q => ∃ ρ env h, SRel G ρ H σ env ∧ HRel G ρ H h ∧ Wp G (atW E σ) (VRel G) (m env h) ρ H Q
def rdA (m : MA) : TA := fun σ H Q => ∃ ρ env h, SRel G ρ H σ env ∧ HRel G ρ H h ∧ Wp G (atW E σ) (VRels G) (m env h) ρ H Q
def rdT (m : MT) : TT := fun σ H Q => ∃ ρ env h, SRel G ρ H σ env ∧ HRel G ρ H h ∧ Wp G (atW E σ) (fun _ _ b a => b = a) (m env h) ρ H Q
def rdO (m : MO) : TO := fun σ H Q => ∃ ρ env h, SRel G ρ H σ env ∧ HRel G ρ H h ∧ Wp G (atW E σ) (fun _ _ b a => b = a) (m env h) ρ H Q
end
def rdG (G : Gm) (_ : WM) (m : MG) : TG := fun v σ H Q => ∃ ρ env h d, SRel G ρ H σ env ∧ HRel G ρ H h ∧ VRel G ρ H v d ∧ Wp G (fun _ _ _ => False) (SRel G) (m d env h) ρ H Q
def rdGs (G : Gm) (_ : WM) (ms : List MG) : TGs := fun vs σ H Q => ∃ ρ env h ds, SRel G ρ H σ env ∧ HRel G ρ H h ∧ VRels G ρ H vs ds ∧ Wp G (fun _ _ _ => False) (SRel G) (gsAll ms ds env h) ρ H Q
theorem pe_w {X : Cx} {e : Expr} {t t' : TE} (h : PE X e t) (w : ∀ σ H Q, t' σ H Q → t σ H Q) : PE X e t' := ⟨fun pins s σ H Q I q => h.run pins s σ H Q I (w σ H Q q)⟩
theorem pt_w {X : Cx} {e : Expr} {t t' : TT} (h : PT X e t) (w : ∀ σ H Q, t' σ H Q → t σ H Q) : PT X e t' := ⟨fun pins s σ H Q I q => h.run pins s σ H Q I (w σ H Q q)⟩
theorem ps_w {X : Cx} {e : Stmt} {t t' : TS} (h : PS X e t) (w : ∀ D σ H, t' D σ H → t D σ H) : PS X e t' := ⟨fun pins s σ H D I q => h.run pins s σ H D I (w D σ H q)⟩
theorem pss_w {X : Cx} {e : List Stmt} {t t' : TS} (h : PSs X e t) (w : ∀ D σ H, t' D σ H → t D σ H) : PSs X e t' := ⟨fun pins s σ H D I q => h.run pins s σ H D I (w D σ H q)⟩
end Mo
end
section
namespace Mo
open PySem L2 PyProof.Rows
section
variable {G : Gm} {E : WM} {X : Cx} {a b c : Expr} {ma mb mc : ME} {pos : Pos}
theorem me_var (i : Nat) {x : Str} (hN : X.N[i]? = some x := by rfl) (hv : Vis X.env.scope x := by first | exact Or.inl rfl | exact Or.inr (Or.inl rfl) | exact Or.inr (Or.inr rfl)) (hd : (x == ("__debug__" : Str)) = false := by decide)
    (hcd : (x == ("__classdict__" : Str)) = false := by decide) : PE X (.Name x pos) (rd G E (eV i)) :=
  pe_w (pe_var (i := i) hN hv hd hcd) fun σ H Q ⟨ρ, env, h, hs, hr, w⟩ => by
    unfold eV at w
    split at w
    · rename_i d e
      obtain ⟨v, e1, q⟩ := hs.2 i d e
      exact ⟨v, e1, w.val hr q⟩
    · exact False.elim w
theorem rd_c {v : V} {d : D} (q : ∀ ρ H, VRel G ρ H v d) (σ : L2.St) (H : Hp) (Q : VK) (w : rd G E (eC d) σ H Q) : tC v σ H Q := by
  obtain ⟨ρ, env, h, hs, hr, w⟩ := w
  exact Wp.val w hr (q ρ H)
theorem me_int {i j pos} : PE X (.Constant (.int i) j pos) (rd G E (eC (.int i))) := pe_w pe_int (rd_c fun _ _ => .int i)
theorem me_bl {i j pos} : PE X (.Constant (.bool i) j pos) (rd G E (eC (.bl i))) := pe_w pe_bl (rd_c fun _ _ => .bl i)
theorem me_non {j pos} : PE X (.Constant .none j pos) (rd G E (eC .non)) := pe_w pe_non (rd_c fun _ _ => .non)
theorem me_str {x y : Str} {j pos} (h : x = y := by decide +kernel) : PE X (.Constant (.str x) j pos) (rd G E (eC (.str y))) := by
  subst h
  exact pe_w pe_str (rd_c fun _ _ => .str x)
theorem me_glob {x : Str} {v : V} {u : Value} {d : D} (hg : Gl X x) (hm : X.mg x = some u) (r : RelV v u) (q : ∀ ρ H, VRel G ρ H v d) (hd : (x == ("__debug__" : Str)) = false := by decide) : PE X (.Name x pos) (rd G E (eC d)) :=
  pe_w (pe_glob hg hm r hd) (rd_c q)
def OpS (G : Gm) (E : WM) (r : R2) (f : D → D → Hm → R D) : Prop := ∀ (σ : L2.St) (ρ : List Addr) (H : Hp) (h : Hm) (x y : D) (v u : V) (Q : VK), HRel G ρ H h → VRel G ρ H v x → VRel G ρ H u y → Wp G (atW E σ) (VRel G) (f x y h) ρ H Q → r v u H Q
def UnS (G : Gm) (E : WM) (r : V → Hp → VK → Prop) (f : D → Hm → R D) : Prop := ∀ (σ : L2.St) (ρ : List Addr) (H : Hp) (h : Hm) (x : D) (v : V) (Q : VK), HRel G ρ H h → VRel G ρ H v x → Wp G (atW E σ) (VRel G) (f x h) ρ H Q → r v H Q
theorem rd_op {r : R2} {f : D → D → Hm → R D} (hf : OpS G E r f) (σ : L2.St) (H : Hp) (Q : VK) (w : rd G E (eOp f ma mb) σ H Q) : tOp r (rd G E ma) (rd G E mb) σ H Q := by
  obtain ⟨ρ, env, h, hs, hr, w⟩ := w
  refine ⟨ρ, env, h, hs, hr, w.seq fun x h1 ρ1 H1 v g1 r1 q1 w1 => ?_⟩
  refine ⟨ρ1, env, h1, hs.grow g1, r1, w1.seq fun y h2 ρ2 H2 u g2 r2 q2 w2 => ?_⟩
  exact hf σ ρ2 H2 h2 x y v u Q r2 (q1.grow g2) q2 w2
theorem me_op {op : Operator} {r : R2} {f : D → D → Hm → R D} (ho : OpR X (binaryOp op) r) (hf : OpS G E r f) (ha : PE X a (rd G E ma)) (hb : PE X b (rd G E mb)) : PE X (.BinOp a op b pos) (rd G E (eOp f ma mb)) :=
  pe_w (pe_op ho ha hb) (rd_op hf)
theorem me_cmp {op : CmpOp} {r : R2} {f : D → D → Hm → R D} (ho : OpR X (compareOp op) r) (hf : OpS G E r f) (ha : PE X a (rd G E ma)) (hb : PE X b (rd G E mb)) (hm : behindInMarks op b = false := by first | exact nomark _ | rfl) : PE X (.Compare a [op] [b] pos) (rd G E (eOp f ma mb)) :=
  pe_w (pe_cmpR ho ha hb hm) (rd_op hf)
theorem rd_tB {t : TE} {m : ME} (k : ∀ σ H Q, rd G E m σ H Q → t σ H Q) (σ : L2.St) (H : Hp) (Q : Bool → Hp → Prop) (w : rdT G E (tB m) σ H Q) : L2.tTest t σ H Q := by
  obtain ⟨ρ, env, h, hs, hr, w⟩ := w
  refine k σ H _ ⟨ρ, env, h, hs, hr, w.seq fun x h1 ρ1 H1 v g1 r1 q1 w1 => ?_⟩
  cases q1 with
  | bl b => exact ⟨b, rfl, w1.val r1 rfl⟩
  | _ => exact False.elim w1
theorem mt_cmp {op : CmpOp} {r : R2} {f : D → D → Hm → R D} (ho : OpR X (compareOp op) r) (hf : OpS G E r f) (ha : PE X a (rd G E ma)) (hb : PE X b (rd G E mb)) (hm : behindInMarks op b = false := by first | exact nomark _ | rfl) : PT X (.Compare a [op] [b] pos) (rdT G E (tB (eOp f ma mb))) :=
  pt_w (pt_cmpR ho ha hb hm) (rd_tB (rd_op hf))
theorem mt_val (ha : PE X a (rd G E ma)) (he : ∀ whole, isTrue a X.env whole = (do let v ← whole; standAt a.pos; holding [v] (truthy v)) := by intro _; rfl) : PT X a (rdT G E (tB ma)) :=
  pt_w (pt_val ha he) fun σ H Q w => rd_tB (fun _ _ _ z => z) σ H Q w
theorem me_un {op : UnaryOp} {r : V → Hp → VK → Prop} {f : D → Hm → R D} (ho : UnR X (unaryOp op) r) (hf : UnS G E r f) (ha : PE X a (rd G E ma)) : PE X (.UnaryOp op a pos) (rd G E (eUn f ma)) :=
  pe_w (pe_un ho ha) fun σ H Q ⟨ρ, env, h, hs, hr, w⟩ => ⟨ρ, env, h, hs, hr, w.seq fun x h1 ρ1 H1 v g1 r1 q1 w1 => hf σ ρ1 H1 h1 x v Q r1 q1 w1⟩
theorem rd_chain {r r' : R2} {f g : D → D → Hm → R D} (hf : OpS G E r f) (hg : OpS G E r' g) (σ : L2.St) (H : Hp) (Q : VK) (w : rd G E (eChain f g ma mb mc) σ H Q) : tChain r r' (rd G E ma) (rd G E mb) (rd G E mc) σ H Q := by
  obtain ⟨ρ, env, h, hs, hr, w⟩ := w
  refine ⟨ρ, env, h, hs, hr, w.seq fun x h1 ρ1 H1 v g1 r1 q1 w1 => ?_⟩
  refine ⟨ρ1, env, h1, hs.grow g1, r1, w1.seq fun y h2 ρ2 H2 u g2 r2 q2 w2 => ?_⟩
  refine hf σ ρ2 H2 h2 x y v u _ r2 (q1.grow g2) q2 (w2.seq fun z h3 ρ3 H3 k g3 r3 q3 w3 => ?_)
  cases q3 with
  | bl k =>
    refine ⟨k, rfl, ?_⟩
    cases k with
    | true =>
      show rd G E mc σ H3 _
      refine ⟨ρ3, env, h3, ((hs.grow g1).grow g2).grow g3, r3, Wp.seq w3 fun z2 h4 ρ4 H4 k2 g4 r4 q4 w4 => ?_⟩
      exact hg σ ρ4 H4 h4 y z2 u k2 Q r4 ((q2.grow g3).grow g4) q4 w4
    | false => exact Wp.val w3 r3 (.bl false)
  | _ => exact False.elim w3
theorem me_chain {op op' : CmpOp} {r r' : R2} {f g : D → D → Hm → R D} (ho : OpR X (compareOp op) r) (ho' : OpR X (compareOp op') r') (hf : OpS G E r f) (hg : OpS G E r' g) (ha : PE X a (rd G E ma)) (hb : PE X b (rd G E mb)) (hc : PE X c (rd G E mc))
    (hm : lastMarks [op, op'] [b, c] = false := by rfl) : PE X (.Compare a [op, op'] [b, c] pos) (rd G E (eChain f g ma mb mc)) := pe_w (pe_chain ho ho' ha hb hc hm) (rd_chain hf hg)
theorem mt_chain {op op' : CmpOp} {r r' : R2} {f g : D → D → Hm → R D} (ho : OpR X (compareOp op) r) (ho' : OpR X (compareOp op') r') (hf : OpS G E r f) (hg : OpS G E r' g) (ha : PE X a (rd G E ma)) (hb : PE X b (rd G E mb)) (hc : PE X c (rd G E mc))
    (hm : lastMarks [op, op'] [b, c] = false := by rfl) : PT X (.Compare a [op, op'] [b, c] pos) (rdT G E (tB (eChain f g ma mb mc))) := pt_w (pt_chain ho ho' ha hb hc hm) (rd_tB (rd_chain hf hg))
variable {ta tb : MT} {es : List Expr}
theorem mw_and1 (ha : PT X a (rdT G E ta)) : PW X (.BoolOp .And [a] pos) (rdT G E ta) := pw_and1 ha
theorem mw_or1 (ha : PT X a (rdT G E ta)) : PW X (.BoolOp .Or [a] pos) (rdT G E ta) := pw_or1 ha
theorem pw_w {e : Expr} {t t' : TT} (h : PW X e t) (w : ∀ σ H Q, t' σ H Q → t σ H Q) : PW X e t' := ⟨fun wh pins s σ H Q I q => h.run wh pins s σ H Q I (w σ H Q q)⟩
theorem mw_and (ha : PT X a (rdT G E ta)) (hb : PW X (.BoolOp .And (b :: es) pos) (rdT G E tb)) : PW X (.BoolOp .And (a :: b :: es) pos) (rdT G E (tAnd ta tb)) :=
  pw_w (pw_and ha hb) fun σ H Q ⟨ρ, env, h, hs, hr, w⟩ => ⟨ρ, env, h, hs, hr, w.seq fun k h1 ρ1 H1 v g1 r1 q1 w1 => by
    cases q1
    cases k with
    | true => exact ⟨ρ1, env, h1, hs.grow g1, r1, w1⟩
    | false => exact Wp.val w1 r1 rfl⟩
theorem mw_or (ha : PT X a (rdT G E ta)) (hb : PW X (.BoolOp .Or (b :: es) pos) (rdT G E tb)) : PW X (.BoolOp .Or (a :: b :: es) pos) (rdT G E (tOr ta tb)) :=
  pw_w (pw_or ha hb) fun σ H Q ⟨ρ, env, h, hs, hr, w⟩ => ⟨ρ, env, h, hs, hr, w.seq fun k h1 ρ1 H1 v g1 r1 q1 w1 => by
    cases q1
    cases k with
    | true => exact Wp.val w1 r1 rfl
    | false => exact ⟨ρ1, env, h1, hs.grow g1, r1, w1⟩⟩
theorem mt_not (ha : PT X a (rdT G E ta)) : PT X (.UnaryOp .Not a pos) (rdT G E (tNot ta)) :=
  pt_w (pt_not ha) fun σ H Q ⟨ρ, env, h, hs, hr, w⟩ => ⟨ρ, env, h, hs, hr, w.seq fun k h1 ρ1 H1 v g1 r1 q1 w1 => by
    cases q1
    exact Wp.val w1 r1 rfl⟩
theorem me_and (ha : PE X a (rd G E ma)) (hb : PE X (.BoolOp .And (b :: es) pos) (rd G E mb)) : PE X (.BoolOp .And (a :: b :: es) pos) (rd G E (eAnd ma mb)) :=
  pe_w (pe_and ha hb) fun σ H Q ⟨ρ, env, h, hs, hr, w⟩ => ⟨ρ, env, h, hs, hr, w.seq fun x h1 ρ1 H1 v g1 r1 q1 w1 => by
    cases q1 with
    | bl k =>
      refine ⟨k, rfl, ?_⟩
      cases k with
      | true => exact ⟨ρ1, env, h1, hs.grow g1, r1, w1⟩
      | false => exact Wp.val w1 r1 (.bl false)
    | _ => exact False.elim w1⟩
theorem me_one {op} (ha : PE X a (rd G E ma)) : PE X (.BoolOp op [a] pos) (rd G E ma) := pe_one ha
theorem me_not (ha : PE X a (rd G E ma)) : PE X (.UnaryOp .Not a pos) (rd G E (eNot ma)) :=
  pe_w (pe_not ha) fun σ H Q ⟨ρ, env, h, hs, hr, w⟩ => ⟨ρ, env, h, hs, hr, w.seq fun x h1 ρ1 H1 v g1 r1 q1 w1 => by
    cases q1 with
    | bl k => exact ⟨k, rfl, Wp.val w1 r1 (.bl (!k))⟩
    | _ => exact False.elim w1⟩
theorem me_if (hc : PT X c (rdT G E ta)) (ha : PE X a (rd G E ma)) (hb : PE X b (rd G E mb)) : PE X (.IfExp c a b pos) (rd G E (eIf ta ma mb)) :=
  pe_w (pe_ifExp hc ha hb) fun σ H Q ⟨ρ, env, h, hs, hr, w⟩ => ⟨ρ, env, h, hs, hr, w.seq fun k h1 ρ1 H1 v g1 r1 q1 w1 => by
    cases q1
    cases k with
    | true => exact ⟨ρ1, env, h1, hs.grow g1, r1, w1⟩
    | false => exact ⟨ρ1, env, h1, hs.grow g1, r1, w1⟩⟩
variable {as : MA}
theorem pa_w {es : List Expr} {t t' : TA} (h : PA X es t) (w : ∀ σ H Q, t' σ H Q → t σ H Q) : PA X es t' := ⟨fun pos pins s σ H Q I q => h.run pos pins s σ H Q I (w σ H Q q)⟩
theorem rd_aNil (σ : L2.St) (H : Hp) (Q : List V → Hp → Prop) (w : rdA G E aNil σ H Q) : tNil σ H Q := by
  obtain ⟨ρ, env, h, hs, hr, w⟩ := w
  exact Wp.val w hr .nil
theorem rd_aCons (σ : L2.St) (H : Hp) (Q : List V → Hp → Prop) (w : rdA G E (aCons ma as) σ H Q) : tCons (rd G E ma) (rdA G E as) σ H Q := by
  obtain ⟨ρ, env, h, hs, hr, w⟩ := w
  refine ⟨ρ, env, h, hs, hr, w.seq fun x h1 ρ1 H1 v g1 r1 q1 w1 => ?_⟩
  refine ⟨ρ1, env, h1, hs.grow g1, r1, w1.seq fun xs h2 ρ2 H2 vs g2 r2 q2 w2 => ?_⟩
  exact Wp.val w2 r2 (.cons (q1.grow g2) q2)
theorem ma_nil : PA X [] (rdA G E aNil) := pa_w pa_nil rd_aNil
theorem ma_cons (ha : PE X a (rd G E ma)) (hr : PA X es (rdA G E as)) (hs : starEach (a :: es) X.env = (false, eval a X.env) :: starEach es X.env := by rfl) : PA X (a :: es) (rdA G E (aCons ma as)) :=
  pa_w (pa_cons ha hr hs) rd_aCons
theorem sl_le {n : Nat} (h : n ≤ SL) : n ≤ sizeLine := Nat.le_trans h (by unfold SL; decide)
theorem sl_lt {n : Nat} (h : n < SL) : n < sizeLine := Nat.lt_of_lt_of_le h (by unfold SL; decide)
theorem me_tup {x1} (h : PA X es (rdA G E as)) : PE X (.Tuple es x1 pos) (rd G E (eTup as)) :=
  pe_w (pe_tup h) fun σ H Q ⟨ρ, env, hh, hs, hr, w⟩ => ⟨ρ, env, hh, hs, hr, w.seq fun ds h1 ρ1 H1 vs g1 r1 q1 w1 => by
    obtain ⟨c, w2⟩ := w1.ifR
    have c := of_decide_eq_true c
    refine ⟨by rw [q1.length]; exact sl_le c, fun p hp => ?_⟩
    have g := Grow.tmp (ρ := ρ1) hp (.tup vs)
    exact w2 ρ1 _ _ g (r1.tmp hp _) (.tup (SqT.of upd_same) (q1.grow g))⟩
theorem me_lst (h : PA X es (rdA G E as)) : PE X (.List es pos) (rd G E (eLst as)) :=
  pe_w (pe_lst h) fun σ H Q ⟨ρ, env, hh, hs, hr, w⟩ => ⟨ρ, env, hh, hs, hr, w.seq fun ds h1 ρ1 H1 vs g1 r1 q1 w1 => by
    obtain ⟨c, w2⟩ := w1.ifR
    have c := of_decide_eq_true c
    refine ⟨by rw [q1.length]; exact sl_le c, fun p hp => ?_⟩
    have g := Grow.new r1 hp (.lst vs)
    refine w2 _ _ _ g (r1.new hp ⟨vs, upd_same, q1.grow g⟩) (.loc ?_)
    rw [← r1.len]
    simp⟩
theorem Wp.newL {E' : XK} {ρ : List Addr} {H : Hp} {h : Hm} {ds : List D} {vs : List V} {Q : VK} (w : Wp G E' (VRel G) (.ok (.loc h.n) (h.new (.lst ds))) ρ H Q) (r : HRel G ρ H h) (q : VRels G ρ H vs ds) {p : Addr} (hp : H p = none) : Q (.ref p) (upd H p (.lst vs)) := by
  have g := Grow.new r hp (.lst vs)
  refine w _ _ _ g (r.new hp ⟨vs, upd_same, q.grow g⟩) (.loc ?_)
  rw [← r.len]
  simp
theorem Wp.putL {E' : XK} {ρ : List Addr} {H : Hp} {h : Hm} {l : Nat} {p : Addr} {ds : List D} {vs ws : List V} {d : D} {v : V} {Q : VK} (w : Wp G E' (VRel G) (.ok d (h.put l (.lst ds))) ρ H Q) (r : HRel G ρ H h) (hl : ρ[l]? = some p) (e : H p = some (.lst ws))
    (q : VRels G ρ H vs ds) (qd : VRel G ρ H v d) : Q v (upd H p (.lst vs)) := by
  have g := Grow.put r hl e trivial (.lst vs)
  exact w _ _ _ g (r.put hl e trivial ⟨vs, upd_same, q.grow g⟩) (qd.grow g)
theorem os_I0 {g : Int → Int → V} {f : D → D → Hm → R D} (hI : ∀ i j h, ∃ d, f (.int i) (.int j) h = .ok d h ∧ ∀ ρ H, VRel G ρ H (g i j) d) (hN : ∀ x y h, (∀ i j, x = .int i → y = .int j → False) → f x y h = .bad) : OpS G E (rI0 g) f := by
  intro τ ρ H h x y v u Q r q1 q2 w
  by_cases c : ∃ i j, x = .int i ∧ y = .int j
  · obtain ⟨i, j, rfl, rfl⟩ := c
    cases q1
    cases q2
    obtain ⟨d, e, q⟩ := hI i j h
    rw [e] at w
    exact ⟨i, j, rfl, rfl, w.val r (q ρ H)⟩
  · rw [hN x y h fun i j e1 e2 => c ⟨i, j, e1, e2⟩] at w
    exact False.elim w
theorem os_I {C : Int → Int → Prop} {g : Int → Int → Int} {f : D → D → Hm → R D} {c : Int → Int → Bool} (hI : ∀ i j h, f (.int i) (.int j) h = ifR (c i j) (.ok (.int (g i j)) h)) (hc : ∀ i j, c i j = true → C i j) (hN : ∀ x y h, (∀ i j, x = .int i → y = .int j → False) → f x y h = .bad) :
    OpS G E (rI C fun i j => .int (g i j)) f := by
  intro τ ρ H h x y v u Q r q1 q2 w
  by_cases k : ∃ i j, x = .int i ∧ y = .int j
  · obtain ⟨i, j, rfl, rfl⟩ := k
    cases q1
    cases q2
    rw [hI] at w
    obtain ⟨k, w⟩ := Wp.ifR w
    exact ⟨i, j, rfl, rfl, hc i j k, w.val r (.int _)⟩
  · rw [hN x y h fun i j e1 e2 => k ⟨i, j, e1, e2⟩] at w
    exact False.elim w
theorem os_sub : OpS G E (rI0 fun i j => .int (i - j)) opSub := os_I0 (fun i j h => ⟨_, rfl, fun _ _ => .int _⟩) fun x y h k => by
  cases x <;> first | rfl | (cases y <;> first | rfl | exact (k _ _ rfl rfl).elim)
theorem os_mod : OpS G E (rI (fun _ j => 0 < j) fun i j => .int (i % j)) opMod := os_I (c := fun i j => decide (0 < j)) (fun i j h => rfl) (fun i j e => of_decide_eq_true e) fun x y h k => by
  cases x <;> first | rfl | (cases y <;> first | rfl | exact (k _ _ rfl rfl).elim)
theorem os_fdiv : OpS G E (rI CDiv fun i j => .int (i / j)) opFDiv := os_I (c := fun i j => decide (0 < j ∧ j < 1073741824)) (fun i j h => rfl) (fun i j e => (of_decide_eq_true e : 0 < j ∧ j < 1073741824)) fun x y h k => by
  cases x <;> first | rfl | (cases y <;> first | rfl | exact (k _ _ rfl rfl).elim)
theorem os_pow : OpS G E (rI CPow fun i j => .int (i ^ j.toNat)) opPow := os_I (c := fun i j => decide (0 ≤ j ∧ j ≤ 1000000 ∧ i.natAbs < 2 ^ 64)) (fun i j h => rfl) (fun i j e => (of_decide_eq_true e : 0 ≤ j ∧ j ≤ 1000000 ∧ i.natAbs < 2 ^ 64)) fun x y h k => by
  cases x <;> first | rfl | (cases y <;> first | rfl | exact (k _ _ rfl rfl).elim)
theorem os_mul : OpS G E (fun x y H Q => rI CMul (fun i j => .int (i * j)) x y H Q ∨ rRep x y H Q) opMul := by
  intro τ ρ H h x y v u Q r q1 q2 w
  cases q1 with
  | int i =>
    cases q2 with
    | int j =>
      obtain ⟨c, w⟩ := Wp.ifR w
      exact .inl ⟨i, j, rfl, rfl, (of_decide_eq_true c : (-(2 ^ 64) < i ∧ i < 2 ^ 64) ∨ (-(2 ^ 64) < j ∧ j < 2 ^ 64)), w.val r (.int _)⟩
    | _ => exact False.elim w
  | loc ha =>
    cases q2 with
    | int k =>
      simp only [opMul] at w
      split at w <;> first | exact False.elim w | skip
      rename_i e3
      obtain ⟨vs, e5, k5⟩ := r.at e3 ha
      obtain ⟨c, w⟩ := Wp.ifR w
      obtain ⟨c1, c2, c3⟩ := of_decide_eq_true c
      exact .inr ⟨_, k, vs, rfl, rfl, e5, c1, c2, by rw [k5.length]; exact sl_le c3, fun p hp => w.newL r (k5.rep _) hp⟩
    | _ => exact False.elim w
  | _ => cases q2 <;> exact False.elim w
theorem op_mulU : OpR X (binaryOp .Mult) (fun x y H Q => rI CMul (fun i j => .int (i * j)) x y H Q ∨ rRep x y H Q) := op_mul.or op_rep
theorem os_cmp {p : Int → Int → Bool} : OpS G E (rI0 fun i j => .bl (p i j)) (opCmp p) := os_I0 (fun i j h => ⟨_, rfl, fun _ _ => .bl _⟩) fun x y h k => by
  cases x <;> first | rfl | (cases y <;> first | rfl | exact (k _ _ rfl rfl).elim)
theorem us_neg : UnS G E (rU fun i => .int (-i)) opNeg := by
  intro τ ρ H h x v Q r q w
  cases q with
  | int i => exact ⟨i, rfl, w.val r (.int _)⟩
  | _ => exact False.elim w
end
section
variable {G : Gm} {E : WM} {ρ : List Addr} {H : Hp} {h : Hm}
theorem datL_dp {f : D → Option PyData} (hf : ∀ d v p, f d = some p → VRel G ρ H v d → Dp G.K H v p) : ∀ {ds : List D} {vs : List V} {ps : List PyData}, datL f ds = some ps → VRels G ρ H vs ds → DpAll G.K H vs ps
  | [], _, ps, e, .nil => by
    cases (show some [] = some ps from e)
    exact .nil
  | d :: ds, _, ps, e, .cons q qs => by
    unfold datL at e
    split at e
    · rename_i p ps' e1 e2
      cases e
      exact .cons (hf d _ p e1 q) (datL_dp hf e2 qs)
    · cases e
theorem dat_dp (r : HRel G ρ H h) : ∀ (n : Nat) (d : D) (v : V) (p : PyData), dat n h d = some p → VRel G ρ H v d → Dp G.K H v p
  | 0, _, _, _, e, _ => nomatch e
  | n + 1, .non, _, p, e, .non => by cases (show some _ = some p from e); exact .non
  | n + 1, .bl b, _, p, e, .bl _ => by cases (show some _ = some p from e); exact .bl b
  | n + 1, .int i, _, p, e, .int _ => by cases (show some _ = some p from e); exact .int i
  | n + 1, .str x, _, p, e, .str _ => by
    have e' : (match PyData.strOk x with | true => some (PyData.str x) | false => none) = some p := e
    split at e'
    · cases e'
      exact .str x
    · cases e'
  | n + 1, .tup ds, _, p, e, .tup h1 h2 => by
    obtain ⟨ps, e1, rfl⟩ := Option.map_eq_some_iff.mp (show (datL (dat n h) ds).map .tuple = some p from e)
    exact .tup h1 (datL_dp (dat_dp r n) e1 h2)
  | n + 1, .kl ds, _, p, e, .kl h1 h2 => by
    obtain ⟨ps, e1, rfl⟩ := Option.map_eq_some_iff.mp (show (datL (dat n h) ds).map .list = some p from e)
    exact .lst h1.l (datL_dp (dat_dp r n) e1 h2)
  | n + 1, .loc l, _, p, e, .loc ha => by
    have e' : (match h.g l with | some (.lst xs) => (datL (dat n h) xs).map .list | _ => none) = some p := e
    split at e'
    · rename_i xs e2
      obtain ⟨ps, e1, rfl⟩ := Option.map_eq_some_iff.mp e'
      obtain ⟨vs, e3, q⟩ := r.at e2 ha
      exact .lst (SqL.of e3) (datL_dp (dat_dp r n) e1 q)
    · cases e'
  | n + 1, .ty m, _, p, e, .ty _ => nomatch e
  | n + 1, .ob k, _, p, e, .ob _ => nomatch e
theorem datL_sh {f : D → Option PyData} {m : Nat} (hf : ∀ d p, f d = some p → p.canLay0 = true ∧ p.depth ≤ m) : ∀ {ds : List D} {ps : List PyData}, datL f ds = some ps → PyData.canLayAll0 ps = true ∧ PyData.depthAll ps ≤ m
  | [], ps, e => by
    cases (show some [] = some ps from e)
    exact ⟨by simp only [PyData.canLayAll0], by simp only [PyData.depthAll]; omega⟩
  | d :: ds, ps, e => by
    unfold datL at e
    split at e
    · rename_i p ps' e1 e2
      cases e
      obtain ⟨a1, a2⟩ := hf d p e1
      obtain ⟨b1, b2⟩ := datL_sh hf e2
      refine ⟨?_, ?_⟩
      · simp only [PyData.canLayAll0, a1, b1, Bool.and_self]
      · simp only [PyData.depthAll]
        omega
    · cases e
theorem dat_sh : ∀ (n : Nat) (d : D) (p : PyData), dat n h d = some p → p.canLay0 = true ∧ p.depth ≤ n
  | 0, _, _, e => nomatch e
  | n + 1, d, p, e => by
    have up : ∀ {xs : List D} {ps : List PyData}, datL (dat n h) xs = some ps → PyData.canLayAll0 ps = true ∧ PyData.depthAll ps ≤ n := fun e1 => datL_sh (dat_sh n) e1
    cases d with
    | non => cases (show some _ = some p from e); exact ⟨by simp only [PyData.canLay0], by simp only [PyData.depth]; omega⟩
    | bl b => cases (show some _ = some p from e); exact ⟨by simp only [PyData.canLay0], by simp only [PyData.depth]; omega⟩
    | int b => cases (show some _ = some p from e); exact ⟨by simp only [PyData.canLay0], by simp only [PyData.depth]; omega⟩
    | str b =>
      have e' : (match PyData.strOk b with | true => some (PyData.str b) | false => none) = some p := e
      split at e'
      · rename_i k
        cases e'
        exact ⟨by simp only [PyData.canLay0]; exact k, by simp only [PyData.depth]; omega⟩
      · cases e'
    | tup ds =>
      obtain ⟨ps, e1, rfl⟩ := Option.map_eq_some_iff.mp (show (datL (dat n h) ds).map .tuple = some p from e)
      obtain ⟨u1, u2⟩ := up e1
      exact ⟨by simp only [PyData.canLay0]; exact u1, by simp only [PyData.depth]; omega⟩
    | kl ds =>
      obtain ⟨ps, e1, rfl⟩ := Option.map_eq_some_iff.mp (show (datL (dat n h) ds).map .list = some p from e)
      obtain ⟨u1, u2⟩ := up e1
      exact ⟨by simp only [PyData.canLay0]; exact u1, by simp only [PyData.depth]; omega⟩
    | loc l =>
      have e' : (match h.g l with | some (.lst xs) => (datL (dat n h) xs).map .list | _ => none) = some p := e
      split at e'
      · obtain ⟨ps, e1, rfl⟩ := Option.map_eq_some_iff.mp e'
        obtain ⟨u1, u2⟩ := up e1
        exact ⟨by simp only [PyData.canLay0]; exact u1, by simp only [PyData.depth]; omega⟩
      · cases e'
    | ty m => cases e
    | ob k => cases e
theorem dat_shaped {d : D} {p : PyData} (e : dat DEP h d = some p) : SeqAt.shaped p = true := by
  obtain ⟨a, b⟩ := dat_sh _ _ _ e
  unfold SeqAt.shaped
  rw [a, decide_eq_true (Nat.le_trans b (by decide : DEP ≤ 64))]
  rfl
theorem os_eq : OpS G E (fun x y H Q => rEq x y H Q ∨ rEqD G.K x y H Q) opEq := by
  intro τ ρ H h x y v u Q r q1 q2 w
  unfold opEq at w
  split at w
  · cases q1
    cases q2
    exact .inl ⟨rfl, by rw [dec_int]; exact w.val r (by rw [show (_ == _) = decide (_ = _) from rfl]; exact .bl _)⟩
  · cases q1
    cases q2
    exact .inl ⟨rfl, by
      rename_i i j
      have e : decide (V.str i = V.str j) = @decide (i = j) (strDec i j) := by rw [Bool.eq_iff_iff]; simp
      rw [e]
      exact w.val r (.bl _)⟩
  · split at w
    · rename_i p q e1 e2
      exact .inr ⟨p, q, dat_dp r _ _ _ _ e1 q1, dat_dp r _ _ _ _ e2 q2, dat_shaped e1, dat_shaped e2, w.val r (.bl _)⟩
    · exact False.elim w
theorem os_ne : OpS G E (fun x y H Q => rNe x y H Q ∨ rNeD G.K x y H Q) opNe := by
  intro τ ρ H h x y v u Q r q1 q2 w
  unfold opNe at w
  split at w
  · cases q1
    cases q2
    exact .inl ⟨rfl, by rw [dec_int]; exact w.val r (by rw [show (_ == _) = decide (_ = _) from rfl]; exact .bl _)⟩
  · cases q1
    cases q2
    exact .inl ⟨rfl, by
      rename_i i j
      have e : decide (V.str i = V.str j) = @decide (i = j) (strDec i j) := by rw [Bool.eq_iff_iff]; simp
      rw [e]
      exact w.val r (.bl _)⟩
  · split at w
    · rename_i p q e1 e2
      exact .inr ⟨p, q, dat_dp r _ _ _ _ e1 q1, dat_dp r _ _ _ _ e2 q2, dat_shaped e1, dat_shaped e2, w.val r (.bl _)⟩
    · exact False.elim w
theorem op_eqU {X : Cx} (hu : X.A.units + 64 < cLine) : OpR X (compareOp .Eq) (fun x y H Q => rEq x y H Q ∨ rEqD X.K x y H Q) := op_eq.or (op_eqD hu)
theorem op_neU {X : Cx} (hu : X.A.units + 64 < cLine) : OpR X (compareOp .NotEq) (fun x y H Q => rNe x y H Q ∨ rNeD X.K x y H Q) := op_ne.or (op_neD hu)
theorem vnon {v : V} {d : D} (q : VRel G ρ H v d) : decide (v = .non) = decide (d = .non) := by
  cases q <;> simp
end
section
variable {G : Gm} {E : WM} {X : Cx} {a b c : Expr} {ma mb mc : ME} {pos : Pos}
theorem rd_isN {p : Bool → Bool} {r : R2} (hr : r = fun x y H Q => y = .non ∧ Q (.bl (p (decide (x = .non)))) H) (σ : L2.St) (H : Hp) (Q : VK) (w : rd G E (eUn (fun x h => .ok (.bl (p (decide (x = .non)))) h) ma) σ H Q) : tOp r (rd G E ma) (tC .non) σ H Q := by
  subst hr
  obtain ⟨ρ, env, h, hs, hr, w⟩ := w
  refine ⟨ρ, env, h, hs, hr, w.seq fun x h1 ρ1 H1 v g1 r1 q1 w1 => ?_⟩
  refine ⟨rfl, ?_⟩
  rw [vnon q1]
  exact Wp.val w1 r1 (.bl _)
theorem me_isN {j p} (ha : PE X a (rd G E ma)) : PE X (.Compare a [.Is] [.Constant .none j p] pos) (rd G E (eUn opIsN ma)) := pe_w (pe_cmpR op_isN ha pe_non (nomark _)) (rd_isN (p := id) rfl)
theorem me_notN {j p} (ha : PE X a (rd G E ma)) : PE X (.Compare a [.IsNot] [.Constant .none j p] pos) (rd G E (eUn opNotN ma)) := pe_w (pe_cmpR op_notN ha pe_non (nomark _)) (rd_isN (p := not) rfl)
theorem mt_isN {j p} (ha : PE X a (rd G E ma)) : PT X (.Compare a [.Is] [.Constant .none j p] pos) (rdT G E (tB (eUn opIsN ma))) := pt_w (pt_cmpR op_isN ha pe_non (nomark _)) (rd_tB (rd_isN (p := id) rfl))
theorem mt_notN {j p} (ha : PE X a (rd G E ma)) : PT X (.Compare a [.IsNot] [.Constant .none j p] pos) (rdT G E (tB (eUn opNotN ma))) := pt_w (pt_cmpR op_notN ha pe_non (nomark _)) (rd_tB (rd_isN (p := not) rfl))
end
end Mo
end
section
namespace Mo
open PySem L2 PyProof.Rows
section
variable {G : Gm} {E : WM} {ρ : List Addr} {H : Hp} {h : Hm}
theorem nth_at {vs : List V} {ds : List D} {i : Int} {d : D} (q : VRels G ρ H vs ds) (e : nth ds i = some d) : ∃ v, atI vs i = some v ∧ VRel G ρ H v d := by
  unfold nth at e
  obtain ⟨j, e1, e2⟩ := Option.bind_eq_some_iff.mp e
  obtain ⟨v, e3, k⟩ := q.get e2
  refine ⟨v, ?_, k⟩
  unfold atI
  have e4 : ixN vs.length i = some j := by
    rw [q.length]
    exact e1
  rw [e4]
  exact e3
theorem os_ix : OpS G E (fun x y H Q => rIxL G.K x y H Q ∨ rIxT G.K x y H Q) opIx := by
  intro τ ρ H h x y v u Q r q1 q2 w
  have go : ∀ (i : Int) xs, h.seq x = some xs → Wp G (atW E τ) (VRel G) (optR (nth xs i) h) ρ H Q → rIxL G.K v (.int i) H Q := fun i xs e w' => by
    obtain ⟨a, vs, rfl, hl, qs⟩ := r.seqL e q1
    obtain ⟨d, e2, w2⟩ := Wp.optR w'
    obtain ⟨z, e3, k⟩ := nth_at qs e2
    exact ⟨a, vs, i, z, rfl, rfl, hl, e3, w2.val r k⟩
  cases q2 with
  | int i =>
    cases q1 with
    | tup h1 h2 =>
      obtain ⟨d, e2, w⟩ := Wp.optR (show Wp G (atW E τ) (VRel G) (optR (nth _ i) h) ρ H Q from w)
      obtain ⟨z, e3, k⟩ := nth_at h2 e2
      exact .inr ⟨_, _, i, z, rfl, rfl, h1, e3, w.val r k⟩
    | kl h1 h2 => exact .inl (go i _ rfl w)
    | loc ha =>
      simp only [opIx] at w
      split at w
      · rename_i e
        exact .inl (go i _ e w)
      · exact False.elim w
    | _ => exact False.elim w
  | _ => cases q1 <;> exact False.elim w
theorem ix_LT {X : Cx} : IxR X (fun x y H Q => rIxL X.K x y H Q ∨ rIxT X.K x y H Q) := ix_list.or ix_tup
theorem kOf_rel {v : V} {d : D} {k : Key} (q : VRel G ρ H v d) (e : kOf d = some k) : v = kV k := by
  cases q with
  | int i => cases (show some _ = some k from e); rfl
  | str x => cases (show some _ = some k from e); rfl
  | _ => cases e
theorem look_rel {k : Key} : ∀ {kvs : List (Key × V)} {kds : List (Key × D)}, NRel G ρ H kvs kds → (∀ d, lookA k kds = some d → ∃ v, valV kvs k = some v ∧ VRel G ρ H v d) ∧ (lookA k kds = none → valV kvs k = none)
  | _, _, .nil => ⟨(fun d e => nomatch e), fun _ => rfl⟩
  | _, _, @Paired.cons _ _ _ p q ps qs r t => by
    obtain ⟨i1, i2⟩ := look_rel t
    obtain ⟨k1, v1⟩ := p
    obtain ⟨k2, d2⟩ := q
    obtain ⟨e1, e2⟩ := r
    have e1 : k1 = k2 := e1
    subst e1
    by_cases c : k1 = k
    · refine ⟨fun d e => ?_, fun e => ?_⟩
      · have e' : (@ite _ (k1 = k) (keyDec k1 k) (some d2) (lookA k qs)) = some d := e
        rw [if_pos c] at e'
        cases e'
        exact ⟨v1, valV_pos c, e2⟩
      · have e' : (@ite _ (k1 = k) (keyDec k1 k) (some d2) (lookA k qs)) = none := e
        rw [if_pos c] at e'
        cases e'
    · refine ⟨fun d e => ?_, fun e => ?_⟩
      · have e' : (@ite _ (k1 = k) (keyDec k1 k) (some d2) (lookA k qs)) = some d := e
        rw [if_neg c] at e'
        rw [valV_neg c]
        exact i1 d e'
      · have e' : (@ite _ (k1 = k) (keyDec k1 k) (some d2) (lookA k qs)) = none := e
        rw [if_neg c] at e'
        rw [valV_neg c]
        exact i2 e'
theorem dec_any {p : Prop} (a b : Decidable p) : @decide p a = @decide p b := by
  cases a <;> cases b <;> first | rfl | contradiction
theorem any_rel {k : Key} : ∀ {kvs : List (Key × V)} {kds : List (Key × D)}, NRel G ρ H kvs kds → (kvs.any fun kv => decide (kv.1 = k)) = kds.any fun kv => @decide (kv.1 = k) (keyDec kv.1 k)
  | _, _, .nil => rfl
  | _, _, .cons r t => by
    rw [List.any_cons, List.any_cons, any_rel t, r.1, dec_any _ (keyDec _ _)]
theorem map_rel {k : Key} {v : V} {d : D} (q : VRel G ρ H v d) : ∀ {kvs : List (Key × V)} {kds : List (Key × D)}, NRel G ρ H kvs kds → NRel G ρ H (kvs.map fun kv => if kv.1 = k then (kv.1, v) else kv) (kds.map fun kv => @ite _ (kv.1 = k) (keyDec kv.1 k) (kv.1, d) kv)
  | _, _, .nil => .nil
  | _, _, @Paired.cons _ _ _ p q' ps qs r t => by
    rw [List.map_cons, List.map_cons]
    refine .cons ?_ (map_rel q t)
    rw [← r.1]
    by_cases c : p.1 = k
    · rw [if_pos c, if_pos c]
      exact ⟨rfl, q⟩
    · rw [if_neg c, if_neg c]
      exact r
theorem NRel.append {κ : Type} : ∀ {a b : List (κ × V)} {c d : List (κ × D)}, NRel G ρ H a c → NRel G ρ H b d → NRel G ρ H (a ++ b) (c ++ d)
  | _, _, _, _, .nil, s => s
  | _, _, _, _, .cons r t, s => .cons r (NRel.append t s)
theorem put_rel {k : Key} {v : V} {d : D} {kvs : List (Key × V)} {kds : List (Key × D)} (r : NRel G ρ H kvs kds) (q : VRel G ρ H v d) : NRel G ρ H (L2.putK kvs k v) (putK kds k d) := by
  unfold L2.putK putK
  rw [any_rel r]
  split
  · rename_i e
    split
    · exact map_rel q r
    · rename_i e2
      rw [e] at e2
      cases e2
  · rename_i e
    split
    · rename_i e2
      exact absurd e2 e
    · exact NRel.append r (.cons ⟨rfl, q⟩ .nil)
theorem merge_rel : ∀ {more : List (Key × V)} {md : List (Key × D)} {kvs : List (Key × V)} {kds : List (Key × D)}, NRel G ρ H more md → NRel G ρ H kvs kds → NRel G ρ H (mergeK kvs more) (md.foldl (fun acc kv => putK acc kv.1 kv.2) kds)
  | _, _, _, _, .nil, s => s
  | _, _, kvs, kds, @Paired.cons _ _ _ p q ps qs r t, s => by
    show NRel G ρ H (mergeK (L2.putK kvs p.1 p.2) ps) (qs.foldl (fun acc kv => putK acc kv.1 kv.2) (putK kds q.1 q.2))
    rw [r.1]
    exact merge_rel t (put_rel s r.2)
theorem fld_rel {f : Str} : ∀ {kvs : List (Str × V)} {kds : List (Str × D)}, NRel G ρ H kvs kds → (∀ d, lookF f kds = some d → ∃ v, kvs.lookup f = some v ∧ VRel G ρ H v d) ∧ (lookF f kds = none → kvs.lookup f = none)
  | _, _, .nil => ⟨(fun d e => nomatch e), fun _ => rfl⟩
  | _, _, @Paired.cons _ _ _ p q ps qs r t => by
    obtain ⟨i1, i2⟩ := fld_rel (f := f) t
    obtain ⟨k1, v1⟩ := p
    obtain ⟨k2, d2⟩ := q
    obtain ⟨e1, e2⟩ := r
    have e1 : k1 = k2 := e1
    subst e1
    rw [List.lookup_cons]
    by_cases c : f = k1
    · have c2 : (f == k1) = true := by simp [c]
      rw [c2]
      refine ⟨fun d e => ?_, fun e => ?_⟩
      · have e' : (@ite _ (f = k1) (strDec f k1) (some d2) (lookF f qs)) = some d := e
        rw [if_pos c] at e'
        cases e'
        exact ⟨v1, rfl, e2⟩
      · have e' : (@ite _ (f = k1) (strDec f k1) (some d2) (lookF f qs)) = none := e
        rw [if_pos c] at e'
        cases e'
    · have c2 : (f == k1) = false := by simp [c]
      rw [c2]
      refine ⟨fun d e => ?_, fun e => ?_⟩
      · have e' : (@ite _ (f = k1) (strDec f k1) (some d2) (lookF f qs)) = some d := e
        rw [if_neg c] at e'
        exact i1 d e'
      · have e' : (@ite _ (f = k1) (strDec f k1) (some d2) (lookF f qs)) = none := e
        rw [if_neg c] at e'
        exact i2 e'
theorem putF_rel {f : Str} {v : V} {d : D} (q : VRel G ρ H v d) : ∀ {kvs : List (Str × V)} {kds : List (Str × D)}, NRel G ρ H kvs kds → NRel G ρ H (L2.putF f v kvs) (putF f d kds)
  | _, _, .nil => .cons ⟨rfl, q⟩ .nil
  | _, _, @Paired.cons _ _ _ p q' ps qs r t => by
    obtain ⟨k1, v1⟩ := p
    obtain ⟨k2, d2⟩ := q'
    obtain ⟨e1, e2⟩ := r
    have e1 : k1 = k2 := e1
    subst e1
    show NRel G ρ H (if k1 = f then (k1, v) :: ps else (k1, v1) :: L2.putF f v ps) (@ite _ (k1 = f) (strDec k1 f) ((k1, d) :: qs) ((k1, d2) :: putF f d qs))
    by_cases c : k1 = f
    · rw [if_pos c, if_pos c]
      exact .cons ⟨rfl, q⟩ t
    · rw [if_neg c, if_neg c]
      exact .cons ⟨rfl, e2⟩ (putF_rel q t)
theorem cut_rel {vs : List V} {ds : List D} (q : VRels G ρ H vs ds) (lo hi : Option Int) : VRels G ρ H (cutV vs lo hi) (cutL ds lo hi) := by
  have e : ∀ n d o, HT.sIx n d o = sIx n d o := fun n d o => by cases o <;> rfl
  unfold cutV cutL
  rw [e, e, q.length]
  exact (q.drop _).take _
end
section
variable {G : Gm} {E : WM} {X : Cx} {a b c o : Expr} {ma mb mc : ME} {pos : Pos} {as ks : MA} {es : List Expr}
theorem me_ix (hK : X.K = G.K) (ha : PE X a (rd G E ma)) (hb : PE X b (rd G E mb)) (hs : PlainIx b := by exact fun _ _ => rfl) : PE X (.Subscript a b pos) (rd G E (eOp opIx ma mb)) := by
  refine pe_w (pe_ix ix_LT ha hb hs) ?_
  rw [hK]
  exact rd_op os_ix
theorem me_dget (hu : X.A.units + 1 < cLine) (ha : PE X a (rd G E ma)) (hb : PE X b (rd G E mb)) (hs : NoSl b := by exact fun _ _ => rfl) : PE X (.Subscript a b pos) (rd G E (eOp opDGet ma mb)) :=
  pe_w (pe_dget hu ha hb hs) fun σ H Q ⟨ρ, env, h, hs, hr, w⟩ => ⟨ρ, env, h, hs, hr, w.seq fun x h1 ρ1 H1 v g1 r1 q1 w1 => ⟨ρ1, env, h1, hs.grow g1, r1, w1.seq fun y h2 ρ2 H2 u g2 r2 q2 w2 => by
    have q1 := q1.grow g2
    cases q1 with
    | @loc p l hl =>
      simp only [opDGet] at w2
      split at w2
      · rename_i kds k e1 e2
        obtain ⟨d, e3, w2⟩ := Wp.optR w2
        obtain ⟨kvs, e4, n⟩ := r2.at e1 hl
        obtain ⟨z, e5, q5⟩ := (look_rel n).1 d e3
        refine ⟨p, z, rfl, ?_, w2.val r2 q5⟩
        rw [kOf_rel q2 e2, ← e5]
        exact DGet.k e4
      · exact False.elim w2
    | _ => exact False.elim w2⟩⟩
variable {lo hi : Option Expr} {ml mh : MO}
theorem po_w {e : Option Expr} {t t' : TO} (h : PO X e t) (w : ∀ σ H Q, t' σ H Q → t σ H Q) : PO X e t' := ⟨fun pins s σ H Q I q => h.run pins s σ H Q I (w σ H Q q)⟩
theorem mo_none : PO X none (rdO G E oNone) := po_w po_none fun σ H Q ⟨ρ, env, h, hs, hr, w⟩ => Wp.val w hr rfl
theorem mo_some (ha : PE X a (rd G E ma)) : PO X (some a) (rdO G E (oSome ma)) := po_w (po_some ha) fun σ H Q ⟨ρ, env, h, hs, hr, w⟩ => ⟨ρ, env, h, hs, hr, w.seq fun x h1 ρ1 H1 v g1 r1 q1 w1 => by
  cases q1 with
  | int i => exact ⟨i, rfl, Wp.val w1 r1 rfl⟩
  | _ => exact False.elim w1⟩
theorem me_fld {f : Str} {cs : List Nat} (hK : X.K = G.K) (hC : ∀ c, cs.contains c = true → Cls G.K (G.cA c) ∧ NoAttr G.K (G.cA c) f) {f' : Str} (hf : f' = f) (ha : PE X a (rd G E ma)) (hb : attributeBase a f' X.env (eval a X.env) = eval a X.env := by rfl) : PE X (.Attribute a f' pos) (rd G E (eFld ma cs f)) := by
  subst hf
  exact pe_w (pe_fld ha hb) fun σ H Q ⟨ρ, env, h, hs, hr, w⟩ => ⟨ρ, env, h, hs, hr, w.seq fun x h1 ρ1 H1 v g1 r1 q1 w1 => by
    cases q1 with
    | @loc p l hl =>
      simp only at w1
      split at w1 <;> first | exact False.elim w1 | skip
      rename_i c fs e
      obtain ⟨k, w1⟩ := Wp.ifR w1
      obtain ⟨d, e2, w1⟩ := Wp.optR w1
      obtain ⟨dx, fvs, e3, n⟩ := r1.at e hl
      obtain ⟨z, e4, q4⟩ := (fld_rel n).1 d e2
      obtain ⟨c1, c2⟩ := hC c k
      rw [hK]
      exact ⟨p, _, dx, fvs, z, rfl, e3, c1, c2, e4, w1.val r1 q4⟩
    | _ => exact False.elim w1⟩
def BiS (G : Gm) (E : WM) (r : List V → Hp → VK → Prop) (f : Bi) : Prop := ∀ (σ : L2.St) (ρ : List Addr) (H : Hp) (h : Hm) (ds : List D) (vs : List V) (Q : VK), HRel G ρ H h → VRels G ρ H vs ds → Wp G (atW E σ) (VRel G) (f ds h) ρ H Q → r vs H Q
theorem rd_bi {r : List V → Hp → VK → Prop} {f : Bi} (hf : BiS G E r f) (σ : L2.St) (H : Hp) (Q : VK) (w : rd G E (eBi f as) σ H Q) : tCB r (rdA G E as) σ H Q := by
  obtain ⟨ρ, env, h, hs, hr, w⟩ := w
  exact ⟨ρ, env, h, hs, hr, w.seq fun x h1 ρ1 H1 v g1 r1 q1 w1 => hf σ ρ1 H1 h1 x v Q r1 q1 w1⟩
variable {x : Str} {p : Pos}
theorem me_bi {id : String} {r : List V → Hp → VK → Prop} {f : Bi} (hc : CallR X (.builtin id) r) (hf : BiS G E r f) (hg : Gl X x) (hm : X.mg x = none) (hv : bootBuiltins x = some (.builtin id)) (ha : PA X (a :: es) (rdA G E as)) (hn : x ≠ "__name__" := by decide) (hdb : (x == ("__debug__" : Str)) = false := by decide)
    (he : starEach (a :: es) X.env = (false, eval a X.env) :: starEach es X.env := by rfl) (hpl : (backTo pos (starEach es X.env)).any (·.1) = false := by rfl) : PE X (.Call (.Name x p) (a :: es) [] pos) (rd G E (eBi f as)) := pe_w (pe_callB hc hg hm hv ha hn hdb he hpl) (rd_bi hf)
theorem me_bty {T : String} {r : List V → Hp → VK → Prop} {f : Bi} (hc : CallR X (.type T) r) (hf : BiS G E r f) (hg : Gl X x) (hm : X.mg x = none) (hv : bootBuiltins x = some (.type T)) (ha : PA X (a :: es) (rdA G E as)) (hn : x ≠ "__name__" := by decide) (hdb : (x == ("__debug__" : Str)) = false := by decide)
    (he : starEach (a :: es) X.env = (false, eval a X.env) :: starEach es X.env := by rfl) (hpl : (backTo pos (starEach es X.env)).any (·.1) = false := by rfl) : PE X (.Call (.Name x p) (a :: es) [] pos) (rd G E (eBi f as)) := pe_w (pe_callTy hc hg hm hv ha hn hdb he hpl) (rd_bi hf)
end
section
variable {G : Gm} {E : WM}
theorem vs1 {ρ : List Addr} {H : Hp} {vs : List V} {d : D} (q : VRels G ρ H vs [d]) : ∃ v, vs = [v] ∧ VRel G ρ H v d := by
  cases q with
  | cons a b =>
    cases b
    exact ⟨_, rfl, a⟩
theorem vs2 {ρ : List Addr} {H : Hp} {vs : List V} {d e : D} (q : VRels G ρ H vs [d, e]) : ∃ v w, vs = [v, w] ∧ VRel G ρ H v d ∧ VRel G ρ H w e := by
  cases q with
  | cons a b =>
    obtain ⟨w, rfl, k⟩ := vs1 b
    exact ⟨_, w, rfl, a, k⟩
def rLen (K : PySem.W.Frag) : List V → Hp → VK → Prop := fun xs H Q => (∃ z, xs = [.str z] ∧ z.length ≤ sizeLine ∧ Q (.int z.length) H) ∨ (∃ p ys, xs = [.ref p] ∧ (SqL K H p ys ∨ SqT K H p ys) ∧ Q (.int ys.length) H) ∨ ∃ a kvs, xs = [V.ref a] ∧ H a = some (.dK kvs) ∧ Q (.int kvs.length) H
theorem cl_len {X : Cx} : CallR X (.builtin "len") (rLen X.K) := call_len_str.or (call_len_seq.or call_lenD)
theorem bs_len : BiS G E (rLen G.K) bLen := by
  intro τ ρ H h ds vs Q r q w
  unfold bLen at w
  split at w
  · obtain ⟨v, rfl, k⟩ := vs1 q
    cases k with
    | tup h1 h2 => exact .inr (.inl ⟨_, _, rfl, .inr h1, by rw [h2.length]; exact w.val r (.int _)⟩)
  · obtain ⟨v, rfl, k⟩ := vs1 q
    obtain ⟨c, w⟩ := Wp.ifR w
    cases k with
    | str x => exact .inl ⟨_, rfl, sl_le (of_decide_eq_true c), w.val r (.int _)⟩
  · obtain ⟨v, rfl, k⟩ := vs1 q
    cases k with
    | kl h1 h2 => exact .inr (.inl ⟨_, _, rfl, .inl h1.l, by rw [h2.length]; exact w.val r (.int _)⟩)
  · obtain ⟨v, rfl, k⟩ := vs1 q
    cases k with
    | loc ha =>
      split at w
      · rename_i e
        obtain ⟨ws, e2, k2⟩ := r.at e ha
        exact .inr (.inl ⟨_, ws, rfl, .inl (SqL.of e2), by rw [k2.length]; exact w.val r (.int _)⟩)
      · rename_i e
        obtain ⟨ws, e2, k2⟩ := r.at e ha
        exact .inr (.inr ⟨_, ws, rfl, e2, by rw [k2.length]; exact w.val r (.int _)⟩)
      · exact False.elim w
  · exact False.elim w
theorem bs_list : BiS G E (fun xs H Q => ∃ p ys, xs = [.ref p] ∧ (SqL G.K H p ys ∨ SqT G.K H p ys) ∧ ∀ l, H l = none → Q (.ref l) (upd H l (.lst ys))) bList := by
  intro τ ρ H h ds vs Q r q w
  unfold bList at w
  split at w
  · obtain ⟨v, rfl, k⟩ := vs1 q
    cases k with
    | tup h1 h2 => exact ⟨_, _, rfl, .inr h1, fun l hl => w.newL r h2 hl⟩
  · obtain ⟨v, rfl, k⟩ := vs1 q
    split at w
    · rename_i xs e
      obtain ⟨p, ws, rfl, h1, h2⟩ := r.seqL e k
      exact ⟨p, ws, rfl, .inl h1, fun l hl => w.newL r h2 hl⟩
    · exact False.elim w
  · exact False.elim w
theorem bs_tuple : BiS G E (fun xs H Q => ∃ p ys, xs = [.ref p] ∧ ((SqL G.K H p ys ∧ ∀ l, H l = none → Q (.ref l) (upd H l (.tup ys))) ∨ (SqT G.K H p ys ∧ Q (.ref p) H))) bTuple := by
  intro τ ρ H h ds vs Q r q w
  unfold bTuple at w
  split at w
  · obtain ⟨v, rfl, k⟩ := vs1 q
    cases k with
    | tup h1 h2 => exact ⟨_, _, rfl, .inr ⟨h1, w.val r (.tup h1 h2)⟩⟩
  · obtain ⟨v, rfl, k⟩ := vs1 q
    split at w
    · rename_i xs e
      obtain ⟨p, ws, rfl, h1, h2⟩ := r.seqL e k
      refine ⟨p, ws, rfl, .inl ⟨h1, fun l hl => ?_⟩⟩
      have g := Grow.tmp (ρ := ρ) hl (.tup ws)
      exact w ρ _ _ g (r.tmp hl _) (.tup (SqT.of upd_same) (h2.grow g))
    · exact False.elim w
  · exact False.elim w
def MbS (G : Gm) (E : WM) (r : V → List V → Hp → VK → Prop) (f : Mb) : Prop := ∀ (σ : L2.St) (ρ : List Addr) (H : Hp) (h : Hm) (x : D) (v : V) (ds : List D) (vs : List V) (Q : VK), HRel G ρ H h → VRel G ρ H v x → VRels G ρ H vs ds → Wp G (atW E σ) (VRel G) (f x ds h) ρ H Q → r v vs H Q
theorem bs_append : MbS G E rAppend mAppend := by
  intro τ ρ H h x v ds vs Q r q qs w
  unfold mAppend at w
  split at w
  · obtain ⟨u, rfl, k⟩ := vs1 qs
    cases q with
    | @loc a l ha =>
      split at w <;> first | exact False.elim w | skip
      rename_i xs e
      obtain ⟨c, w⟩ := Wp.ifR w
      obtain ⟨ws, e2, k2⟩ := r.at e ha
      exact ⟨a, ws, u, rfl, rfl, e2, by rw [k2.length]; exact sl_lt (of_decide_eq_true c), w.putL r ha e2 (k2.append (.cons k .nil)) .non⟩
  · exact False.elim w
end
section
variable {G : Gm} {E : WM}
theorem tyD_v {ρ : List Addr} {H : Hp} {h : Hm} {x : D} {v : V} {T : String} (r : HRel G ρ H h) (q : VRel G ρ H v x) (e : tyD h x = some T) (hT : T = "list" ∨ T = "dict" ∨ T = "str" ∨ T = "int") : tyV G.K T v H := by
  cases q with
  | int i => cases (show some _ = some T from e); rfl
  | str z => cases (show some _ = some T from e); rfl
  | kl h1 h2 => cases (show some _ = some T from e); exact .inl ⟨rfl, _, h1.l⟩
  | @loc a l ha =>
    simp only [tyD] at e
    split at e
    · rename_i e1
      cases e
      obtain ⟨vs, e2, k⟩ := r.at e1 ha
      exact .inl ⟨rfl, vs, SqL.of e2⟩
    · rename_i e1
      cases e
      obtain ⟨vs, e2, k⟩ := r.at e1 ha
      exact .inr (.inr (.inl ⟨rfl, .inl ⟨vs, e2⟩⟩))
    · cases e
  | non => cases (show some _ = some T from e); exact absurd hT (by decide)
  | bl b => cases (show some _ = some T from e); exact absurd hT (by decide)
  | tup _ _ => cases (show some _ = some T from e); exact absurd hT (by decide)
  | ty n => cases e
  | ob k => cases e
end
section
variable {G : Gm} {E : WM} {X : Cx} {a b c o : Expr} {ma mb mc : ME} {pos : Pos} {as ks : MA} {es : List Expr}
theorem me_bm {T id : String} {name : Str} {apos cpos : Pos} {r : V → List V → Hp → VK → Prop} {f : Mb} (hK : X.K = G.K) (pa : PlainAttrs T) (slot : Slot T name id) (hty : typeOf (.builtin id) = pure (.type "method_descriptor")) (hm : MtR X id r) (hf : MbS G E r f)
    (hT : T = "list" ∨ T = "dict" ∨ T = "str" ∨ T = "int") (ho : PE X o (rd G E ma)) (ha : PA X (a :: es) (rdA G E as)) (hbase : attributeBase o name X.env (eval o X.env) = eval o X.env := by rfl)
    (hfew : ((backTo cpos (starEach (a :: es) X.env)).all (fun x => !x.1) && (backToKw cpos (keywordEach [] X.env)).all (fun x => x.1.isSome) && decide ((a :: es).length + ([] : List Keyword).length + (if ([] : List Keyword).isEmpty then 0 else 1) < 30)) = true := by rfl)
    (hline : (apos.endLine == cpos.line) = true := by rfl) (hs : starEach (a :: es) X.env = (false, eval a X.env) :: starEach es X.env := by rfl) (hplain : (backTo cpos (starEach es X.env)).any (·.1) = false := by rfl) :
    PE X (.Call (.Attribute o name apos) (a :: es) [] cpos) (rd G E (eBM T f ma as)) :=
  pe_w (pe_bm pa slot hty hm ho ha hbase hfew hline hs hplain) fun σ H Q ⟨ρ, env, h, hs, hr, w⟩ => ⟨ρ, env, h, hs, hr, w.seq fun x h1 ρ1 H1 v g1 r1 q1 w1 => by
    obtain ⟨k, w1⟩ := Wp.ifR w1
    refine ⟨?_, ρ1, env, h1, hs.grow g1, r1, w1.seq fun ds h2 ρ2 H2 vs g2 r2 q2 w2 => hf σ ρ2 H2 h2 x v ds vs Q r2 (q1.grow g2) q2 w2⟩
    rw [hK]
    exact tyD_v r1 q1 (of_decide_eq_true k) hT⟩
theorem me_bm0 {T id : String} {name : Str} {apos cpos : Pos} {r : V → List V → Hp → VK → Prop} {f : Mb} (hK : X.K = G.K) (pa : PlainAttrs T) (slot : Slot T name id) (hty : typeOf (.builtin id) = pure (.type "method_descriptor")) (hm : MtR X id r) (hf : MbS G E r f)
    (hT : T = "list" ∨ T = "dict" ∨ T = "str" ∨ T = "int") (ho : PE X o (rd G E ma)) (hbase : attributeBase o name X.env (eval o X.env) = eval o X.env := by rfl) (hline : (apos.endLine == cpos.line) = true := by rfl) :
    PE X (.Call (.Attribute o name apos) [] [] cpos) (rd G E (eBM T f ma aNil)) :=
  pe_w (pe_bm0 pa slot hty hm ho hbase hline) fun σ H Q ⟨ρ, env, h, hs, hr, w⟩ => ⟨ρ, env, h, hs, hr, w.seq fun x h1 ρ1 H1 v g1 r1 q1 w1 => by
    obtain ⟨k, w1⟩ := Wp.ifR w1
    refine ⟨?_, hf σ ρ1 H1 h1 x v [] [] Q r1 q1 .nil w1⟩
    rw [hK]
    exact tyD_v r1 q1 (of_decide_eq_true k) hT⟩
def trsOf (G : Gm) (E : WM) : List (ME × ME) → List (TE × TE)
  | [] => []
  | (k, v) :: r => (rd G E k, rd G E v) :: trsOf G E r
def DRels (G : Gm) (ρ : List Addr) (H : Hp) : List (V × V) → List (D × D) → Prop := Paired fun p q => VRel G ρ H p.1 q.1 ∧ VRel G ρ H p.2 q.2
theorem pairs_rd : ∀ {ps : List (ME × ME)} {ρ : List Addr} {H : Hp} {h : Hm} {σ : L2.St} {env : Env} {Q : List (V × V) → Hp → Prop}, SRel G ρ H σ env → HRel G ρ H h → Wp G (atW E σ) (DRels G) (pairsM ps env h) ρ H Q → tPairs (trsOf G E ps) σ H Q
  | [], ρ, H, h, σ, env, Q, hs, hr, w => Wp.val w hr .nil
  | (k, v) :: r, ρ, H, h, σ, env, Q, hs, hr, w => by
    have w : Wp G (atW E σ) (DRels G) ((k env h).bind fun x h1 => (v env h1).bind fun y h2 => (pairsM r env h2).bind fun ps h3 => .ok ((x, y) :: ps) h3) ρ H Q := w
    refine ⟨ρ, env, h, hs, hr, w.seq fun x h1 ρ1 H1 vx g1 r1 q1 w1 => ⟨ρ1, env, h1, hs.grow g1, r1, w1.seq fun y h2 ρ2 H2 vy g2 r2 q2 w2 => ?_⟩⟩
    refine pairs_rd ((hs.grow g1).grow g2) r2 (Wp.seq (rel := DRels G) w2 fun qs h3 ρ3 H3 zs g3 r3 q3 w3 => ?_)
    exact Wp.val w3 r3 (.cons ⟨(q1.grow g2).grow g3, q2.grow g3⟩ q3)
theorem keyed_rel {ρ : List Addr} {H : Hp} : ∀ {zs : List (V × V)} {qs : List (D × D)} {kds : List (Key × D)}, DRels G ρ H zs qs → keyed qs = some kds → ∃ kvs : List (Key × V), zs = kvs.map (fun kv => (kV kv.1, kv.2)) ∧ NRel G ρ H kvs kds
  | _, _, kds, .nil, e => by
    cases (show some [] = some kds from e)
    exact ⟨[], rfl, .nil⟩
  | _, _, kds, @Paired.cons _ _ _ p q ps qs r t, e => by
    obtain ⟨x, y⟩ := q
    have e : (match kOf x, keyed qs with | some k, some ps => some ((k, y) :: ps) | _, _ => none) = some kds := e
    split at e
    · rename_i k ps' e1 e2
      cases e
      obtain ⟨kvs, rfl, n⟩ := keyed_rel t e2
      refine ⟨(k, p.2) :: kvs, ?_, .cons ⟨rfl, r.2⟩ n⟩
      rw [List.map_cons, ← kOf_rel r.1 e1]
    · cases e
theorem mp_nil {dpos : Pos} : PPs X dpos [] [] (trsOf G E []) := pps_nil
theorem mp_cons {dpos : Pos} {k v : Expr} {ks : List (Option Expr)} {vs : List Expr} {mk mv : ME} {ps : List (ME × ME)} (hk : PE X k (rd G E mk)) (hv : PE X v (rd G E mv)) (hr : PPs X dpos ks vs (trsOf G E ps)) : PPs X dpos (some k :: ks) (v :: vs) (trsOf G E ((mk, mv) :: ps)) :=
  pps_cons hk hv hr
theorem Grow.adopt {ρ ρ1 : List Addr} {H H1 : Hp} {p : Addr} {o o' : HO} (hp : H p = none) (g : Grow ρ (upd H p o) ρ1 H1) (hf : p ∉ ρ) (hm : Mu o) : H1 p = some o ∧ p ∉ ρ1 ∧ Grow ρ H (ρ1 ++ [p]) (upd H1 p o') := by
  obtain ⟨a, n⟩ := g.out p o upd_same hf (by rintro ps rfl; exact hm)
  have up : ∀ {b : Addr} {u : HO}, H b = some u → b ≠ p ∧ (upd H p o) b = some u := fun {b u} e => ⟨ne_of_none e hp, by rw [upd_ne (ne_of_none e hp)]; exact e⟩
  refine ⟨a, n, let ⟨t, e⟩ := g.pre; ⟨t ++ [p], by rw [e, List.append_assoc]⟩, fun b xs e => ?_, fun b q u e => ?_, fun b u e k kt => ?_⟩
  · rw [upd_ne (up e).1]
    exact g.tup b xs (up e).2
  · rw [upd_ne (up e).1]
    exact g.frz b q u (up e).2
  · obtain ⟨e1, k1⟩ := g.out b u (up e).2 k kt
    refine ⟨by rw [upd_ne (up e).1]; exact e1, fun m => ?_⟩
    rcases List.mem_append.mp m with m | m
    · exact k1 m
    · exact (up e).1 (List.mem_singleton.mp m)
theorem Ext.late {ρ : List Addr} {H : Hp} {p : Addr} {u : HO} (hu : H p = some u) (hm : Mu u) (u' : HO) : Ext ρ H (ρ ++ [p]) (upd H p u') := by
  refine ⟨⟨[p], rfl⟩, fun b xs e => ?_, fun b o v e => ?_⟩
  · rw [upd_ne (ne_of e hu (by rintro rfl; exact hm))]; exact e
  · rw [upd_ne (ne_of e hu (by rintro rfl; exact hm))]; exact e
theorem HRel.adopt {ρ : List Addr} {H : Hp} {h : Hm} (r : HRel G ρ H h) {p : Addr} {u u' : HO} {o : O} (hn : p ∉ ρ) (hu : H p = some u) (hm : Mu u) (q : ORel G (ρ ++ [p]) (upd H p u') p o) : HRel G (ρ ++ [p]) (upd H p u') (h.new o) := by
  have g : Ext ρ H (ρ ++ [p]) (upd H p u') := Ext.late hu hm u'
  refine ⟨by rw [List.length_append, r.len]; rfl, fun i j a e1 e2 => ?_, fun a m => ?_, fun l u2 e => ?_, r.tabs.put hu hm, fun q hq => (r.root q hq).trans g⟩
  · rw [List.getElem?_append] at e1 e2
    split at e1 <;> split at e2
    · exact r.inj i j a e1 e2
    · have e3 := List.mem_of_getElem? e2
      rw [List.mem_singleton.mp e3] at e1
      exact absurd (List.mem_of_getElem? e1) hn
    · have e3 := List.mem_of_getElem? e1
      rw [List.mem_singleton.mp e3] at e2
      exact absurd (List.mem_of_getElem? e2) hn
    · have h1 := (List.getElem?_eq_some_iff.mp e1).1
      have h2 := (List.getElem?_eq_some_iff.mp e2).1
      simp only [List.length_cons, List.length_nil] at h1 h2
      omega
  · by_cases c : a = p
    · exact ⟨u', by rw [c]; exact upd_same⟩
    · rcases List.mem_append.mp m with m | m
      · obtain ⟨o, e⟩ := r.has a m
        exact ⟨o, by rw [upd_ne c]; exact e⟩
      · exact absurd (List.mem_singleton.mp m) c
  · by_cases hl : l = h.n
    · have e' : (if l = h.n then some o else h.g l) = some u2 := e
      rw [if_pos hl] at e'
      cases e'
      refine ⟨p, ?_, q⟩
      rw [hl, ← r.len]
      simp
    · have e' : (if l = h.n then some o else h.g l) = some u2 := e
      rw [if_neg hl] at e'
      obtain ⟨a, e1, q1⟩ := r.obj l u2 e'
      exact ⟨a, g.at e1, q1.ext g (upd_ne fun z => hn (by rw [← z]; exact List.mem_of_getElem? e1))⟩
theorem me_dict {dpos : Pos} {keys : List (Option Expr)} {values : List Expr} {ps : List (ME × ME)} (h : PPs X dpos keys values (trsOf G E ps)) (hall : keys.all (·.isSome) = true := by rfl) (hl : keys.length = values.length := by rfl) (h0 : keys ≠ [] := by exact fun z => nomatch z)
    (h15 : keys.length ≤ 15 := by decide) : PE X (.Dict keys values dpos) (rd G E (eDict ps)) :=
  pe_w (pe_disp h hall hl h0 h15) fun σ H Q ⟨ρ, env, h, hs, hr, w⟩ => fun p hp => by
    have g := Grow.tmp (ρ := ρ) hp (.dK [])
    unfold eDict at w
    cases e : pairsM ps env h with
    | bad =>
      rw [e] at w
      exact False.elim w
    | exc c fs h1 =>
      rw [e] at w
      refine pairs_rd (hs.grow g) (hr.tmp hp _) ?_
      rw [e]
      exact Wp.grow (rel := VRel G) (r := R.exc c fs h1) g w
    | ok qs h1 =>
      rw [e] at w
      refine pairs_rd (hs.grow g) (hr.tmp hp _) ?_
      rw [e]
      intro ρ1 H1 zs g1 r1 q1
      have w : Wp G (atW E σ) (VRel G) (match keyed qs with | some kvs => ifR (decide (kvs.length ≤ 15)) (.ok (.loc h1.n) (h1.new (.dic (kvs.foldl (fun acc kv => putK acc kv.1 kv.2) [])))) | none => .bad) ρ H Q := w
      split at w
      · rename_i kds e2
        obtain ⟨c, w⟩ := Wp.ifR w
        obtain ⟨kvs, rfl, n⟩ := keyed_rel q1 e2
        obtain ⟨a1, n1, g2⟩ := Grow.adopt (o' := .dK (mergeK [] kvs)) hp g1 (hr.fresh hp) trivial
        refine ⟨a1, kvs, rfl, by rw [n.length]; exact of_decide_eq_true c, ?_⟩
        refine w _ _ _ g2 (r1.adopt n1 a1 trivial ⟨_, upd_same, merge_rel (n.ext (Ext.late a1 trivial _)) .nil⟩) (.loc ?_)
        rw [← r1.len]
        simp
      · exact False.elim w
end
end Mo
end
section
namespace Mo
open PySem L2 PyProof.Rows
section
variable {G : Gm} {E : WM} {X : Cx} {a b c o : Expr} {ma mb mc : ME} {pos : Pos} {as ks : MA} {es : List Expr}
theorem pg_w {e : Expr} {t t' : TG} (h : PG X e t) (w : ∀ v σ H Q, t' v σ H Q → t v σ H Q) : PG X e t' := ⟨fun pins s σ H v u Q I r q => h.run pins s σ H v u Q I r (w v σ H Q q)⟩
theorem pgs_w {e : List Expr} {t t' : TGs} (h : PGs X e t) (w : ∀ v σ H Q, t' v σ H Q → t v σ H Q) : PGs X e t' := ⟨fun pins s σ H v u Q I r q => h.run pins s σ H v u Q I r (w v σ H Q q)⟩
theorem mg_name {i : Nat} {x : Str} (hN : X.N.Nodup) (hi : X.N[i]? = some x) (hx : Loc X.env.scope x) (hf : X.fn x = true ∨ X.env.scope.names.lookup x = some .local := by first | exact .inl rfl | exact .inr rfl | assumption) : PG X (.Name x pos) (rdG G E (gN i)) :=
  pg_w (pg_name hN hi hx hf) fun v σ H Q ⟨ρ, env, h, d, hs, hr, q, w⟩ => Wp.val w hr (hs.set q i)
theorem mgs_nil : PGs X [] (rdGs G E []) := pgs_w pgs_nil fun vs σ H Q ⟨ρ, env, h, ds, hs, hr, q, w⟩ => by
  cases q with
  | nil => exact ⟨rfl, Wp.val w hr hs⟩
  | cons _ _ => exact False.elim w
theorem mgs_cons {g : MG} {gs : List MG} (h1 : PG X a (rdG G E g)) (h2 : PGs X es (rdGs G E gs)) (hs : (assignEach (a :: es) X.env).map (·.2) = assign a X.env :: (assignEach es X.env).map (·.2) := by rfl) : PGs X (a :: es) (rdGs G E (g :: gs)) :=
  pgs_w (pgs_cons h1 h2 hs) fun vs σ H Q ⟨ρ, env, h, ds, hs, hr, q, w⟩ => by
    cases q with
    | nil => exact False.elim w
    | @cons v d vs ds q qs =>
      have w : Wp G (fun _ _ _ => False) (SRel G) ((g d env h).bind fun σ1 h1 => gsAll gs ds σ1 h1) ρ H Q := w
      exact ⟨v, vs, rfl, ρ, env, h, d, hs, hr, q, w.seq fun env1 h1 ρ1 H1 σ1 g1 r1 s1 w1 => ⟨ρ1, env1, h1, ds, s1, r1, qs.grow g1, w1⟩⟩
theorem mg_tup {k n : Nat} {gs : List MG} (hK : X.K = G.K) (hc : X.calm = true) (h : PGs X es (rdGs G E gs)) (hg : gs.length = n := by rfl) (hn : (assignEach es X.env).length = n := by rfl) (hst : (assignEach es X.env).findIdx? (·.1) = none := by rfl) : PG X (.Tuple es k pos) (rdG G E (gT n gs)) :=
  pg_w (pg_tup hc h hn hst) fun v σ H Q ⟨ρ, env, h, d, hs, hr, q, w⟩ => by
    cases q with
    | tup h1 h2 =>
      obtain ⟨k, w⟩ := Wp.ifR (show Wp G (fun _ _ _ => False) (SRel G) (ifR (decide (_ = n)) (gsAll gs _ env h)) ρ H Q from w)
      rw [hK]
      exact ⟨_, _, rfl, h1, by rw [h2.length]; exact of_decide_eq_true k, ρ, env, h, _, hs, hr, h2, w⟩
    | _ => exact False.elim w
theorem mg_ix (ha : PE X a (rd G E ma)) (hb : PE X b (rd G E mb)) (hq : ∀ v, assign (.Subscript a b pos) X.env v = (do
      let ov ← holding [v] (eval a X.env)
      let iv ← holding [v, ov] (eval b X.env)
      standAt pos
      holding [v, ov, iv] (setItem ov iv v)
      release [v, ov, iv] []) := by intro _; rfl) : PG X (.Subscript a b pos) (rdG G E (gIx ma mb)) :=
  pg_w (pg_sub ha hb set_list hq) fun v σ H Q ⟨ρ, env, h, d, hs, hr, q, w⟩ =>
    ⟨ρ, env, h, hs, hr, Wp.seq (Wp.any (E' := atW E σ) w) fun x h1 ρ1 H1 vx g1 r1 q1 w1 => ⟨ρ1, env, h1, hs.grow g1, r1, Wp.seq w1 fun y h2 ρ2 H2 vy g2 r2 q2 w2 => by
      have q1 := q1.grow g2
      have q := (q.grow g1).grow g2
      have hs := (hs.grow g1).grow g2
      cases q1 with
      | @loc p l hl =>
        cases q2 with
        | int k =>
          simp only at w2
          split at w2 <;> first | exact False.elim w2 | skip
          rename_i xs e
          split at w2 <;> first | exact False.elim w2 | skip
          rename_i j e2
          obtain ⟨vs, e3, k3⟩ := r2.at e hl
          have g := Grow.put r2 hl e3 trivial (.lst (vs.set j v))
          refine ⟨p, vs, k, j, rfl, rfl, e3, by rw [k3.length]; exact e2, ?_⟩
          exact w2 _ _ _ g (r2.put hl e3 trivial ⟨_, upd_same, (VRels.set q j k3).grow g⟩) (hs.grow g)
        | _ => exact False.elim w2
      | _ => cases q2 <;> exact False.elim w2⟩⟩
end
section
variable {G : Gm} {E : WM} {X : Cx} {a b c o : Expr} {ma mb mc : ME} {pos : Pos} {as ks : MA} {es : List Expr} {st : Stmt} {sts : List Stmt} {s1 s2 : MS} {t : MT}
theorem ms_nil : PSs X [] (rdS G E sNext) := pss_w pss_nil fun D σ H ⟨ρ, env, h, hs, hr, w⟩ => w ρ H σ (Grow.refl ρ H) hr hs
theorem rd_seq (D : Ends) (σ : L2.St) (H : Hp) (w : rdS G E (sSeq s1 s2) D σ H) : tSeq (rdS G E s1) (rdS G E s2) D σ H := by
  obtain ⟨ρ, env, h, hs, hr, w⟩ := w
  refine ⟨ρ, env, h, hs, hr, ?_⟩
  unfold sSeq at w
  cases e : s1 env h with
  | nx env1 h1 =>
    rw [e] at w
    exact fun ρ1 H1 σ1 g1 r1 q1 => ⟨ρ1, env1, h1, q1, r1, WpS.grow g1 w⟩
  | rt d h1 => rw [e] at w; exact w
  | bk d h1 => rw [e] at w; exact w
  | ct d h1 => rw [e] at w; exact w
  | exc c fs h1 => rw [e] at w; exact w
  | bad => rw [e] at w; exact w
theorem ms_cons (h1 : PS X st (rdS G E s1)) (h2 : PSs X sts (rdS G E s2)) : PSs X (st :: sts) (rdS G E (sSeq s1 s2)) := pss_w (pss_cons h1 h2) rd_seq
theorem ms_one (h1 : PS X st (rdS G E s1)) : PSs X [st] (rdS G E s1) := pss_one h1
theorem ms_never : PS X st (rdS G E sBad) := ps_w ps_never fun D σ H ⟨ρ, env, h, hs, hr, w⟩ => w
theorem ms_expr (ha : PE X a (rd G E ma)) (hs : swapsWith a none pos.line X.env = pure false := by rfl) : PS X (.Expr a pos) (rdS G E (sExpr ma)) :=
  ps_w (ps_expr ha hs) fun D σ H ⟨ρ, env, h, hs, hr, w⟩ => ⟨ρ, env, h, hs, hr, Wp.stm hs w fun x h1 ρ1 H1 v g1 r1 q1 w1 => w1 ρ1 H1 σ (Grow.refl _ _) r1 (hs.grow g1)⟩
theorem rd_asg {g : MG} (D : Ends) (σ : L2.St) (H : Hp) (w : rdS G E (sAsg ma g) D σ H) : tAsg (rd G E ma) (rdG G E g) D σ H := by
  obtain ⟨ρ, env, h, hs, hr, w⟩ := w
  exact ⟨ρ, env, h, hs, hr, Wp.stm hs w fun x h1 ρ1 H1 v g1 r1 q1 w1 => ⟨ρ1, env, h1, x, hs.grow g1, r1, q1, Wp.stmQ w1 fun env2 h2 ρ2 H2 σ2 g2 r2 q2 w2 => w2 ρ2 H2 σ2 (Grow.refl _ _) r2 q2⟩⟩
theorem ms_asg {tg : Expr} {g : MG} (ha : PE X a (rd G E ma)) (hg : PG X tg (rdG G E g)) (hs : swapsWithSole [tg] a pos.line X.env = pure false := by rfl) (hw : swappedStores [tg] a X.env = pure none := by rfl) (h1 : (assignEach [tg] X.env).map (·.2) = [assign tg X.env] := by rfl) :
    PS X (.Assign [tg] a pos) (rdS G E (sAsg ma g)) := ps_w (ps_asg ha hg hs hw h1) rd_asg
theorem ms_set (i : Nat) {x : Str} {pos' : Pos} (hN : X.N.Nodup) (hi : X.N[i]? = some x) (hx : Loc X.env.scope x) (ha : PE X a (rd G E ma)) (hs : swapsWith a (some (.Name x pos')) pos.line X.env = pure false := by rfl)
    (hf : X.fn x = true ∨ X.env.scope.names.lookup x = some .local := by first | exact .inl rfl | exact .inr rfl | assumption) : PS X (.Assign [.Name x pos'] a pos) (rdS G E (sAsg ma (gN i))) :=
  ps_w (ps_set hN hi hx ha hs hf) fun D σ H ⟨ρ, env, h, hs, hr, w⟩ => ⟨ρ, env, h, hs, hr, Wp.stm hs w fun x h1 ρ1 H1 v g1 r1 q1 w1 => (show WpS G E (.nx (env.set i (some x)) h1) ρ1 H1 D from w1) ρ1 H1 _ (Grow.refl _ _) r1 ((hs.grow g1).set q1 i)⟩
theorem ms_par {i j : Nat} {x y : Str} {px py pt : Pos} {kt k2 pt2} (hc : X.calm = true) (hN : X.N.Nodup) (hi : X.N[i]? = some x) (hj : X.N[j]? = some y) (hij : i ≠ j) (hx : X.env.scope.names.lookup x = some .local) (hy : X.env.scope.names.lookup y = some .local) (ha : PA X [a, b] (rdA G E as))
    (hw : swappedStores [.Tuple [.Name x px, .Name y py] kt pt] (.Tuple [a, b] k2 pt2) X.env = pure (some [x, y]) := by rfl) (hs : swapsWithSole [.Tuple [.Name x px, .Name y py] kt pt] (.Tuple [a, b] k2 pt2) pos.line X.env = pure false := by rfl) :
    PS X (.Assign [.Tuple [.Name x px, .Name y py] kt pt] (.Tuple [a, b] k2 pt2) pos) (rdS G E (sPar [i, j] as)) :=
  ps_w (ps_par hc hN hi hj hij hx hy ha hw hs) fun D σ H ⟨ρ, env, h, hs, hr, w⟩ => ⟨ρ, env, h, hs, hr, Wp.stm hs w fun ds h1 ρ1 H1 vs g1 r1 q1 w1 => by
    split at w1
    · rename_i e
      cases e
      obtain ⟨v, u, rfl, k1, k2⟩ := vs2 q1
      exact ⟨v, u, rfl, w1 ρ1 H1 _ (Grow.refl _ _) r1 (((hs.grow g1).set k1 _).set k2 _)⟩
    · rename_i e
      cases e
    · exact False.elim w1⟩
theorem ms_fld {f f' : Str} {cs : List Nat} {pos' : Pos} (hK : X.K = G.K) (hC : ∀ c, cs.contains c = true → Cls G.K (G.cA c) ∧ NoAttr G.K (G.cA c) f) (hf : f' = f) (ho : PE X o (rd G E mb)) (ha : PE X a (rd G E ma)) (hs : swapsWith a (some (.Attribute o f' pos')) pos.line X.env = pure false := by rfl) :
    PS X (.Assign [.Attribute o f' pos'] a pos) (rdS G E (sFld mb cs f ma)) := by
  subst hf
  exact ps_w (ps_fld ho ha hs) fun D σ H ⟨ρ, env, h, hs, hr, w⟩ => ⟨ρ, env, h, hs, hr, Wp.stm hs w fun y h1 ρ1 H1 v g1 r1 q1 w1 => ⟨ρ1, env, h1, hs.grow g1, r1, Wp.stm (hs.grow g1) w1 fun x h2 ρ2 H2 u g2 r2 q2 w2 => by
    cases q2 with
    | @loc p l hl =>
      simp only at w2
      split at w2 <;> first | exact False.elim w2 | skip
      rename_i c fs e
      split at w2 <;> first | exact False.elim w2 | skip
      rename_i k
      obtain ⟨k1, k2⟩ := (Bool.and_eq_true_iff.mp k : cs.contains c = true ∧ decide (fs.length < 1000) = true)
      obtain ⟨dx, fvs, e3, n⟩ := r2.at e hl
      obtain ⟨c1, c2⟩ := hC c k1
      have g := Grow.put r2 hl e3 trivial (.ins (G.cA c) dx (L2.putF f' v fvs))
      rw [hK]
      refine ⟨p, _, dx, fvs, rfl, e3, c1, c2, by rw [n.length]; exact of_decide_eq_true k2, ?_⟩
      exact w2 _ _ _ g (r2.put hl e3 trivial ⟨dx, _, upd_same, (putF_rel (q1.grow g2) n).grow g⟩) (((hs.grow g1).grow g2).grow g)
    | _ => exact False.elim w2⟩⟩
theorem ms_dput {pos' : Pos} (hu : X.A.units + 1 < cLine) (ho : PE X o (rd G E mb)) (hi : PE X b (rd G E mc)) (ha : PE X a (rd G E ma)) (hs : swapsWith a (some (.Subscript o b pos')) pos.line X.env = pure false := by rfl) : PS X (.Assign [.Subscript o b pos'] a pos) (rdS G E (sDPut mb mc ma)) :=
  ps_w (ps_dput hu ho hi ha hs) fun D σ H ⟨ρ, env, h, hs, hr, w⟩ => ⟨ρ, env, h, hs, hr, Wp.stm hs w fun v h1 ρ1 H1 vv g1 r1 q1 w1 => ⟨ρ1, env, h1, hs.grow g1, r1, Wp.stm (hs.grow g1) w1 fun x h2 ρ2 H2 vx g2 r2 q2 w2 => ⟨ρ2, env, h2, (hs.grow g1).grow g2, r2, Wp.stm ((hs.grow g1).grow g2) w2 fun y h3 ρ3 H3 vy g3 r3 q3 w3 => by
    have q2 := q2.grow g3
    have q1 := (q1.grow g2).grow g3
    cases q2 with
    | @loc p l hl =>
      simp only at w3
      split at w3 <;> first | exact False.elim w3 | skip
      rename_i kds k e1 e2
      split at w3 <;> first | exact False.elim w3 | skip
      rename_i c
      obtain ⟨kvs, e4, n⟩ := r3.at e1 hl
      have g := Grow.put r3 hl e4 trivial (.dK (L2.putK kvs k vv))
      have e5 := kOf_rel q3 e2
      subst e5
      refine ⟨p, _, rfl, DPut.k e4 (by rw [n.length]; exact sl_lt (of_decide_eq_true c)), ?_⟩
      exact w3 _ _ _ g (r3.put hl e4 trivial ⟨_, upd_same, (put_rel n q1).grow g⟩) ((((hs.grow g1).grow g2).grow g3).grow g)
    | _ => exact False.elim w3⟩⟩⟩
theorem ms_ret (ha : PE X a (rd G E ma)) : PS X (.Return (some a) pos) (rdS G E (sRet ma)) :=
  ps_w (ps_ret ha) fun D σ H ⟨ρ, env, h, hs, hr, w⟩ => ⟨ρ, env, h, hs, hr, Wp.stm hs w fun x h1 ρ1 H1 v g1 r1 q1 w1 => w1 ρ1 H1 v (Grow.refl _ _) r1 q1⟩
theorem ms_if {A B : List Stmt} (hc : PT X c (rdT G E t)) (h1 : PSs X A (rdS G E s1)) (h2 : PSs X B (rdS G E s2)) : PS X (.If c A B pos) (rdS G E (sIf t s1 s2)) :=
  ps_w (ps_if hc h1 h2) fun D σ H ⟨ρ, env, h, hs, hr, w⟩ => ⟨ρ, env, h, hs, hr, Wp.stm hs w fun k h1 ρ1 H1 v g1 r1 q1 w1 => by
    cases q1
    cases k with
    | true => exact ⟨ρ1, env, h1, hs.grow g1, r1, w1⟩
    | false => exact ⟨ρ1, env, h1, hs.grow g1, r1, w1⟩⟩
end
structure Yld (G : Gm) (J : L2.It) (it : It) (ρ0 : List Addr) (H0 : Hp) : Prop where
  go : ∀ ρ H h i, Grow ρ0 H0 ρ H → HRel G ρ H h → it.ok h = true → i < it.xs.length → J.go i H
  stop : ∀ ρ H h i, Grow ρ0 H0 ρ H → HRel G ρ H h → it.ok h = true → it.xs.length ≤ i → J.stop i H
  yld : ∀ ρ H h i x H', Grow ρ0 H0 ρ H → HRel G ρ H h → it.ok h = true → J.yld i H x H' → ∀ d, it.xs[i]? = some d → ∃ ρ', Grow ρ H ρ' H' ∧ HRel G ρ' H' h ∧ VRel G ρ' H' x d
def rdI (G : Gm) (E : WM) (m : MI) : TI := fun σ H R => ∃ ρ env h, SRel G ρ H σ env ∧ HRel G ρ H h ∧ Wp G (atW E σ) (fun ρ' H' J it => Yld G J it ρ' H') (m env h) ρ H R
section
variable {G : Gm} {E : WM} {X : Cx} {a b c o tg : Expr} {ma mb mc : ME} {pos : Pos} {as ks : MA} {es : List Expr}
theorem pi_w {e : Expr} {t t' : TI} (h : PI X tg e t) (w : ∀ σ H Q, t' σ H Q → t σ H Q) : PI X tg e t' := ⟨fun pins s σ H Q I q => h.run pins s σ H Q I (w σ H Q q)⟩
theorem pi_or {e : Expr} {t t' : TI} (h : PI X tg e t) (h' : PI X tg e t') : PI X tg e (fun σ H Q => t σ H Q ∨ t' σ H Q) := ⟨fun pins s σ H Q I q => q.elim (h.run pins s σ H Q I) (h'.run pins s σ H Q I)⟩
theorem yld_list {ρ : List Addr} {H : Hp} {x : D} {p : Addr} {xs : List D} (q : VRel G ρ H (.ref p) x) : Yld G (Itl G.K p) ⟨xs, fun h' => decide (h'.seq x = some xs)⟩ ρ H := by
  have at' : ∀ {ρ' : List Addr} {H' : Hp} {h : Hm}, Grow ρ H ρ' H' → HRel G ρ' H' h → decide (h.seq x = some xs) = true → ∃ vs, SqL G.K H' p vs ∧ VRels G ρ' H' vs xs := fun g r e => by
    obtain ⟨a, vs, e1, k1, k2⟩ := r.seqL (of_decide_eq_true e) (q.grow g)
    cases e1
    exact ⟨vs, k1, k2⟩
  refine ⟨fun ρ' H' h i g r e hi => ?_, fun ρ' H' h i g r e hi => ?_, fun ρ' H' h i y H2 g r e yl d ed => ?_⟩
  · obtain ⟨vs, k1, k2⟩ := at' g r e
    have hi : i < xs.length := hi
    have hi' : i < vs.length := by rw [k2.length]; exact hi
    exact ⟨vs, vs[i], k1, by simp [hi']⟩
  · obtain ⟨vs, k1, k2⟩ := at' g r e
    exact ⟨vs, k1, by rw [k2.length]; exact hi⟩
  · obtain ⟨vs, k1, k2⟩ := at' g r e
    obtain ⟨e2, yl⟩ := yl
    subst e2
    obtain ⟨v, e3, k3⟩ := k2.get ed
    have e4 := yl vs k1
    rw [e3] at e4
    cases e4
    exact ⟨ρ', Grow.refl _ _, r, k3⟩
theorem yld_tup {ρ : List Addr} {H : Hp} {p : Addr} {vs : List V} {xs : List D} (h1 : SqT G.K H p vs) (h2 : VRels G ρ H vs xs) : Yld G (Itt G.K p) ⟨xs, fun _ => true⟩ ρ H := by
  refine ⟨fun ρ' H' h i g r e hi => ?_, fun ρ' H' h i g r e hi => ?_, fun ρ' H' h i y H2 g r e yl d ed => ?_⟩
  · have hi : i < xs.length := hi
    have hi' : i < vs.length := by rw [h2.length]; exact hi
    exact ⟨vs, vs[i], g.ext.sqT h1, by simp [hi']⟩
  · exact ⟨vs, g.ext.sqT h1, by rw [h2.length]; exact hi⟩
  · obtain ⟨e2, yl⟩ := yl
    subst e2
    obtain ⟨v, e3, k3⟩ := h2.get ed
    have e4 := yl vs (g.ext.sqT h1)
    rw [e3] at e4
    cases e4
    exact ⟨ρ', Grow.refl _ _, r, k3.grow g⟩
theorem intsFrom_get {lo : Int} {n i : Nat} (h : i < n) : (intsFrom lo n)[i]? = some (.int (lo + i)) := by
  unfold intsFrom
  rw [List.getElem?_map, List.getElem?_range h]
  rfl
theorem intsFrom_len {lo : Int} {n : Nat} : (intsFrom lo n).length = n := by
  unfold intsFrom
  rw [List.length_map, List.length_range]
theorem yld_rng {ρ : List Addr} {H : Hp} {lo : Int} {n : Nat} : Yld G (Itr lo n) ⟨intsFrom lo n, fun _ => true⟩ ρ H := by
  refine ⟨fun ρ' H' h i g r e hi => ?_, fun ρ' H' h i g r e hi => ?_, fun ρ' H' h i y H2 g r e yl d ed => ?_⟩
  · show i < n
    rw [← intsFrom_len (lo := lo) (n := n)]
    exact hi
  · show n ≤ i
    rw [← intsFrom_len (lo := lo) (n := n)]
    exact hi
  · obtain ⟨e2, e3⟩ := yl
    subst e2 e3
    have hl := (List.getElem?_eq_some_iff.mp ed).1
    rw [intsFrom_len] at hl
    have ed : (intsFrom lo n)[i]? = some d := ed
    rw [intsFrom_get hl] at ed
    cases ed
    exact ⟨ρ', Grow.refl _ _, r, .int _⟩
theorem numbered_get : ∀ {xs : List D} {k i : Nat}, (numbered k xs)[i]? = xs[i]?.map fun x => .tup [.int ((k + i : Nat) : Int), x]
  | [], k, i => by simp [numbered]
  | x :: xs, k, 0 => by simp [numbered]
  | x :: xs, k, i + 1 => by
    have e := numbered_get (xs := xs) (k := k + 1) (i := i)
    have e2 : k + 1 + i = k + (i + 1) := by omega
    rw [e2] at e
    simpa [numbered] using e
theorem numbered_len : ∀ (xs : List D) (k : Nat), (numbered k xs).length = xs.length
  | [], _ => rfl
  | x :: xs, k => congrArg (· + 1) (numbered_len xs (k + 1))
theorem yld_enum {ρ : List Addr} {H : Hp} {x : D} {p : Addr} {xs : List D} (q : VRel G ρ H (.ref p) x) : Yld G (Ite G.K p) ⟨numbered 0 xs, fun h' => decide (h'.seq x = some xs)⟩ ρ H := by
  have at' : ∀ {ρ' : List Addr} {H' : Hp} {h : Hm}, Grow ρ H ρ' H' → HRel G ρ' H' h → decide (h.seq x = some xs) = true → ∃ vs, SqL G.K H' p vs ∧ VRels G ρ' H' vs xs := fun g r e => by
    obtain ⟨a, vs, e1, k1, k2⟩ := r.seqL (of_decide_eq_true e) (q.grow g)
    cases e1
    exact ⟨vs, k1, k2⟩
  refine ⟨fun ρ' H' h i g r e hi => ?_, fun ρ' H' h i g r e hi => ?_, fun ρ' H' h i y H2 g r e yl d ed => ?_⟩
  · obtain ⟨vs, k1, k2⟩ := at' g r e
    have hi : i < (numbered 0 xs).length := hi
    rw [numbered_len] at hi
    have hi' : i < vs.length := by rw [k2.length]; exact hi
    exact ⟨vs, vs[i], k1, by simp [hi']⟩
  · obtain ⟨vs, k1, k2⟩ := at' g r e
    have hi : (numbered 0 xs).length ≤ i := hi
    rw [numbered_len] at hi
    exact ⟨vs, k1, by rw [k2.length]; exact hi⟩
  · obtain ⟨vs, k1, k2⟩ := at' g r e
    obtain ⟨T, z, e2, hT, e3, yl⟩ := yl
    subst e2 e3
    have ed : (numbered 0 xs)[i]? = some d := ed
    rw [numbered_get] at ed
    obtain ⟨w, e4, e5⟩ := Option.map_eq_some_iff.mp ed
    subst e5
    obtain ⟨v, e6, k3⟩ := k2.get e4
    have e7 := yl vs k1
    rw [e6] at e7
    rw [Option.some.inj e7] at k3
    have g2 := Grow.tmp (ρ := ρ') hT (.tup [.int (i : Nat), z])
    refine ⟨ρ', g2, r.tmp hT _, .tup (SqT.of upd_same) (.cons ?_ (.cons (k3.grow g2) .nil))⟩
    have e8 : (0 + i : Nat) = i := Nat.zero_add i
    rw [e8]
    exact .int _
theorem mi_seq (hK : X.K = G.K) (ha : PE X a (rd G E ma)) : PI X tg a (rdI G E (iSeq ma)) := pi_w (pi_or (pi_list ha) (pi_tup ha)) fun σ H R ⟨ρ, env, h, hs, hr, w⟩ => by
  rw [hK]
  unfold iSeq at w
  cases e : ma env h with
  | bad => rw [e] at w; exact False.elim w
  | exc c fs h1 => rw [e] at w; exact .inl ⟨ρ, env, h, hs, hr, by rw [e]; exact w⟩
  | ok x h1 =>
    rw [e] at w
    by_cases ht : ∃ ds, x = .tup ds
    · obtain ⟨ds, rfl⟩ := ht
      refine .inr ⟨ρ, env, h, hs, hr, ?_⟩
      rw [e]
      intro ρ1 H1 v g1 r1 q1
      cases q1 with
      | tup k1 k2 => exact ⟨_, rfl, ⟨_, k1⟩, Wp.val (Wp.grow g1 w) r1 (yld_tup k1 k2)⟩
    · have w : Wp G (atW E σ) (fun ρ' H' J it => Yld G J it ρ' H') (match h1.seq x with | some xs => .ok ⟨xs, fun h' => decide (h'.seq x = some xs)⟩ h1 | none => .bad) ρ H R := by
        cases x <;> first | exact w | exact (ht ⟨_, rfl⟩).elim
      refine .inl ⟨ρ, env, h, hs, hr, ?_⟩
      rw [e]
      intro ρ1 H1 v g1 r1 q1
      split at w
      · rename_i xs e1
        obtain ⟨p, vs, rfl, k1, k2⟩ := r1.seqL e1 q1
        exact ⟨p, rfl, ⟨vs, k1⟩, Wp.val (Wp.grow g1 w) r1 (yld_list q1)⟩
      · exact False.elim w
variable {p : Pos}
theorem mi_rng1 (hg : Gl X "range") (hm : X.mg "range" = none) (ha : PA X [a] (rdA G E as)) (hs : starEach [a] X.env = [(false, eval a X.env)] := by rfl) (h1 : ∀ env h ds h', as env h = .ok ds h' → ds.length = 1) : PI X tg (.Call (.Name "range" p) [a] [] pos) (rdI G E (iRng as)) :=
  pi_w (pi_range1 hg hm ha hs) fun σ H R ⟨ρ, env, h, hs, hr, w⟩ => by
    refine ⟨ρ, env, h, hs, hr, ?_⟩
    unfold iRng at w
    cases e : as env h with
    | bad => rw [e] at w; exact False.elim w
    | exc c fs h1 => rw [e] at w; exact w
    | ok ds h2 =>
      have l := h1 _ _ _ _ e
      rw [e] at w
      refine fun ρ1 H1 vs g1 r1 q1 => ?_
      have w : Wp G (atW E σ) (fun ρ' H' J it => Yld G J it ρ' H') (rngOf ds h2) ρ H R := w
      unfold rngOf at w
      split at w
      · obtain ⟨v, rfl, k⟩ := vs1 q1
        cases k
        obtain ⟨c, w⟩ := Wp.ifR w
        obtain ⟨c1, c2⟩ := of_decide_eq_true c
        exact ⟨_, rfl, c1, c2, Wp.val (Wp.grow g1 w) r1 yld_rng⟩
      · simp at l
      · exact False.elim w
theorem aLen1 {m : ME} : ∀ env h ds h', aCons m aNil env h = .ok ds h' → ds.length = 1 := fun env h ds h' e => by
  unfold aCons aNil at e
  cases e1 : m env h with
  | ok x h1 => rw [e1] at e; cases e; rfl
  | exc c fs h1 => rw [e1] at e; cases e
  | bad => rw [e1] at e; cases e
theorem mi_enum {elts : List Expr} {kk : Nat} {tpos : Pos} (hK : X.K = G.K) (hg : Gl X "enumerate") (hm : X.mg "enumerate" = none) (ha : PA X [a] (rdA G E (aCons ma aNil))) (hs : starEach [a] X.env = [(false, eval a X.env)] := by rfl) : PI X (.Tuple elts kk tpos) (.Call (.Name "enumerate" p) [a] [] pos) (rdI G E (iEnum ma)) :=
  pi_w (pi_enum hg hm ha hs) fun σ H R ⟨ρ, env, h, hs, hr, w⟩ => by
    rw [hK]
    refine ⟨ρ, env, h, hs, hr, ?_⟩
    unfold iEnum at w
    unfold aCons aNil
    cases e : ma env h with
    | bad => rw [e] at w; exact False.elim w
    | exc c fs h1 => rw [e] at w; exact w
    | ok x h1 =>
      rw [e] at w
      refine fun ρ1 H1 vs g1 r1 q1 => ?_
      obtain ⟨v, rfl, k⟩ := vs1 q1
      have w : Wp G (atW E σ) (fun ρ' H' J it => Yld G J it ρ' H') (match h1.seq x with | some xs => .ok ⟨numbered 0 xs, fun h' => decide (h'.seq x = some xs)⟩ h1 | none => .bad) ρ H R := w
      split at w
      · rename_i xs e1
        obtain ⟨p, vs, rfl, k1, k2⟩ := r1.seqL e1 k
        exact ⟨p, vs, rfl, k1, Wp.val (Wp.grow g1 w) r1 (yld_enum k)⟩
      · exact False.elim w
end
end Mo
end
section
namespace Mo
open PySem L2 PyProof.Rows
section
variable {G : Gm} {E : WM} {X : Cx} {a b c o tg : Expr} {ma mb mc : ME} {pos : Pos} {as ks : MA} {es : List Expr}
theorem turn_ends {r : RS} {ρ : List Addr} {H : Hp} {D : Ends} {go : MS} {N : L2.St → Hp → Prop} (w : WpS G E (match r with | .nx σ2 h2 => go σ2 h2 | .ct σ2 h2 => go σ2 h2 | .bk σ2 h2 => .nx σ2 h2 | .rt d h2 => .rt d h2 | .exc c fs σ2 h2 => .exc c fs σ2 h2 | .bad => .bad) ρ H D)
    (hN : ∀ env h, WpS G E (go env h) ρ H D → ∀ ρ' H' σ', Grow ρ H ρ' H' → HRel G ρ' H' h → SRel G ρ' H' σ' env → N σ' H') : WpS G E r ρ H { D with nx := N, ct := N, bk := D.nx } := by
  cases r with
  | nx e h => exact hN e h w
  | ct e h => exact hN e h w
  | bk e h => exact w
  | rt d h => exact w
  | exc c fs h => exact w
  | bad => exact w
theorem ms_for {it : Expr} {body : List Stmt} {mi : MI} {g : MG} {mb : MS} (hp : PassesOwn (model X.prog X.w) X.A X.env X.xe) (hc : X.calm = true) (hi : PI X tg it (rdI G E mi)) (hg : PG X tg (rdG G E g)) (hb : PSs X body (rdS G E mb))
    (hs : ∀ x, foldedSetIterable it X.env x = pure x := by intro _; rfl) : PS X (.For tg it body [] pos) (rdS G E (sFor mi g mb)) :=
  ps_w (ps_for hp hc hi hg hb hs) fun D σ H ⟨ρ, env, h, hs, hr, w⟩ => ⟨ρ, env, h, hs, hr, Wp.stm hs w fun J h1 ρ1 H1 JJ g1 r1 y w1 => by
    have s1 := hs.grow g1
    refine ⟨fun i m σ2 H2 => m = J.xs.length - i ∧ i ≤ J.xs.length ∧ ∃ ρ2 env2 h2, Grow ρ1 H1 ρ2 H2 ∧ SRel G ρ2 H2 σ2 env2 ∧ HRel G ρ2 H2 h2 ∧ WpS G E (forGo g mb J.ok (J.xs.drop i) env2 h2) ρ2 H2 D, ⟨_, rfl, Nat.zero_le _, ρ1, env, h1, Grow.refl _ _, s1, r1, w1⟩, ?_⟩
    rintro i m σ2 H2 ⟨rfl, hle, ρ2, env2, h2, g2, s2, r2, w2⟩
    by_cases hlt : i < J.xs.length
    · rw [List.drop_eq_getElem_cons hlt] at w2
      unfold forGo at w2
      split at w2 <;> first | exact False.elim w2 | skip
      rename_i ok
      refine .inr ⟨y.go ρ2 H2 h2 i g2 r2 ok hlt, fun σ' H' => ∃ m', m' < J.xs.length - i ∧ m' = J.xs.length - (i + 1) ∧ i + 1 ≤ J.xs.length ∧ ∃ ρ2 env2 h2, Grow ρ1 H1 ρ2 H' ∧ SRel G ρ2 H' σ' env2 ∧ HRel G ρ2 H' h2 ∧ WpS G E (forGo g mb J.ok (J.xs.drop (i + 1)) env2 h2) ρ2 H' D, fun σ' H' ⟨m', l, q⟩ => ⟨m', l, q⟩, fun x H3 yl => ?_⟩
      obtain ⟨ρ3, g3, r3, q3⟩ := y.yld ρ2 H2 h2 i x H3 g2 r2 ok yl J.xs[i] (by simp [hlt])
      refine ⟨ρ3, env2, h2, J.xs[i], s2.grow g3, r3, q3, Wp.stmQ (WpS.grow g3 w2) fun env4 h4 ρ4 H4 σ4 g4 r4 s4 w4 => ?_⟩
      refine ⟨ρ4, env4, h4, s4, r4, turn_ends (go := forGo g mb J.ok (J.xs.drop (i + 1))) w4 fun e5 h5 w5 ρ5 H5 σ5 g5 r5 s5 => ?_⟩
      exact ⟨J.xs.length - (i + 1), by omega, rfl, hlt, ρ5, e5, h5, ((g2.trans g3).trans g4).trans g5, s5, r5, WpS.grow g5 w5⟩
    · have e : i = J.xs.length := by omega
      subst e
      rw [List.drop_length] at w2
      unfold forGo at w2
      split at w2 <;> first | exact False.elim w2 | skip
      rename_i ok
      exact .inl ⟨y.stop ρ2 H2 h2 _ g2 r2 ok (Nat.le_refl _), w2 ρ2 H2 σ2 (Grow.refl _ _) r2 s2⟩⟩
theorem Wp.seqQ {α β γ : Type} {rel : List Addr → Hp → β → α → Prop} {ρ : List Addr} {H : Hp} {r : R α} {f : α → Hm → R γ} {Q1 : β → Hp → Prop} (P : R γ → Prop) (hb : ¬ P .bad) (w : P (r.quiet.bind f))
    (k : ∀ a h' ρ' H' b, Grow ρ H ρ' H' → HRel G ρ' H' h' → rel ρ' H' b a → P (f a h') → Q1 b H') : Wp G E0 rel r ρ H Q1 := by
  cases r with
  | ok a h' => exact fun ρ' H' b g hr q => k a h' ρ' H' b g hr q w
  | exc c fs h' => exact (hb w).elim
  | bad => exact (hb w).elim
theorem wipe_set {σ : L2.St} {i : Nat} {x : Option V} : ∀ {vs : List Nat}, i ∈ vs → L2.wipe (σ.set i x) vs = L2.wipe σ vs
  | v :: vs, hi => by
    show (L2.wipe (σ.set i x) vs).set v none = (L2.wipe σ vs).set v none
    by_cases c : i ∈ vs
    · rw [wipe_set c]
    · have e : i = v := by
        rcases List.mem_cons.mp hi with e | e
        · exact e
        · exact absurd e c
      subst e
      have out : ∀ {ws : List Nat}, i ∉ ws → L2.wipe (σ.set i x) ws = (L2.wipe σ ws).set i x := by
        intro ws
        induction ws with
        | nil => intro _; rfl
        | cons w ws ih =>
          intro hn
          show (L2.wipe (σ.set i x) ws).set w none = ((L2.wipe σ ws).set w none).set i x
          rw [ih fun z => hn (List.mem_cons_of_mem _ z), List.set_comm _ _ (fun z => hn (by rw [z]; exact List.mem_cons_self))]
      rw [out c, List.set_set]
theorem wipe_wipe {σ : L2.St} : ∀ (vs : List Nat), L2.wipe (L2.wipe σ vs) vs = L2.wipe σ vs := by
  have out : ∀ {ws : List Nat} {τ : L2.St}, (∀ v ∈ ws, τ[v]? = some none ∨ τ[v]? = none) → L2.wipe τ ws = τ := by
    intro ws
    induction ws with
    | nil => intro τ _; rfl
    | cons w ws ih =>
      intro τ h
      show (L2.wipe τ ws).set w none = τ
      rw [ih fun v hv => h v (List.mem_cons_of_mem _ hv)]
      rcases h w List.mem_cons_self with e | e
      · apply List.ext_getElem?
        intro j
        by_cases c : w = j
        · subst c
          rw [List.getElem?_set, if_pos rfl, e, if_pos (List.getElem?_eq_some_iff.mp e).1]
        · rw [List.getElem?_set_ne c]
      · rw [List.set_eq_of_length_le (List.getElem?_eq_none_iff.mp e)]
  intro vs
  apply out
  intro v hv
  cases e : (L2.wipe σ vs)[v]? with
  | none => exact .inr rfl
  | some o =>
    cases o with
    | none => exact .inl rfl
    | some x => exact absurd hv (wipe_some e).2
def BdOk (G : Gm) (bd : D → Env → Option Env) (g : TG) (vs : List Nat) : Prop := ∀ ρ H d v env env2 (σ : L2.St), VRel G ρ H v d → SRel G ρ H σ env → bd d env = some env2 →
  ∀ k : L2.St → Hp → Prop, (∀ σ2, SRel G ρ H σ2 env2 → L2.wipe σ2 vs = L2.wipe σ vs → k σ2 H) → g v σ H k
theorem bd_one {i : Nat} {vs : List Nat} (h : i ∈ vs) : BdOk G (bindC true [i]) (gName i) vs := fun ρ H d v env env2 σ q s e k hk => by
  cases (show some (env.set i (some d)) = some env2 from e)
  exact hk _ (s.set q i) (wipe_set h)
def gNames : List Nat → TGs
  | [] => gNil
  | i :: is => gCons (gName i) (gNames is)
theorem bd_names {vs : List Nat} : ∀ {is : List Nat}, (∀ i ∈ is, i ∈ vs) → ∀ ρ H ds ws env env2 (σ : L2.St), VRels G ρ H ws ds → SRel G ρ H σ env → setsN is ds env = some env2 →
    ∀ k : L2.St → Hp → Prop, (∀ σ2, SRel G ρ H σ2 env2 → L2.wipe σ2 vs = L2.wipe σ vs → k σ2 H) → gNames is ws σ H k
  | [], _, ρ, H, [], _, env, env2, σ, .nil, s, e, k, hk => by
    cases (show some env = some env2 from e)
    exact ⟨rfl, hk σ s rfl⟩
  | [], _, ρ, H, _ :: _, _, env, env2, σ, _, s, e, k, hk => nomatch e
  | i :: is, h, ρ, H, [], _, env, env2, σ, _, s, e, k, hk => nomatch e
  | i :: is, h, ρ, H, d :: ds, _, env, env2, σ, .cons q qs, s, e, k, hk => by
    refine ⟨_, _, rfl, ?_⟩
    exact bd_names (fun j hj => h j (List.mem_cons_of_mem _ hj)) ρ H ds _ _ env2 _ qs (s.set q i) e k fun σ2 s2 e2 => hk σ2 s2 (e2.trans (wipe_set (h i List.mem_cons_self)))
theorem bd_tup {is vs : List Nat} (h : ∀ i ∈ is, i ∈ vs) : BdOk G (bindC false is) (gTup G.K is.length (gNames is)) vs := fun ρ H d v env env2 σ q s e k hk => by
  cases q with
  | tup h1 h2 =>
    have e : setsN is _ env = some env2 := e
    refine ⟨_, _, rfl, h1, ?_, bd_names h ρ H _ _ env env2 σ h2 s e k hk⟩
    rw [h2.length]
    have len : ∀ {is : List Nat} {ds : List D} {env : Env}, setsN is ds env = some env2 → ds.length = is.length := by
      intro is
      induction is with
      | nil =>
        intro ds env e
        cases ds with
        | nil => rfl
        | cons _ _ => cases e
      | cons i is ih =>
        intro ds env e
        cases ds with
        | nil => cases e
        | cons d ds => exact congrArg (· + 1) (ih (show setsN is ds _ = some env2 from e))
    exact len e
  | _ => cases e
theorem HRel.aside {ρ : List Addr} {H : Hp} {h : Hm} (r : HRel G ρ H h) {p : Addr} {u u' : HO} (hn : p ∉ ρ) (hu : H p = some u) (hm : Mu u) : HRel G ρ (upd H p u') h ∧ Ext ρ H ρ (upd H p u') := by
  have g : Ext ρ H ρ (upd H p u') := by
    refine ⟨⟨[], by simp⟩, fun b xs e => ?_, fun b o v e => ?_⟩
    · rw [upd_ne (ne_of e hu (by rintro rfl; exact hm))]; exact e
    · rw [upd_ne (ne_of e hu (by rintro rfl; exact hm))]; exact e
  refine ⟨⟨r.len, r.inj, fun a m => ?_, fun l v e => ?_, r.tabs.put hu hm, fun q hq => (r.root q hq).trans g⟩, g⟩
  · obtain ⟨w, e⟩ := r.has a m
    exact ⟨w, by rw [upd_ne (fun z => hn (by rw [← z]; exact m))]; exact e⟩
  · obtain ⟨a, e1, k⟩ := r.obj l v e
    exact ⟨a, e1, k.ext g (upd_ne fun z => hn (by rw [← z]; exact List.mem_of_getElem? e1))⟩
theorem rd_compG {mi : MI} {own : List Nat} {one : Bool} {is : List Nat} {t : MT} {g : TG} (fin : List D → Hm → R D) (hb : BdOk G (bindC one is) g own) (σ : L2.St) (H : Hp) (Q Q' : VK)
    (hf : ∀ ρ1 H1 ρ2 H2 h2 L acc dacc, H1 L = none → Grow ρ1 H1 ρ2 H2 → HRel G ρ2 H2 h2 → L ∉ ρ2 → H2 L = some (.lst acc) → VRels G ρ2 H2 acc dacc → Wp G (atW E σ) (VRel G) (fin dacc h2) ρ1 H1 Q → Q' (.ref L) H2)
    (w : rd G E (fun σ h => (mi σ h).bind fun J h1 => (compGo (bindC one is) t ma J.ok (wipe σ own) J.xs [] h1).bind fin) σ H Q) : tLc (rdI G E mi) g (rdT G EW t) (rd G EW ma) own σ H Q' := by
  obtain ⟨ρ, env, h, hs, hr, w⟩ := w
  refine ⟨ρ, env, h, hs, hr, Wp.seq w fun J h1 ρ1 H1 JJ g1 r1 y w1 => ?_⟩
  intro L hL
  have s1 := hs.grow g1
  have nL := r1.fresh hL
  have gL := Grow.tmp (ρ := ρ1) hL (.lst [])
  refine ⟨fun i m H2 => m = J.xs.length - i ∧ i ≤ J.xs.length ∧ ∃ ρ2 h2 acc dacc, Grow ρ1 H1 ρ2 H2 ∧ HRel G ρ2 H2 h2 ∧ L ∉ ρ2 ∧ H2 L = some (.lst acc) ∧ VRels G ρ2 H2 acc dacc ∧
    Wp G (atW E σ) (VRel G) ((compGo (bindC one is) t ma J.ok (wipe env own) (J.xs.drop i) dacc h2).bind fin) ρ1 H1 Q, ⟨_, rfl, Nat.zero_le _, ρ1, h1, [], [], gL, r1.tmp hL _, nL, upd_same, .nil, w1⟩, ?_⟩
  rintro i m H2 ⟨rfl, hle, ρ2, h2, acc, dacc, g2, r2, n2, e2, q2, w2⟩
  by_cases hlt : i < J.xs.length
  · rw [List.drop_eq_getElem_cons hlt] at w2
    unfold compGo at w2
    split at w2 <;> first | exact False.elim w2 | skip
    rename_i env3 ok eb
    refine .inr ⟨y.go ρ2 H2 h2 i g2 r2 ok hlt, fun H' => ∃ m', m' < J.xs.length - i ∧ m' = J.xs.length - (i + 1) ∧ i + 1 ≤ J.xs.length ∧ ∃ ρ2 h2 acc dacc, Grow ρ1 H1 ρ2 H' ∧ HRel G ρ2 H' h2 ∧ L ∉ ρ2 ∧ H' L = some (.lst acc) ∧ VRels G ρ2 H' acc dacc ∧
      Wp G (atW E σ) (VRel G) ((compGo (bindC one is) t ma J.ok (wipe env own) (J.xs.drop (i + 1)) dacc h2).bind fin) ρ1 H1 Q, fun H' ⟨m', l, q⟩ => ⟨m', l, q⟩, fun x H3 yl => ?_⟩
    obtain ⟨ρ3, g3, r3, q3⟩ := y.yld ρ2 H2 h2 i x H3 g2 r2 ok yl J.xs[i] (by simp [hlt])
    refine hb ρ3 H3 J.xs[i] x _ env3 _ q3 (((s1.grow g2).grow g3).wipe own) eb _ fun σ4 s4 ew => ⟨by rw [ew, wipe_wipe], ρ3, env3, h2, s4, r3, ?_⟩
    obtain ⟨e3, n3⟩ := g3.out L _ e2 n2
    let P : R (List D) → Prop := fun r => Wp G (atW E σ) (VRel G) (r.bind fin) ρ1 H1 Q
    refine Wp.seqQ P (fun z => z) w2 fun k h4 ρ4 H4 b g4 r4 q4 w4 => ?_
    have q4 : b = k := q4
    subst q4
    obtain ⟨e4, n4⟩ := g4.out L _ e3 n3
    cases b with
    | false =>
      show ∃ m', m' < J.xs.length - i ∧ _
      exact ⟨J.xs.length - (i + 1), by omega, rfl, hlt, ρ4, h4, acc, dacc, (g2.trans g3).trans g4, r4, n4, e4, (q2.grow g3).grow g4, w4⟩
    | true =>
      show rd G EW ma σ4 H4 _
      refine ⟨ρ4, env3, h4, s4.grow g4, r4, Wp.seqQ P (fun z => z) w4 fun d h5 ρ5 H5 v g5 r5 q5 w5 => ?_⟩
      obtain ⟨e5, n5⟩ := g5.out L _ e4 n4
      have w5 : P (ifR (decide (dacc.length < SL)) (compGo (bindC one is) t ma J.ok (wipe env own) (J.xs.drop (i + 1)) (dacc ++ [d]) h5)) := w5
      have q6 := ((q2.grow g3).grow g4).grow g5
      cases c : decide (dacc.length < SL) with
      | false =>
        rw [c] at w5
        exact False.elim w5
      | true =>
        rw [c] at w5
        obtain ⟨r6, x6⟩ := r5.aside (u' := .lst (acc ++ [v])) n5 e5 trivial
        refine ⟨acc, e5, by rw [q2.length]; exact sl_lt (of_decide_eq_true c), J.xs.length - (i + 1), by omega, rfl, hlt, ρ5, h5, acc ++ [v], dacc ++ [d], ?_, r6, n5, upd_same, (q6.append (.cons q5 .nil)).ext x6, w5⟩
        have g6 := ((g2.trans g3).trans g4).trans g5
        refine ⟨g6.pre, fun b xs e => ?_, fun b o u e => ?_, fun b o e n kt => ?_⟩
        · rw [upd_ne (ne_of_none e hL)]; exact g6.tup b xs e
        · rw [upd_ne (ne_of_none e hL)]; exact g6.frz b o u e
        · rw [upd_ne (ne_of_none e hL)]; exact g6.out b o e n kt
  · have e : i = J.xs.length := by omega
    subst e
    rw [List.drop_length] at w2
    unfold compGo at w2
    cases ok : J.ok h2 with
    | false => rw [ok] at w2; exact False.elim w2
    | true =>
      rw [ok] at w2
      exact .inl ⟨y.stop ρ2 H2 h2 _ g2 r2 ok (Nat.le_refl _), hf ρ1 H1 ρ2 H2 h2 L acc dacc hL ⟨g2.pre, g2.tup, g2.frz, g2.outT⟩ r2 n2 e2 q2 w2⟩
theorem rd_comp {mi : MI} {own : List Nat} {one : Bool} {is : List Nat} {t : MT} {g : TG} (hb : BdOk G (bindC one is) g own) (σ : L2.St) (H : Hp) (Q : VK) (w : rd G E (eComp mi own one is t ma) σ H Q) : tLc (rdI G E mi) g (rdT G EW t) (rd G EW ma) own σ H Q :=
  rd_compG (fun acc h2 => .ok (.loc h2.n) (h2.new (.lst acc))) hb σ H Q Q (fun ρ1 H1 ρ2 H2 h2 L acc dacc hL g2 r2 n2 e2 q2 w2 => by
    have e3 : upd H2 L (.lst acc) = H2 := by
      funext b
      by_cases c : b = L
      · rw [c, upd_same, e2]
      · rw [upd_ne c]
    have r3 := r2.adopt (u' := .lst acc) (o := .lst dacc) n2 e2 trivial ⟨acc, upd_same, q2.ext (Ext.late e2 trivial _)⟩
    rw [e3] at r3
    refine (show Wp G (atW E σ) (VRel G) (.ok (.loc h2.n) (h2.new (.lst dacc))) ρ1 H1 Q from w2) (ρ2 ++ [L]) H2 _ ⟨?_, g2.tup, g2.frz, fun b o e n kt => ?_⟩ r3 (.loc ?_)
    · obtain ⟨u, e⟩ := g2.pre
      exact ⟨u ++ [L], by rw [e, List.append_assoc]⟩
    · obtain ⟨e4, n4⟩ := g2.out b o e n kt
      refine ⟨e4, fun m => ?_⟩
      rcases List.mem_append.mp m with m | m
      · exact n4 m
      · exact ne_of_none e hL (List.mem_singleton.mp m)
    · rw [← r2.len]
      simp) w
variable {it elt : Expr} {ifs : List Expr} {scope : Scope} {own : List (Str × Nat)} {mi : MI} {t : MT} {one : Bool} {is : List Nat} {g : TG}
theorem mts_nil {Y : Cx} : PTs Y [] (rdT G E tYes) := ⟨fun pins s σ H Q I ⟨ρ, env, h, hs, hr, w⟩ => pts_nil.run pins s σ H Q I (Wp.val w hr rfl)⟩
theorem mts_one {Y : Cx} {e : Expr} (h : PT Y e (rdT G E t)) : PTs Y [e] (rdT G E t) := pts_one h
theorem me_comp (hc : X.calm = true) (hN : X.N.Nodup) (hi : PI X tg it (rdI G E mi)) (ok : BlkOk X.N X.env.scope scope own) (hbd : BdOk G (bindC one is) g (own.map (·.2)))
    (hg : ∀ (s : Shared) (H : Hp) (C : Addr) (cl : List (Str × Addr)) (fp : List Addr), PG (X.blk s H scope (compEnvC scope cl C X.env) fp) tg g) (ht : ∀ (s : Shared) (H : Hp) (C : Addr) (cl : List (Str × Addr)) (fp : List Addr), PTs (X.blk s H scope (compEnvC scope cl C X.env) fp) ifs (rdT G EW t))
    (he : ∀ (s : Shared) (H : Hp) (C : Addr) (cl : List (Str × Addr)) (fp : List Addr), PE (X.blk s H scope (compEnvC scope cl C X.env) fp) elt (rd G EW ma)) (hs : ∀ x, foldedSetIterable it X.env x = pure x := by intro _; rfl) :
    PE X (.ListComp elt [⟨tg, it, ifs, 0⟩] scope pos) (rd G E (eComp mi (own.map (·.2)) one is t ma)) := pe_w (pe_lc hc hN hi ok hg ht he hs) (rd_comp hbd)
end
end Mo
end
section
namespace Mo
open PySem L2 PyProof.Rows
def spOf (G : Gm) (n : Nat) (F : Fn) : Sp := fun vs H Q E => ∃ ρ ds h, HRel G ρ H h ∧ VRels G ρ H vs ds ∧ vs.length = n ∧ Wp G E (VRel G) (F ds h) ρ H Q
structure RG (k : Nat) (A : Around) : Prop where
  r : Room k A
  g : A.guards = some []
theorem RG.mono {j k : Nat} {A : Around} (r : RG k A) (h : j ≤ k := by decide) : RG j A := ⟨r.r.mono h, r.g⟩
structure FnG (P : Program) (w : World) (K : PySem.W.Frag) (mg : Str → Option Value) (base : Heap) (k : Nat) (f : Addr) (fd : FuncData) (ps : List Str) (sp : Sp) : Prop where
  len : ∀ vs H Q E, sp vs H Q E → vs.length = ps.length
  go : ∀ (A : Around) (rg : RG k A) (outer : List PySem.Env) (s : Shared) (H : Hp) (args : Args) (us : List Value) (vs : List V) (Q : VK) (E : XK), Env0 P w K mg base A outer s H → BindsTo s fd args (ps.zip us) → Vals vs us → sp vs H Q E → codeAny (model P w) A (.call (.ref f) args) (CR (L2.CX P w) outer P w H s Q E) s
section
variable {P : Program} {w : World} {K : PySem.W.Frag} {mg : Str → Option Value} {base : Heap}
theorem start_rel {G : Gm} {ρ : List Addr} {H : Hp} {N : List Str} {vs : List V} {ds : List D} (q : VRels G ρ H vs ds) : SRel G ρ H (L2.start N vs) (ds.map some ++ List.replicate (N.length - ds.length) none) := by
  unfold L2.start
  refine ⟨by simp [q.length], fun i d e => ?_⟩
  by_cases hi : i < ds.length
  · rw [List.getElem?_append_left (by simpa using hi), List.getElem?_map] at e
    obtain ⟨d', e1, e2⟩ := Option.map_eq_some_iff.mp e
    cases e2
    obtain ⟨v, e3, k⟩ := q.get e1
    exact ⟨v, by rw [List.getElem?_append_left (by simpa [q.length] using hi), List.getElem?_map, e3]; rfl, k⟩
  · rw [List.getElem?_append_right (by simpa using hi), List.getElem?_replicate] at e
    split at e <;> cases e
theorem fg_of {G : Gm} {x qual : Str} {params : Arguments} {body : List Stmt} {scope : Scope} {dvs : List V} {kws : List (Str × V)} {f : Addr} {fd : FuncData} {N ps : List Str} {k : Nat} {m : MS} (F : FunD K x qual params body scope dvs kws f fd) (S : FnScope N ps scope)
    (hb : ∀ (cdv : Value), (∃ c, cdv = .ref c ∧ ∀ oc od fd osl, K.lookup f = some ⟨oc, od, .func fd, osl⟩ → fd.code = .ref c) → ∀ (A : Around) (outer : List PySem.Env) (s : Shared) (H : Hp) (E : XK), RG k (A.deeper (envOfC qual scope s.heap.objs.size f cdv)) → PSs (cxOf (L2.CX P w) P w K mg base N qual scope f cdv A outer s H E) body (rdS G (fun cls d _ H => E cls d H) m)) :
    FnG P w K mg base (k + 1) f fd ps (spOf G ps.length (fnOf N.length m)) := by
  obtain ⟨oc, od, dV, kV, doc, pm, an, cdv, ct, osl, rfl, lk, hcd, _, _⟩ := F.ex
  refine ⟨fun vs H Q E ⟨_, _, _, _, _, h, _⟩ => h, fun A rg outer s H args us vs Q E e0 bnd rv ⟨ρ, ds, h, hr, hv, hn, wq⟩ => ?_⟩
  have inK : K.In s.heap := e0.mod.kin.keeps fun c u z => (e0.bs c u z).1
  have lim : s.heap.NoLimit := e0.mod.nolimit.keeps fun c u z => (e0.bs c u z).1
  have kinds : ∀ y ∈ ps.zip us, scope.names.lookup y.1 = some .local ∨ (scope.names.lookup y.1 = some .cell ∧ ((cellsFrom (s.heap.objs.size + 1) scope.names []).lookup y.1).isSome = true) := by
    rintro ⟨n, v⟩ hy
    rcases S.par n (List.of_mem_zip hy).1 with z | z
    · exact Or.inl z
    · exact Or.inr ⟨z, PySem.W.cellsFrom_some _ _ _ (Or.inl z)⟩
  refine codeAny_call_function rg.r.depth (inK _ _ lk) rfl S.co S.gen rfl (PySem.W.codeRec_of inK hcd) (bnd _ _ _ _ (wpAny_newFunctionEnv_cells S.kind kinds fun env he s1 x => ?_))
  subst he
  refine ⟨lim.keeps x.toInCall.keep, codeAny_func ?_⟩
  have J0 := inv_start (CX := L2.CX P w) (P := P) (w := w) (E := E) S rg.r.hd e0 hn rv x
  have rg1 : ∀ j, RG (j + 1) A → RG j (A.deeper (envOfC qual scope s.heap.objs.size f cdv)) := fun j z => ⟨z.r.deeper _, z.g⟩
  have cdR : ∃ c, cdv = .ref c ∧ ∀ oc od fd osl, K.lookup f = some ⟨oc, od, .func fd, osl⟩ → fd.code = .ref c := by
    obtain ⟨c, rfl⟩ := He.codeIn_ref hcd
    refine ⟨c, rfl, fun oc' od' fd' osl' e => ?_⟩
    rw [lk] at e
    cases e
    rfl
  have body := (hb cdv cdR A outer s H E (rg1 k rg)).run [] s1 (L2.start N vs) H { nx := fun _ H' => Q .non H', rt := Q } J0 ⟨ρ, _, h, start_rel hv, hr, by
    have wq : Wp G E (VRel G) (match m (ds.map some ++ List.replicate (N.length - ds.length) none) h with | .nx _ h1 => .ok .non h1 | .rt d h1 => .ok d h1 | .exc c fs _ h1 => .exc c fs h1 | _ => .bad) ρ H Q := wq
    cases e : m (ds.map some ++ List.replicate (N.length - ds.length) none) h with
    | nx env h1 => rw [e] at wq; exact fun ρ1 H1 σ1 g1 r1 q1 => wq ρ1 H1 .non g1 r1 .non
    | rt d h1 => rw [e] at wq; exact wq
    | exc c fs env h1 => rw [e] at wq; exact fun ρ1 H1 d σ1 g1 r1 s1 e1 => wq ρ1 H1 d g1 r1 e1
    | bk env h1 => rw [e] at wq; exact False.elim wq
    | ct env h1 => rw [e] at wq; exact False.elim wq
    | bad => rw [e] at wq; exact False.elim wq⟩
  refine wpAny_mono body (fun fl s' hs => ?_) fun _ _ z => z
  cases fl with
  | ret u =>
    obtain ⟨v, σ', H', J, r, q⟩ := hs
    exact ⟨v, H', J.os, J.bare, J.base, J.hok, r, q⟩
  | next =>
    obtain ⟨σ', H', J, q⟩ := hs
    exact ⟨.non, H', J.os, J.bare, J.base, J.hok, rfl, q⟩
  | brk => exact (let ⟨_, _, _, q⟩ := hs; q : False).elim
  | cont => exact (let ⟨_, _, _, q⟩ := hs; q : False).elim
end
def PassW (X : Cx) (E : WM) : Prop := ∀ (pins : List (Addr × Obj)) (σ : L2.St) (H : Hp) (s : Shared) (e : Value) (s' : Shared), Inv X pins σ H s → L2.CX X.prog X.w X.stack H s (atW E σ) e s' → X.xe e s'
def CallsF (X : Cx) (G : Gm) (E : WM) (fv : Value) (kn : List Str) (F : List D → List D → Hm → R D) : Prop := ∀ (pins : List (Addr × Obj)) (s : Shared) (σ : L2.St) (H : Hp) (us ws : List Value) (vs zs : List V) (ρ : List Addr) (h : Hm) (ds es : List D) (Q : VK),
  Inv X pins σ H s → Vals vs us → Vals zs ws → HRel G ρ H h → VRels G ρ H vs ds → VRels G ρ H zs es → Wp G (atW E σ) (VRel G) (F ds es h) ρ H Q → wpAny (model X.prog X.w) X.A (call fv us (kn.zip ws)) (EP X pins σ Q) X.xe s
def PermR (G : Gm) (n m : Nat) (gV : List V → List V → List V) (p : List D → List D → List D) : Prop := ∀ ρ H vs ds zs es, VRels G ρ H vs ds → VRels G ρ H zs es → ds.length = n → es.length = m → VRels G ρ H (gV vs zs) (p ds es) ∧ (gV vs zs).length = (p ds es).length
section
variable {G : Gm} {E : WM} {X : Cx} {k n : Nat} {f : Addr} {fd : FuncData} {ps kn : List Str} {F : Fn} {g : List Value → List Value → List Value} {gV : List V → List V → List V} {p : List D → List D → List D}
theorem back_to {pins : List (Addr × Obj)} {σ : L2.St} {H : Hp} {s : Shared} {Q : VK} (hx : PassW X E) (I : Inv X pins σ H s) {r : Result} {s' : Shared} (h : CR (L2.CX X.prog X.w) X.stack X.prog X.w H s Q (atW E σ) r s') :
    (match r with | .ok (.ret u) => EP X pins σ Q u s' | .ok _ => False | .error e => X.xe e s') := by
  cases r with
  | error e => exact hx pins σ H s e s' I h
  | ok fl =>
    cases fl with
    | ret u => exact I.after h
    | _ => exact (h : False)
theorem calls_of (FG : FnG X.prog X.w X.K X.mg X.base k f fd ps (spOf G ps.length F)) (rg : RG k X.A) (hb : KBn X.K fd ps n kn g gV) (hx : PassW X E) (hp : PermR G n kn.length gV p) (hl : ∀ ds es, ds.length = n → es.length = kn.length → (p ds es).length = ps.length) : CallsF X G E (.ref f) kn (callP n kn.length p F) := by
  intro pins s σ H us ws vs zs ρ h ds es Q I rv rz hr qv qz w
  obtain ⟨c, w⟩ := Wp.ifR w
  obtain ⟨c1, c2⟩ := Bool.and_eq_true_iff.mp c
  have c1 := of_decide_eq_true c1
  have c2 := of_decide_eq_true c2
  obtain ⟨k1, k2⟩ := hp ρ H vs ds zs es qv qz c1 c2
  have r2 := hb.rel rv rz
  have l1 : us.length = n := by rw [← rv.length, qv.length, c1]
  have l2 : ws.length = kn.length := by rw [← rz.length, qz.length, c2]
  refine wpAny_call (codeAny_mono (FG.go X.A rg X.stack s H ⟨us, kn.zip ws⟩ (g us ws) (gV vs zs) Q (atW E σ) I.env0 (hb.to s us ws I.kIn l1 l2) r2 ⟨ρ, p ds es, h, hr, k1, by rw [k2, hl ds es c1 c2], w⟩) fun r s' hq => ?_)
  have z := back_to hx I hq
  cases r with
  | error e => exact z
  | ok fl =>
    cases fl with
    | ret u => exact z
    | _ => exact (z : False).elim
theorem rg_make {A : Around} (rg : RG (k + 1) A) (C : Addr) (us : List Value) (kw : List (Str × Value)) : RG k (A.under (.builtin "type.__call__" ⟨.ref C :: us, kw⟩)) := by
  refine ⟨rg.r.make C us kw, ?_⟩
  have e := rg.g
  show pushGuards (Code.guards (.builtin "type.__call__" ⟨.ref C :: us, kw⟩)) A.guards = some []
  rw [e]
  rfl
theorem makes_of {c : Nat} (M : Mk X.K (G.cA c) f) (FG : FnG X.prog X.w X.K X.mg X.base k f fd ps (spOf G ps.length F)) (rg : RG (k + 1) X.A) (hb : KBn X.K fd ps (n + 1) kn g gV) (hx : PassW X E) (hp : PermR G (n + 1) kn.length gV p)
    (hl : ∀ ds es, ds.length = n + 1 → es.length = kn.length → (p ds es).length = ps.length) : CallsF X G E (.ref (G.cA c)) kn (mkNew c (callP (n + 1) kn.length p F)) := by
  intro pins s σ H us ws vs zs ρ h ds es Q I rv rz hr qv qz w
  have w : Wp G (atW E σ) (VRel G) ((callP (n + 1) kn.length p F (.loc h.n :: ds) es (h.new (.ins c []))).bind fun v h1 => match v with | .non => .ok (.loc h.n) h1 | _ => .bad) ρ H Q := w
  have hd := I.hok.fresh (Nat.le_refl s.heap.objs.size)
  have hx0 := I.hok.fresh (Nat.le_succ s.heap.objs.size)
  have I2 := Inv.made (C := G.cA c) I
  have ne : s.heap.objs.size + 1 ≠ s.heap.objs.size := Nat.succ_ne_self _
  -- the new instance among what M knows
  have g1 := Grow.tmp (ρ := ρ) hd (.own (s.heap.objs.size + 1))
  have r1 := hr.tmp hd (.own (s.heap.objs.size + 1))
  have hx1 : upd H s.heap.objs.size (.own (s.heap.objs.size + 1)) (s.heap.objs.size + 1) = none := by rw [upd_ne ne]; exact hx0
  have g2 := Grow.new r1 hx1 (.ins (G.cA c) s.heap.objs.size [])
  have r2 : HRel G (ρ ++ [s.heap.objs.size + 1]) _ (h.new (.ins c [])) := r1.new hx1 (ho := .ins (G.cA c) s.heap.objs.size []) ⟨s.heap.objs.size, [], upd_same, .nil⟩
  have gg := g1.trans g2
  have at' : (ρ ++ [s.heap.objs.size + 1])[h.n]? = some (s.heap.objs.size + 1) := by
    rw [← hr.len]
    simp
  cases e : callP (n + 1) kn.length p F (.loc h.n :: ds) es (h.new (.ins c [])) with
  | bad => rw [e] at w; exact False.elim w
  | _ =>
    have e' : ∃ b : Unit, (decide ((D.loc h.n :: ds).length = n + 1) && decide (es.length = kn.length)) = true := by
      cases q : (decide ((D.loc h.n :: ds).length = n + 1) && decide (es.length = kn.length)) with
      | true => exact ⟨(), rfl⟩
      | false =>
        unfold callP at e
        rw [q] at e
        cases e
    obtain ⟨_, e'⟩ := e'
    obtain ⟨c1, c2⟩ := Bool.and_eq_true_iff.mp e'
    have c1 := of_decide_eq_true c1
    have c2 := of_decide_eq_true c2
    have e2 : F (p (.loc h.n :: ds) es) (h.new (.ins c [])) = callP (n + 1) kn.length p F (.loc h.n :: ds) es (h.new (.ins c [])) := by
      show _ = ifR _ _
      rw [e']
      rfl
    have qv2 : VRels G (ρ ++ [s.heap.objs.size + 1]) _ (V.ref (s.heap.objs.size + 1) :: vs) (.loc h.n :: ds) := .cons (.loc at') (qv.grow gg)
    obtain ⟨k1, k2⟩ := hp _ _ _ _ zs es qv2 (qz.grow gg) c1 c2
    have rv2 : Vals (V.ref (s.heap.objs.size + 1) :: vs) (Value.ref (s.heap.objs.size + 1) :: us) := .cons rfl rv
    have r3 := hb.rel rv2 rz
    have l1 : (Value.ref (s.heap.objs.size + 1) :: us).length = n + 1 := by rw [← rv2.length, qv2.length, c1]
    have l2 : ws.length = kn.length := by rw [← rz.length, qz.length, c2]
    have goal := FG.go _ (rg_make rg (G.cA c) us (kn.zip ws)) X.stack _ _ ⟨Value.ref (s.heap.objs.size + 1) :: us, kn.zip ws⟩ (g (Value.ref (s.heap.objs.size + 1) :: us) ws) _ (fun v H2 => v = .non ∧ Q (.ref (s.heap.objs.size + 1)) H2) (atW E σ)
      (I2.env0.make (G.cA c) us (kn.zip ws)) (hb.to _ (Value.ref (s.heap.objs.size + 1) :: us) ws I2.kIn l1 l2) r3 ⟨_, p (.loc h.n :: ds) es, _, r2, k1, by rw [k2, hl _ es c1 c2], by
        rw [e2]
        have w2 := Wp.grow gg w
        rw [e] at w2 ⊢
        first
          | exact w2
          | exact fun ρ3 H3 d3 g3 r4 e3 => w2 ρ3 H3 d3 g3 r4 e3
          | (intro ρ3 H3 v g3 r4 q3
             have w3 := Wp.grow g3 w2
             cases q3 with
             | non => exact ⟨rfl, Wp.val w3 r4 (.loc (g3.at at'))⟩
             | _ => exact False.elim w3)⟩
    refine wpAny_call (make_map (f := f) I.kIn M.makes M.init (beq_iff_eq.mp M.fn) (codeAny_mono goal fun r s' hq => ?_))
    have z := back_to hx I2 hq
    cases r with
    | error e => exact z
    | ok fl =>
      cases fl with
      | ret u =>
        obtain ⟨v, H', I3, rv', ev, q3⟩ := z
        subst ev
        exact ⟨rv', ⟨V.ref (s.heap.objs.size + 1), H', I3, rfl, q3⟩⟩
      | _ => exact (z : False).elim
end
section
variable {G : Gm} {E : WM} {X : Cx} {a b o : Expr} {pos q apos : Pos} {x : Str} {es : List Expr} {as ks : MA} {ma : ME} {F : List D → List D → Hm → R D} {fv : Addr} {kn : List Str} {kws : List Keyword}
theorem pk_w {kws : List Keyword} {t t' : TA} (h : PK X kws t) (w : ∀ σ H Q, t' σ H Q → t σ H Q) : PK X kws t' := ⟨fun pos pins s σ H Q I q => h.run pos pins s σ H Q I (w σ H Q q)⟩
theorem mk_nil : PK X [] (rdA G E aNil) := pk_w pk_nil rd_aNil
theorem mk_cons {nm : Option Str} {kpos : Pos} (ha : PE X a (rd G E ma)) (hr : PK X kws (rdA G E ks)) : PK X (⟨nm, a, kpos⟩ :: kws) (rdA G E (aCons ma ks)) := pk_w (pk_cons ha hr) rd_aCons
def AFt (G : Gm) (E : XK) (f : List D → Hm → R D) (Q : VK) : List V → Hp → Prop := fun vs H => ∃ ρ h ds, HRel G ρ H h ∧ VRels G ρ H vs ds ∧ Wp G E (VRel G) (f ds h) ρ H Q
theorem aft {m : MA} {f : List D → Hm → R D} {ρ : List Addr} {σ : L2.St} {H : Hp} {env : Env} {h : Hm} {Q : VK} (hs : SRel G ρ H σ env) (hr : HRel G ρ H h) (w : Wp G (atW E σ) (VRel G) ((m env h).bind f) ρ H Q) : rdA G E m σ H (AFt G (atW E σ) f Q) :=
  ⟨ρ, env, h, hs, hr, Wp.seq w fun ds h1 ρ1 H1 vs g1 r1 q1 w1 => ⟨ρ1, h1, ds, r1, q1, w1⟩⟩
def AFt2 (G : Gm) (E : WM) (σ : L2.St) (env : Env) (m2 : MA) (f : List D → List D → Hm → R D) (Q : VK) : List V → Hp → Prop := fun vs H => ∃ ρ h ds, SRel G ρ H σ env ∧ HRel G ρ H h ∧ VRels G ρ H vs ds ∧ Wp G (atW E σ) (VRel G) ((m2 env h).bind fun es h2 => f ds es h2) ρ H Q
theorem aft2 {m m2 : MA} {f : List D → List D → Hm → R D} {ρ : List Addr} {σ : L2.St} {H : Hp} {env : Env} {h : Hm} {Q : VK} (hs : SRel G ρ H σ env) (hr : HRel G ρ H h) (w : Wp G (atW E σ) (VRel G) ((m env h).bind fun ds h1 => (m2 env h1).bind fun es h2 => f ds es h2) ρ H Q) :
    rdA G E m σ H (AFt2 G E σ env m2 f Q) := ⟨ρ, env, h, hs, hr, Wp.seq w fun ds h1 ρ1 H1 vs g1 r1 q1 w1 => ⟨ρ1, h1, ds, hs.grow g1, r1, q1, w1⟩⟩
theorem aft2k {m2 : MA} {f : List D → List D → Hm → R D} {ρ : List Addr} {σ : L2.St} {H : Hp} {env : Env} {h : Hm} {ds : List D} {vs : List V} {Q : VK} (hs : SRel G ρ H σ env) (hr : HRel G ρ H h) (q : VRels G ρ H vs ds) (w : Wp G (atW E σ) (VRel G) ((m2 env h).bind fun es h2 => f ds es h2) ρ H Q) :
    rdA G E m2 σ H (fun zs H1 => ∃ ρ h es, HRel G ρ H1 h ∧ VRels G ρ H1 vs ds ∧ VRels G ρ H1 zs es ∧ Wp G (atW E σ) (VRel G) (f ds es h) ρ H1 Q) := ⟨ρ, env, h, hs, hr, Wp.seq w fun es h1 ρ1 H1 zs g1 r1 q1 w1 => ⟨ρ1, h1, es, r1, q.grow g1, q1, w1⟩⟩
theorem me_call (hc : CallsF X G E (.ref fv) [] F) (hg : Gl X x) (hm : X.mg x = some (.ref fv)) (hk : PySem.W.keepIn X.K (.ref fv) = true) (ha : PA X (a :: es) (rdA G E as)) (hdb : (x == ("__debug__" : Str)) = false := by decide)
    (he : starEach (a :: es) X.env = (false, eval a X.env) :: starEach es X.env := by rfl) (hpl : (backTo pos (starEach es X.env)).any (·.1) = false := by rfl) : PE X (.Call (.Name x q) (a :: es) [] pos) (rd G E (eCall F as aNil)) :=
  ⟨fun pins s σ H Q I ⟨ρ, env, h, hs, hr, w⟩ => by
    have A1 := ha.run pos pins s σ H _ I (aft (f := fun ds h1 => F ds [] h1) hs hr w)
    refine wpAny_Call_Name_kw (ld_glob I hg hm (PySem.W.callWith_K (h₀ := X.base) I.ok.mod.kin hk (thn A1 fun us s1 ⟨vs, H1, I1, rv, ρ1, h1, ds, r1, q1, w1⟩ => ⟨I1.kIn, ?_⟩) he hpl) hdb)
    exact hc pins s1 σ H1 us [] vs [] ρ1 h1 ds [] Q I1 rv .nil r1 q1 .nil w1⟩
theorem me_call0 (hc : CallsF X G E (.ref fv) [] F) (hg : Gl X x) (hm : X.mg x = some (.ref fv)) (hk : PySem.W.keepIn X.K (.ref fv) = true) (hdb : (x == ("__debug__" : Str)) = false := by decide) : PE X (.Call (.Name x q) [] [] pos) (rd G E (eCall F aNil aNil)) :=
  ⟨fun pins s σ H Q I ⟨ρ, env, h, hs, hr, w⟩ => wpAny_Call_Name_kw (ld_glob I hg hm (PySem.W.callWith_K0 I.kIn hk (hc pins s σ H [] [] [] [] ρ h [] [] Q I .nil .nil hr .nil .nil w)) hdb)⟩
theorem me_callK (hc : CallsF X G E (.ref fv) kn F) (hg : Gl X x) (hm : X.mg x = some (.ref fv)) (hk : PySem.W.keepIn X.K (.ref fv) = true) (ha : PA X (a :: es) (rdA G E as)) (hkw : PK X kws (rdA G E ks)) (hall : (backToKw pos (keywordEach kws X.env)).all (·.1.isSome) = true := by rfl)
    (hks : (backToKw pos (keywordEach kws X.env)).filterMap (·.1) = kn := by rfl) (hdb : (x == ("__debug__" : Str)) = false := by decide) (he : starEach (a :: es) X.env = (false, eval a X.env) :: starEach es X.env := by rfl)
    (hpl : ((backTo pos (starEach (a :: es) X.env)).any (·.1) || (backToKw pos (keywordEach kws X.env)).any (·.1.isNone)) = false := by rfl) : PE X (.Call (.Name x q) (a :: es) kws pos) (rd G E (eCall F as ks)) :=
  ⟨fun pins s σ H Q I ⟨ρ, env, h, hs, hr, w⟩ => by
    have A1 := ha.run pos pins s σ H _ I (aft2 hs hr w)
    refine wpAny_Call_Name_kw (ld_glob I hg hm (PySem.W.callWith_KW (h₀ := X.base) I.ok.mod.kin hk hall (thn A1 fun us s1 ⟨vs, H1, I1, rv, ρ1, h1, ds, s1', r1, q1, w1⟩ => ?_) hpl he) hdb)
    have A2 := hkw.run pos pins s1 σ H1 _ I1 (aft2k s1' r1 q1 w1)
    refine thn A2 fun ws s2 ⟨zs, H2, I2, rz, ρ2, h2, es', r2, q2, q3, w2⟩ => ⟨I2.kIn, ?_⟩
    rw [hks]
    exact hc pins s2 σ H2 us ws vs zs ρ2 h2 ds es' Q I2 rv rz r2 q2 q3 w2⟩
theorem me_callK0 (hc : CallsF X G E (.ref fv) kn F) (hg : Gl X x) (hm : X.mg x = some (.ref fv)) (hk : PySem.W.keepIn X.K (.ref fv) = true) (hkw : PK X kws (rdA G E ks)) (hall : (backToKw pos (keywordEach kws X.env)).all (·.1.isSome) = true := by rfl)
    (hks : (backToKw pos (keywordEach kws X.env)).filterMap (·.1) = kn := by rfl) (hdb : (x == ("__debug__" : Str)) = false := by decide)
    (hpl : ((backTo pos (starEach [] X.env)).any (·.1) || (backToKw pos (keywordEach kws X.env)).any (·.1.isNone)) = false := by rfl) : PE X (.Call (.Name x q) [] kws pos) (rd G E (eCall F aNil ks)) :=
  ⟨fun pins s σ H Q I ⟨ρ, env, h, hs, hr, w⟩ => by
    refine wpAny_Call_Name_kw (ld_glob I hg hm (PySem.W.callWith_KW0 (h₀ := X.base) I.ok.mod.kin hk hall ?_ hpl) hdb)
    have A2 := hkw.run pos pins s σ H _ I (aft2k (f := F) (ds := []) (vs := []) hs hr .nil w)
    refine thn A2 fun ws s2 ⟨zs, H2, I2, rz, ρ2, h2, es', r2, q2, q3, w2⟩ => ⟨I2.kIn, ?_⟩
    rw [hks]
    exact hc pins s2 σ H2 [] ws [] zs ρ2 h2 [] es' Q I2 .nil rz r2 q2 q3 w2⟩
def MethsF (X : Cx) (G : Gm) (E : WM) (m : Str) (kn : List Str) (ms : List (Nat × (List D → List D → Hm → R D))) : Prop := ∀ c F, pickF c ms = some F → ∃ f, Cls X.K (G.cA c) ∧ Meth X.K (G.cA c) m f ∧ CallsF X G E (.ref f) kn F
theorem meths_nil {m : Str} : MethsF X G E m kn [] := fun c F e => nomatch e
theorem meths_cons {m : Str} {c : Nat} {f : Addr} {ms : List (Nat × (List D → List D → Hm → R D))} (h1 : Cls X.K (G.cA c)) (h2 : Meth X.K (G.cA c) m f) (h3 : CallsF X G E (.ref f) kn F) (hr : MethsF X G E m kn ms) : MethsF X G E m kn ((c, F) :: ms) := fun d F' e => by
  have e : (if c = d then some F else pickF d ms) = some F' := e
  by_cases k : c = d
  · rw [if_pos k] at e
    cases e
    subst k
    exact ⟨f, h1, h2, h3⟩
  · rw [if_neg k] at e
    exact hr d F' e
variable {m m' : Str} {ms : List (Nat × (List D → List D → Hm → R D))}
theorem meth_at (hM : MethsF X G E m kn ms) {ρ : List Addr} {H : Hp} {h : Hm} {x : D} {v : V} (r : HRel G ρ H h) (q : VRel G ρ H v x) (e : selM m ms h x = some F) :
    ∃ a dx c fvs f, v = .ref a ∧ H a = some (.ins (G.cA c) dx fvs) ∧ fvs.lookup m = none ∧ Cls X.K (G.cA c) ∧ Meth X.K (G.cA c) m f ∧ CallsF X G E (.ref f) kn F := by
  cases q with
  | @loc a l hl =>
    simp only [selM] at e
    split at e <;> first | cases e | skip
    rename_i c fs e1
    split at e <;> first | cases e | skip
    rename_i e4 e3
    obtain ⟨dx, fvs, e5, n⟩ := r.at e1 hl
    obtain ⟨f, k1, k2, k3⟩ := hM c F e3
    exact ⟨a, dx, c, fvs, f, rfl, e5, (fld_rel n).2 e4, k1, k2, k3⟩
  | _ => cases e
theorem me_meth {pl : Sem Bool} (hf : m' = m) (hM : MethsF X G E m [] ms) (ho : PE X o (rd G E ma)) (ha : PA X (a :: es) (rdA G E as)) (hst : starEach (a :: es) X.env = (false, eval a X.env) :: starEach es X.env := by rfl) (hpl : (backTo pos (starEach es X.env)).any (·.1) = false := by rfl)
    (ht : eval (.Call (.Attribute o m' apos) (a :: es) [] pos) X.env = (do
      let ov ← eval o X.env
      standAt apos.atName
      let (f, first) ← holding [ov] (getMethod ov m' pl)
      callWith pos f first (backTo pos (starEach (a :: es) X.env)) (backToKw pos (keywordEach [] X.env))) := by rfl) : PE X (.Call (.Attribute o m' apos) (a :: es) [] pos) (rd G E (eMeth ma m ms as aNil)) := by
  subst hf
  refine ⟨fun pins s σ H Q I ⟨ρ, env, h, hs, hr, w⟩ => ?_⟩
  have A0 := ho.run pins s σ H (fun v H1 => ∃ ρ1 h1 x, SRel G ρ1 H1 σ env ∧ HRel G ρ1 H1 h1 ∧ VRel G ρ1 H1 v x ∧ Wp G (atW E σ) (VRel G) (match selM m' ms h1 x with | some f => (as env h1).bind fun ds h2 => (aNil env h2).bind fun es h3 => f (x :: ds) es h3 | none => .bad) ρ1 H1 Q) I
    ⟨ρ, env, h, hs, hr, Wp.seq w fun x h1 ρ1 H1 v g1 r1 q1 w1 => ⟨ρ1, h1, x, hs.grow g1, r1, q1, w1⟩⟩
  refine PySem.W.methodCall_KW (pl := pl) (thn A0 fun u s1 ⟨v, H1, I1, rx, ρ1, h1, x, s1', r1, q1, w1⟩ => ?_) ht
  split at w1 <;> first | exact False.elim w1 | skip
  rename_i F' e3
  obtain ⟨a', dx, c, fvs, f, rfl, e2, e4, k1, k2, k3⟩ := meth_at hM r1 q1 e3
  obtain rfl : u = Value.ref a' := rx
  refine getmeth_ok I1 e2 k1 k2 e4 ?_
  have A1 := ha.run pos pins s1 σ H1 (fun vs H2 => ∃ ρ2 h2 ds, HRel G ρ2 H2 h2 ∧ VRels G ρ2 H2 (.ref a' :: vs) (x :: ds) ∧ Wp G (atW E σ) (VRel G) (F' (x :: ds) [] h2) ρ2 H2 Q) I1
    ⟨ρ1, env, h1, s1', r1, Wp.seq w1 fun ds h2 ρ2 H2 vs g2 r2 q2 w3 => ⟨ρ2, h2, ds, r2, .cons (q1.grow g2) q2, w3⟩⟩
  refine PySem.W.callWith_K (first := [.ref a']) (h₀ := X.base) I.ok.mod.kin k2.kp (thn A1 fun us s2 ⟨vs, H2, I2, rv, ρ2, h2, ds, r2, q2, w3⟩ => ⟨I2.kIn, ?_⟩) hst hpl
  exact k3 pins s2 σ H2 (.ref a' :: us) [] (.ref a' :: vs) [] ρ2 h2 _ [] Q I2 (.cons rfl rv) .nil r2 q2 .nil w3
theorem me_meth0 {pl : Sem Bool} (hf : m' = m) (hM : MethsF X G E m [] ms) (ho : PE X o (rd G E ma))
    (ht : eval (.Call (.Attribute o m' apos) [] [] pos) X.env = (do
      let ov ← eval o X.env
      standAt apos.atName
      let (f, first) ← holding [ov] (getMethod ov m' pl)
      callWith pos f first (backTo pos (starEach [] X.env)) (backToKw pos (keywordEach [] X.env))) := by rfl) : PE X (.Call (.Attribute o m' apos) [] [] pos) (rd G E (eMeth ma m ms aNil aNil)) := by
  subst hf
  refine ⟨fun pins s σ H Q I ⟨ρ, env, h, hs, hr, w⟩ => ?_⟩
  have A0 := ho.run pins s σ H (fun v H1 => ∃ ρ1 h1 x, HRel G ρ1 H1 h1 ∧ VRel G ρ1 H1 v x ∧ Wp G (atW E σ) (VRel G) (match selM m' ms h1 x with | some f => f [x] [] h1 | none => .bad) ρ1 H1 Q) I
    ⟨ρ, env, h, hs, hr, Wp.seq w fun x h1 ρ1 H1 v g1 r1 q1 w1 => ⟨ρ1, h1, x, r1, q1, w1⟩⟩
  refine PySem.W.methodCall_KW (pl := pl) (thn A0 fun u s1 ⟨v, H1, I1, rx, ρ1, h1, x, r1, q1, w1⟩ => ?_) ht
  split at w1 <;> first | exact False.elim w1 | skip
  rename_i F' e3
  obtain ⟨a', dx, c, fvs, f, rfl, e2, e4, k1, k2, k3⟩ := meth_at hM r1 q1 e3
  obtain rfl : u = Value.ref a' := rx
  refine getmeth_ok I1 e2 k1 k2 e4 ?_
  exact PySem.W.callWith_K0 (first := [.ref a']) I1.kIn k2.kp (k3 pins s1 σ H1 [.ref a'] [] [.ref a'] [] ρ1 h1 [x] [] Q I1 (.cons rfl .nil) .nil r1 (.cons q1 .nil) .nil w1)
theorem me_methK0 {pl : Sem Bool} (hf : m' = m) (hM : MethsF X G E m kn ms) (ho : PE X o (rd G E ma)) (hkw : PK X kws (rdA G E ks)) (hall : (backToKw pos (keywordEach kws X.env)).all (·.1.isSome) = true := by rfl)
    (hks : (backToKw pos (keywordEach kws X.env)).filterMap (·.1) = kn := by rfl) (hpl : ((backTo pos (starEach [] X.env)).any (·.1) || (backToKw pos (keywordEach kws X.env)).any (·.1.isNone)) = false := by rfl)
    (ht : eval (.Call (.Attribute o m' apos) [] kws pos) X.env = (do
      let ov ← eval o X.env
      standAt apos.atName
      let (f, first) ← holding [ov] (getMethod ov m' pl)
      callWith pos f first (backTo pos (starEach [] X.env)) (backToKw pos (keywordEach kws X.env))) := by rfl) : PE X (.Call (.Attribute o m' apos) [] kws pos) (rd G E (eMeth ma m ms aNil ks)) := by
  subst hf
  refine ⟨fun pins s σ H Q I ⟨ρ, env, h, hs, hr, w⟩ => ?_⟩
  have A0 := ho.run pins s σ H (fun v H1 => ∃ ρ1 h1 x, SRel G ρ1 H1 σ env ∧ HRel G ρ1 H1 h1 ∧ VRel G ρ1 H1 v x ∧ Wp G (atW E σ) (VRel G) (match selM m' ms h1 x with | some f => (ks env h1).bind fun es h3 => f [x] es h3 | none => .bad) ρ1 H1 Q) I
    ⟨ρ, env, h, hs, hr, Wp.seq w fun x h1 ρ1 H1 v g1 r1 q1 w1 => ⟨ρ1, h1, x, hs.grow g1, r1, q1, w1⟩⟩
  refine PySem.W.methodCall_KW (pl := pl) (thn A0 fun u s1 ⟨v, H1, I1, rx, ρ1, h1, x, s1', r1, q1, w1⟩ => ?_) ht
  split at w1 <;> first | exact False.elim w1 | skip
  rename_i F' e3
  obtain ⟨a', dx, c, fvs, f, rfl, e2, e4, k1, k2, k3⟩ := meth_at hM r1 q1 e3
  obtain rfl : u = Value.ref a' := rx
  refine getmeth_ok I1 e2 k1 k2 e4 ?_
  have A2 := hkw.run pos pins s1 σ H1 _ I1 (aft2k (f := F') (ds := [x]) (vs := [.ref a']) s1' r1 (.cons q1 .nil) w1)
  refine PySem.W.callWith_KW0 (first := [.ref a']) (h₀ := X.base) I.ok.mod.kin k2.kp hall (thn A2 fun ws s2 ⟨zs, H2, I2, rz, ρ2, h2, es', r2, q2, q3, w3⟩ => ⟨I2.kIn, ?_⟩) hpl
  rw [hks]
  exact k3 pins s2 σ H2 [.ref a'] ws [.ref a'] zs ρ2 h2 _ es' Q I2 (.cons rfl .nil) rz r2 q2 q3 w3
end
end Mo
end
section
namespace Mo
open PySem L2 PyProof.Rows
theorem int_len {i : Int} (h : i.natAbs < 2 ^ 140) : (PyData.shown (.int i)).length ≤ 150 := by
  have e : PyData.shown (.int i) = Str.ofString (toString i) := rfl
  rw [e, PySem.ofString_length]
  cases i with
  | ofNat n =>
    have h1 : (Nat.repr n).length ≤ 140 := nat_repr_length_le (by decide) h
    have h2 : (toString (Int.ofNat n)).length = (Nat.repr n).length := rfl
    omega
  | negSucc n =>
    have h1 : (Nat.repr (n + 1)).length ≤ 140 := nat_repr_length_le (by decide) h
    have h2 : (toString (Int.negSucc n)) = "-" ++ Nat.repr (n + 1) := rfl
    rw [h2, String.length_append]
    have h3 : ("-" : String).length = 1 := rfl
    omega
mutual
theorem tame_short : ∀ (p : PyData), tame p = true → p.leavesShort 150 = true ∧ p.showable = true
  | .none, _ => ⟨by simp only [PyData.leavesShort], by simp only [PyData.showable]⟩
  | .bool b, _ => ⟨by simp only [PyData.leavesShort], by simp only [PyData.showable]⟩
  | .int i, h => by
    simp only [tame, decide_eq_true_eq] at h
    refine ⟨?_, ?_⟩
    · simp only [PyData.leavesShort, decide_eq_true_eq]
      exact int_len h
    · simp only [PyData.showable, decide_eq_true_eq]
      have h2 : i.natAbs.log2 ≤ 140 := by
        by_cases z : i.natAbs = 0
        · rw [z]
          decide
        · exact Nat.le_of_lt ((Nat.log2_lt z).mpr h)
      omega
  | .str x, h => by
    simp only [tame] at h
    refine ⟨?_, by simp only [PyData.showable]⟩
    simp only [PyData.leavesShort]
    rw [List.all_eq_true]
    intro c hc
    unfold PyData.strOk at h
    rw [Array.all_eq_true_iff_forall_mem] at h
    have h3 := h c (by simpa using hc)
    simp only [decide_eq_true_eq] at h3 ⊢
    omega
  | .list xs, h => by
    simp only [tame] at h
    obtain ⟨a, b⟩ := tame_shorts xs h
    exact ⟨by simp only [PyData.leavesShort]; exact a, by simp only [PyData.showable]; exact b⟩
  | .tuple xs, h => by
    simp only [tame] at h
    obtain ⟨a, b⟩ := tame_shorts xs h
    exact ⟨by simp only [PyData.leavesShort]; exact a, by simp only [PyData.showable]; exact b⟩
  | .dict _, h => by
    simp only [tame] at h
    cases h
theorem tame_shorts : ∀ (ps : List PyData), tameL ps = true → PyData.leavesShortAll 150 ps = true ∧ PyData.showableAll ps = true
  | [], _ => ⟨by simp only [PyData.leavesShortAll], by simp only [PyData.showableAll]⟩
  | p :: ps, h => by
    simp only [tameL, Bool.and_eq_true] at h
    obtain ⟨a, b⟩ := tame_short p h.1
    obtain ⟨c, d⟩ := tame_shorts ps h.2
    exact ⟨by simp only [PyData.leavesShortAll, a, c, Bool.and_self], by simp only [PyData.showableAll, b, d, Bool.and_self]⟩
end
theorem fits_ok {p : PyData} (h : fits p = true) : p.showable = true ∧ p.shown.length ≤ sizeLine := by
  unfold fits at h
  simp only [Bool.and_eq_true, decide_eq_true_eq] at h
  obtain ⟨a, b⟩ := tame_short p h.1
  have c := PyData.shown_le_bulk 150 (by decide) p a
  refine ⟨b, Nat.le_trans c ?_⟩
  have d := h.2
  unfold sizeLine
  omega
def rRepr (K : PySem.W.Frag) : List V → Hp → VK → Prop := fun xs H Q => ∃ x d, xs = [x] ∧ Dp K H x d ∧ d.showable = true ∧ d.shown.length ≤ sizeLine ∧ d.hasDict = false ∧ d.depth ≤ 64 ∧ Q (.str d.shown) H
theorem cl_repr {X : Cx} {k : Nat} (rg : RG k X.A) : CallR X (.builtin "repr") (rRepr X.K) := by
  intro pins s σ H xs us Q I r h
  obtain ⟨x, d, rfl, hd, h1, h2, h3, h4, q⟩ := h
  obtain ⟨u, rfl, ru⟩ := vals1 r
  have hu := rg.r.un
  have fin : ∀ (h' : Heap) (t : Tok) (tk : Nat), (∀ b o, s.heap.get? b = some o → h'.get? b = some o) → EP X pins σ Q (.str d.shown t) { s with heap := h', toks := tk } := fun h' t tk hk => ⟨.str d.shown, H, I.kept (t' := tk) hk, ⟨t, rfl⟩, q⟩
  cases hd with
  | non =>
    cases (show u = Value.none from ru)
    exact PySem.P.repr_of_none (fin s.heap _ _ fun _ _ e => e)
  | bl b =>
    cases (show u = Value.bool b from ru)
    exact PySem.P.repr_of_bool (fin s.heap _ _ fun _ _ e => e)
  | int i =>
    obtain ⟨t, rfl⟩ := ru
    simp only [PyData.showable, decide_eq_true_eq] at h1
    exact PySem.P.repr_of_int h1 (fin s.heap _ _ fun _ _ e => e)
  | str z =>
    obtain ⟨t, rfl⟩ := ru
    exact PySem.P.repr_of_str (fin s.heap _ _ fun _ _ e => e) h2
  | @lst a xs ds k1 k2 =>
    cases (show u = Value.ref a from ru)
    obtain ⟨as, rr⟩ := Dp.reads I _ _ _ (.lst k1 k2) rfl
    exact repr_of_reads' (h₀ := s.heap) rr h1 (PyData.noDict_hsm h3) rg.g (by omega) (fun _ _ e => e) (fun h' t tk hk => fin h' t tk hk) h2
  | @tup a xs ds k1 k2 =>
    cases (show u = Value.ref a from ru)
    obtain ⟨as, rr⟩ := Dp.reads I _ _ _ (.tup k1 k2) rfl
    exact repr_of_reads' (h₀ := s.heap) rr h1 (PyData.noDict_hsm h3) rg.g (by omega) (fun _ _ e => e) (fun h' t tk hk => fin h' t tk hk) h2
section
variable {G : Gm} {E : WM}
theorem bs_repr : BiS G E (rRepr G.K) bRepr := by
  intro τ ρ H h ds vs Q r q w
  unfold bRepr at w
  split at w
  · obtain ⟨v, rfl, k⟩ := vs1 q
    split at w
    · rename_i p e
      obtain ⟨c, w⟩ := Wp.ifR w
      obtain ⟨a, b⟩ := fits_ok c
      obtain ⟨c1, c2⟩ := dat_sh _ _ _ e
      exact ⟨v, p, rfl, dat_dp r _ _ _ _ e k, a, b, PyData.hasDict_of_canLay _ c1, Nat.le_trans c2 (by decide), w.val r (.str _)⟩
    · exact False.elim w
  · exact False.elim w
theorem kit_all : ∀ T ∈ ["int", "bool", "str", "list", "tuple", "dict"], ∀ t ∈ ["NoneType", "bool", "int", "str", "tuple", "list", "dict"], kitB t T = some (t == T || (t == "bool" && T == "int")) := by decide +kernel
theorem tyD_x {ρ : List Addr} {H : Hp} {h : Hm} {x : D} {v : V} {t : String} (r : HRel G ρ H h) (q : VRel G ρ H v x) (e : tyD h x = some t) : TyX G.K H v (.type t) ∧ t ∈ ["NoneType", "bool", "int", "str", "tuple", "list", "dict"] := by
  cases q with
  | non => cases (show some _ = some t from e); exact ⟨.base .non, by decide⟩
  | bl b => cases (show some _ = some t from e); exact ⟨.base (.bl b), by decide⟩
  | int i => cases (show some _ = some t from e); exact ⟨.base (.int i), by decide⟩
  | str z => cases (show some _ = some t from e); exact ⟨.base (.str z), by decide⟩
  | kl h1 h2 =>
    cases (show some _ = some t from e)
    rcases h1 with ⟨o, h1⟩ | ⟨its, n, e1, _⟩
    · exact ⟨.base (.frz h1), by decide⟩
    · exact ⟨.kList e1 rfl, by decide⟩
  | tup h1 h2 =>
    cases (show some _ = some t from e)
    rcases h1 with (h1 | ⟨o, h1⟩) | ⟨o, its, n, e1, e2, _⟩
    · exact ⟨.base (.tup h1), by decide⟩
    · exact ⟨.fTuple h1, by decide⟩
    · exact ⟨.kTuple e1 e2, by decide⟩
  | @loc a l ha =>
    simp only [tyD] at e
    split at e
    · rename_i e1
      cases e
      obtain ⟨vs, e2, k⟩ := r.at e1 ha
      exact ⟨.base (.lst e2), by decide⟩
    · rename_i e1
      cases e
      obtain ⟨vs, e2, k⟩ := r.at e1 ha
      exact ⟨.base (.dK e2), by decide⟩
    · cases e
  | ty n => cases e
  | ob k => cases e
theorem bs_isi {T : String} (hT : T ∈ ["int", "bool", "str", "list", "tuple", "dict"]) : BiS G E (rIsi G.K) (bIsi T) := by
  intro τ ρ H h ds vs Q r q w
  unfold bIsi at w
  split at w
  · obtain ⟨v, u, rfl, k1, k2⟩ := vs2 q
    cases k2
    split at w
    · rename_i t e c
      have c := of_decide_eq_true c
      subst c
      obtain ⟨ty, ht⟩ := tyD_x r k1 e
      exact ⟨v, _, _, _, _, rfl, .ty _, ty, kit_ty (kit_all _ hT _ ht), w.val r (.bl _)⟩
    · exact False.elim w
  · exact False.elim w
theorem me_ty {X : Cx} {x : Str} {T : String} {pos : Pos} (hg : Gl X x) (hm : X.mg x = none) (hv : bootBuiltins x = some (.type T)) (hn : x ≠ "__name__" := by decide) (hd : (x == ("__debug__" : Str)) = false := by decide) : PE X (.Name x pos) (rd G E (eC (.ty T))) :=
  pe_w (pe_bltn (v := .ty T) hg hm hv rfl hn hd) (rd_c fun _ _ => .ty T)
end
theorem law_go {P : Program} {w : World} {K : PySem.W.Frag} {mg mb : Str → Option Value} {G : Gm} {F : Fn} {k : Nat} {fa a : Addr} {fd : FuncData} {x : Str} {s : Shared} {its : List Value} {ns : List Int} {cs : List (Addr × Addr)} (hG : G.K = K) (hrt : G.rt = []) (hTT : ∀ p ∈ G.T, p.1 ∈ cs.map (·.2))
    (inK : K.In s.heap) (hns : s.heap.Ns mainGlobals mg) (hbn : s.heap.Ns builtinsNs mb) (hbb : ∀ x : Str, x ≠ "__name__" → mb x = bootBuiltins x) (lim : s.heap.NoLimit) (gens : s.gens = #[])
    {o1 : Obj} (sysE : s.heap.get? sysModules = some o1) (sysC : o1.cls = .type "dict") (sysN : K.lookup sysModules = none) (sysT : ∀ p ∈ cs, p.1 ≠ sysModules ∧ p.2 ≠ sysModules)
    (tabE : ∀ p ∈ cs, s.heap.get? p.2 = some { cls := .none, data := .fields #[] }) (tabN : ∀ p ∈ cs, K.lookup p.2 = none) (tabC : ∀ p ∈ cs, PySem.W.CodeHd s.heap p.1 p.2)
    (bmain : ∃ (bm : Addr) (ob : Obj), mg "__builtins__" = some (.ref bm) ∧ bm ≠ builtinsNs ∧ s.heap.get? bm = some ob ∧ ob.cls = .type "module" ∧ ob.dict = some builtinsNs ∧ ob.data = .plain)
    (ha : s.heap.get? a = some { cls := .type "list", data := .seq its.toArray }) (hi : IntsAre its ns) (hl : ns.length ≤ sizeLine) (rg : RG k callerA)
    (FG : ∀ base : Heap, K.In base → base.Ns mainGlobals mg → (∀ p ∈ cs, LamX.TabB base mg p.1 p.2) → FnG P w K mg base k fa fd [x] (spOf G 1 F)) (bnd : ∀ (s : Shared) (u : Value), BindsTo s fd ⟨[u], []⟩ [(x, u)])
    (hT : ∃ h', F [.kl (ns.map .int)] Hm.start = .ok (.bl true) h') :
    codeAny (model P w) callerA (.call (.ref fa) ⟨[.ref a], []⟩) (fun r s' => r = .ok (.ret (.bool true)) ∧ OldK s.heap s'.heap ∧ s'.os = s.os ∧ AllBare s'.gens) s := by
  have rv : Vals (ns.map V.int) its := vals_ints hi
  have len := hi.length
  have relI : ∀ (ρ : List Addr) (H : Hp) (l : List Int), VRels G ρ H (l.map V.int) (l.map D.int) := fun ρ H l => by
    induction l with
    | nil => exact .nil
    | cons n l ih => exact .cons (.int n) ih
  have tabAt : ∀ b, b ∈ cs.map (·.2) → s.heap.get? b = some { cls := .none, data := .fields #[] } := fun b hb => by
    obtain ⟨p, hp, rfl⟩ := List.mem_map.mp hb
    exact tabE p hp
  have aN : a ∉ cs.map (·.2) := fun hz => by
    have z := tabAt a hz
    rw [ha] at z
    have z2 := congrArg Obj.data (Option.some.inj z)
    cases z2
  -- the script: known to its object, or the module's own; the tables are empty
  have main : ∀ H : Hp, SqK K H a (ns.map V.int) → HOk P w H s.heap → (∀ b u, H b = some u → (b = a ∧ K.lookup a = none ∧ ∃ o xs, u = .frz o (.lst xs)) ∨ (b ∈ cs.map (·.2) ∧ u = .tbl #[]) ∨ (b = sysModules ∧ u = fix1 o1)) → (∀ b ∈ cs.map (·.2), H b = some (.tbl #[])) → H sysModules = some (fix1 o1) →
      codeAny (model P w) callerA (.call (.ref fa) ⟨[.ref a], []⟩) (fun r s' => r = .ok (.ret (.bool true)) ∧ OldK s.heap s'.heap ∧ s'.os = s.os ∧ AllBare s'.gens) s := by
    intro H hS hok only isT isS
    have out : ∀ {b : Addr} {o : Obj}, s.heap.get? b = some o → b ≠ sysModules → (∀ vs n, o.data ≠ .seq vs n) → o.data ≠ .fields #[] → H b = none := fun {b o} e ns d1 d2 => by
      cases q : H b with
      | none => rfl
      | some u =>
        rcases only b u q with ⟨e1, _⟩ | ⟨e1, _⟩ | ⟨e1, _⟩
        · subst e1
          rw [ha] at e
          cases e
          exact absurd rfl (d1 _ _)
        · rw [tabAt b e1] at e
          cases e
          exact absurd rfl d2
        · exact absurd e1 ns
    have free : ∀ {b : Addr} {m : Str → Option Value}, s.heap.Ns b m → b ≠ sysModules → (hidT s.heap H).Ns b m := fun {b m} n nb => by
      obtain ⟨o, es, ep, e, d, r⟩ := n
      exact ⟨o, es, ep, hidT_get e (out e nb (fun vs n z => by rw [d] at z; cases z) fun z => by rw [d] at z; cases z), d, r⟩
    have inB : K.In (hidT s.heap H) := fun b o e => hidT_get (inK b o e) (by
      cases q : H b with
      | none => rfl
      | some u =>
        rcases only b u q with ⟨e1, e2, _⟩ | ⟨e1, _⟩ | ⟨e1, _⟩
        · rw [e1, e2] at e
          cases e
        · obtain ⟨p, hp, ep⟩ := List.mem_map.mp e1
          have z := tabN p hp
          rw [show p.2 = b from ep, e] at z
          cases z
        · rw [e1, sysN] at e
          cases e)
    have md : Mod K mg (hidT s.heap H) := by
      obtain ⟨mc, z1, z2⟩ := lim
      exact ⟨inB, free hns (by decide), ⟨mb, free hbn (by decide), hbb⟩, ⟨mc, free z1 (by decide), z2⟩⟩
    have tabB : ∀ p ∈ cs, LamX.TabB (hidT s.heap H) mg p.1 p.2 := fun p hp => by
      have tp := tabE p hp
      constructor
      · obtain ⟨oc, us, file, tf, flags, tg, inF, text, tt, c1, cc, c2, c3, c4⟩ := tabC p hp
        refine ⟨oc, us, file, tf, flags, tg, inF, text, tt, hidT_get c1 (out c1 (sysT p hp).1 (fun vs n z => ?_) fun z => ?_), cc, c2, c3, c4⟩
        · have c2' := c2
          rw [z] at c2'
          cases c2'
        · rw [z] at c2
          cases c2
          simp at c3
      · obtain ⟨bm, ob, m1, m2, m3, m4, m5, m6⟩ := bmain
        refine ⟨bm, ob, m1, m2, fun z => ?_, fun z => ?_, hidT_get m3 (out m3 (fun z => by rw [z, sysE] at m3; cases m3; rw [sysC] at m4; injection m4 with y; exact absurd y (by decide)) (fun vs n z => by rw [m6] at z; cases z) fun z => by rw [m6] at z; cases z), m4, m5, m6⟩
        · obtain ⟨og, es, ep, e, d, _⟩ := hns
          rw [← z, m3] at e
          cases e
          rw [m6] at d
          cases d
        · rw [z, tp] at m3
          cases m3
          cases m6
      · intro z
        obtain ⟨og, es, ep, e, d, _⟩ := hns
        rw [z, tp] at e
        cases e
        cases d
    have e0 : Env0 P w K mg (hidT s.heap H) callerA [] s H := ⟨rfl, md, fun b o e => of_hidT e, Nat.le_of_eq (hidT_size _ _), trivial, (fun b hb => absurd (show b ∈ ([] : List Addr) from hb) (by simp)), hok, .of_eq gens⟩
    obtain ⟨h', eF⟩ := hT
    have sp : spOf G 1 F [.ref a] H (fun v _ => v = .bl true) E0 := by
      refine ⟨[], [.kl (ns.map .int)], Hm.start, ⟨rfl, (fun i j a e => by simp at e), (fun a m => by simp at m), (fun l o e => nomatch e), ⟨fun p hp => ⟨#[], isT p.1 (hTT p hp), True.intro, fun pos cv e => ?_⟩, o1, isS⟩, fun p hp => ?_⟩, .cons (.kl (by rw [hG]; exact hS) (relI _ _ ns)) .nil, rfl, ?_⟩
      · have e : codeAmong pos [] = some cv := e
        simp [codeAmong] at e
      · rw [hrt] at hp
        cases hp
      · rw [eF]
        intro ρ' H' v g r q
        cases q
        rfl
    refine codeAny_mono ((FG _ inB (free hns (by decide)) tabB).go callerA rg [] s H ⟨[.ref a], []⟩ [.ref a] [.ref a] _ E0 e0 (bnd s (.ref a)) (.cons rfl .nil) sp) fun r s' h => ?_
    cases r with
    | error e =>
      obtain ⟨_, _, _, _, _, _, _, _, _, _, _, _, z⟩ := h
      exact z.elim
    | ok fl =>
      cases fl with
      | ret u =>
        obtain ⟨v, H', os, bare, un, hok', r', q⟩ := h
        cases (show v = .bl true from q)
        cases (show u = Value.bool true from r')
        have stays : ∀ b o, b ∉ cs.map (·.2) → s.heap.get? b = some o → s'.heap.get? b = some o := fun b o nb e => by
          cases q : H b with
          | none => exact un.keep b o e q (by intro z; exact absurd (show b ∈ ([] : List Addr) from z) (by simp)) (by simp)
          | some u =>
            rcases only b u q with ⟨_, _, ob, xs, rfl⟩ | ⟨z, _⟩ | ⟨_, rfl⟩
            · obtain ⟨e1, _⟩ := hok b _ q
              obtain ⟨e2, _⟩ := hok' b _ (un.frzs b ob _ q)
              rw [e] at e1
              cases e1
              exact e2
            · exact absurd z nb
            · obtain ⟨e1, _⟩ := hok b _ q
              obtain ⟨e2, _⟩ := hok' b _ (un.frzs b o1 _ q)
              rw [e] at e1
              cases e1
              exact e2
        have more : ∀ b ∈ cs.map (·.2), ∃ ms : Array Value, s'.heap.get? b = some { cls := .none, data := .fields ms } := fun b hb => by
          obtain ⟨ms, z⟩ := un.tbls b #[] (isT b hb)
          exact ⟨_, hok' b _ z⟩
        refine ⟨rfl, ⟨fun b o e => ?_, fun b o e => ?_⟩, os, bare⟩
        · by_cases hb : b ∈ cs.map (·.2)
          · obtain ⟨ms, hm⟩ := more b hb
            obtain ⟨p, hp, rfl⟩ := List.mem_map.mp hb
            rw [tabE p hp] at e
            cases e
            exact .inr (.inl ⟨((tabC p hp).tab (tabE p hp)).isCodeTable, rfl, #[], ms, rfl, by rw [Array.empty_append]; exact hm⟩)
          · exact .inl (stays b o hb e)
        · by_cases hb : b ∈ cs.map (·.2)
          · obtain ⟨ms, hm⟩ := more b hb
            exact ⟨_, hm⟩
          · exact ⟨o, stays b o hb e⟩
      | _ => exact (show False from h).elim
  let H0 : Hp := fun b => if b ∈ cs.map (·.2) then some (.tbl #[]) else if b = sysModules then some (fix1 o1) else none
  have nS : sysModules ∉ cs.map (·.2) := fun z => by
    obtain ⟨p, hp, e⟩ := List.mem_map.mp z
    exact (sysT p hp).2 e
  have aS : a ≠ sysModules := fun z => by
    rw [z, sysE] at ha
    cases ha
    injection sysC with y
    exact absurd y (by decide)
  have h0S : H0 sysModules = some (fix1 o1) := (if_neg nS).trans (if_pos rfl)
  have t0 : ∀ b u, H0 b = some u → (b ∈ cs.map (·.2) ∧ u = .tbl #[]) ∨ (b = sysModules ∧ u = fix1 o1) := fun b u z => by
    by_cases c : b ∈ cs.map (·.2)
    · have z2 := (if_pos c).symm.trans z
      cases z2
      exact .inl ⟨c, rfl⟩
    · by_cases c2 : b = sysModules
      · subst c2
        rw [h0S] at z
        cases z
        exact .inr ⟨rfl, rfl⟩
      · have z2 := (if_neg c).symm.trans z
        exact absurd ((if_neg c2).symm.trans z2) (fun q => nomatch q)
  have ok0 : ∀ H' b u, H0 b = some u → ObjOk P w H' s.heap b u := fun H' b u z => by
    rcases t0 b u z with ⟨c, rfl⟩ | ⟨rfl, rfl⟩
    · exact tabAt b c
    · exact ⟨sysE, o1, sysE⟩
  cases hk : K.lookup a with
  | some o =>
    have e := inK a o hk
    rw [ha] at e
    cases e
    exact main H0 (.inr ⟨its.toArray, _, hk, by rw [List.size_toArray, len]; exact hl, by simpa using rv⟩) (ok0 _) (fun b u z => .inr (t0 b u z)) (fun b hb => if_pos hb) h0S
  | none =>
    have h0a : H0 a = none := (if_neg aN).trans (if_neg aS)
    refine main (upd H0 a (.frz { cls := .type "list", data := .seq its.toArray } (.lst (ns.map V.int)))) (.inl ⟨_, upd_same⟩) (fun b u z => ?_) (fun b u z => ?_) (fun b hb => ?_) (by rw [upd_ne (Ne.symm aS)]; exact h0S)
    · by_cases c : b = a
      · subst c
        rw [upd_same] at z
        cases z
        exact ⟨ha, by rw [List.length_map]; exact hl, its, _, rv, ha⟩
      · rw [upd_ne c] at z
        exact ok0 _ b u z
    · by_cases c : b = a
      · subst c
        rw [upd_same] at z
        cases z
        exact .inl ⟨rfl, hk, _, _, rfl⟩
      · rw [upd_ne c] at z
        exact .inr (t0 b u z)
    · rw [upd_ne (fun z => aN (by rw [← z]; exact hb))]
      exact if_pos hb
end Mo
end
section
namespace Mo
open PySem L2 PyProof.Rows He
section
variable {G : Gm} {E : WM} {X : Cx} {o : Expr} {mb : ME}
theorem mg_fld {f f' : Str} {cs : List Nat} {pos : Pos} (hK : X.K = G.K) (hC : ∀ c, cs.contains c = true → Cls G.K (G.cA c) ∧ NoAttr G.K (G.cA c) f) (hf : f' = f) (ho : PE X o (rd G E mb)) : PG X (.Attribute o f' pos) (rdG G E (gFld mb cs f)) := by
  subst hf
  refine ⟨fun pins s σ H v u Q I rv ⟨ρ, env, h, d, hs, hr, q, w⟩ => ?_⟩
  have A0 := ho.run pins s σ H (fun vo H1 => ∃ ρ1 h1 x, Grow ρ H ρ1 H1 ∧ HRel G ρ1 H1 h1 ∧ VRel G ρ1 H1 vo x ∧ Wp G (atW E σ) (SRel G) (fldK cs f' d env x h1) ρ1 H1 Q) I
    ⟨ρ, env, h, hs, hr, Wp.seq (Wp.any (E' := atW E σ) w) fun x h1 ρ1 H1 vo g1 r1 q1 w1 => ⟨ρ1, h1, x, g1, r1, q1, w1⟩⟩
  suffices A1 : wpAny (model X.prog X.w) X.A (eval o X.env) (fun ov s2 => wpAny (model X.prog X.w) X.A (setAttr ov f' u) (fun _ s' => ∃ σ' H', Inv X pins σ' H' s' ∧ Q σ' H') X.xe s2) X.xe s by
    refine fun Γ p hΓ => ?_
    simp only [assign_Attribute, Sem.wp_bind', Sem.wp_holding, Sem.wp_cmd_standAt, Sem.wp_release, Sem.wp_pure']
    exact Sem.wp_mono _ Γ _ (fun ov _ s2 h2 => h2 Γ _ hΓ) (fun _ _ _ h' => h') _ _ (A1 Γ _ hΓ)
  refine thn A0 fun ov s1 ⟨vo, H1, I1, ro, ρ1, h1, x, g1, r1, q1, w1⟩ => ?_
  cases q1 with
  | @loc p l hl =>
    obtain rfl : ov = Value.ref p := ro
    unfold fldK at w1
    simp only at w1
    split at w1 <;> first | exact False.elim w1 | skip
    rename_i c fs e
    obtain ⟨k, w1⟩ := Wp.ifR w1
    obtain ⟨k1, k2⟩ := (Bool.and_eq_true_iff.mp k : cs.contains c = true ∧ decide (fs.length < 1000) = true)
    obtain ⟨dx, fvs, e3, n⟩ := r1.at e hl
    obtain ⟨c1, c2⟩ := hC c k1
    have g := Grow.put r1 hl e3 trivial (.ins (G.cA c) dx (L2.putF f' v fvs))
    exact setattr_ok I1 e3 (by rw [hK]; exact c1) (by rw [hK]; exact c2) (by rw [n.length]; exact of_decide_eq_true k2) rv fun s' I' => ⟨_, _, I', w1 _ _ _ g (r1.put hl e3 trivial ⟨dx, _, upd_same, (putF_rel (q.grow g1) n).grow g⟩) ((hs.grow g1).grow g)⟩
  | _ => exact False.elim w1
end
theorem hC_nil {K : PySem.W.Frag} {cA : Nat → Addr} {f : Str} : ∀ c, ([] : List Nat).contains c = true → Cls K (cA c) ∧ NoAttr K (cA c) f := fun c z => nomatch z
theorem hC_cons {K : PySem.W.Frag} {cA : Nat → Addr} {f : Str} {c0 : Nat} {cs : List Nat} (h1 : Cls K (cA c0)) (h2 : NoAttr K (cA c0) f) (hr : ∀ c, cs.contains c = true → Cls K (cA c) ∧ NoAttr K (cA c) f) : ∀ c, (c0 :: cs).contains c = true → Cls K (cA c) ∧ NoAttr K (cA c) f := fun c z => by
  rw [List.contains_cons, Bool.or_eq_true] at z
  rcases z with z | z
  · rw [beq_iff_eq.mp z]
    exact ⟨h1, h2⟩
  · exact hr c z
theorem hx_of {P : Program} {w : World} {K : PySem.W.Frag} {mg : Str → Option Value} {base : Heap} {N : List Str} {qual : Str} {scope : Scope} {f : Addr} {cdv : Value} {A : Around} {outer : List PySem.Env} {s : Shared} {H : Hp} {E : XK} :
    PassW (cxOf (L2.CX P w) P w K mg base N qual scope f cdv A outer s H E) (fun cls d _ H => E cls d H) := fun pins σ H s e s' I c => passes_call (E := E) (takes_of rfl rfl rfl rfl) (fun _ _ _ _ z => z) pins σ H s e s' I c
theorem passEW {X : Cx} : PassW X EW := fun pins σ H s e s' I c => passL pins σ H s e s' I c
theorem passW {X : Cx} {W : WM} (tk : Takes X W) : PassW X W := fun pins σ H s e s' I c => tk e s' (XE.of_call I (fun cls d H' h => h) c)
theorem hp_of {P : Program} {w : World} {K : PySem.W.Frag} {mg : Str → Option Value} {base : Heap} {N : List Str} {qual : Str} {scope : Scope} {f : Addr} {cdv : Value} {A : Around} {outer : List PySem.Env} {s : Shared} {H : Hp} {E : XK} :
    PassesOwn (model P w) (A.deeper (envOfC qual scope s.heap.objs.size f cdv)) (cxOf (L2.CX P w) P w K mg base N qual scope f cdv A outer s H E).env (cxOf (L2.CX P w) P w K mg base N qual scope f cdv A outer s H E).xe := passes_of rfl
structure TbL (tq : TqL) (K : PySem.W.Frag) (mg : Str → Option Value) (base : Heap) : Prop where
  tb : ∀ p ∈ tq, LamX.TabB base mg (cT K p.1).1 (cT K p.1).2
  nd : (tq.map fun p => (cT K p.1).2).Nodup
abbrev tabT (tq : TqL) (K : PySem.W.Frag) : List (Addr × Str) := tq.map fun p => ((cT K p.1).2, p.2)
theorem nodup_snd {α β γ : Type} {f : α → β} {g : α → γ} : ∀ {l : List α}, (l.map f).Nodup → ∀ {p q : α}, p ∈ l → q ∈ l → f p = f q → g p = g q
  | [], _, _, _, hp, _, _ => nomatch hp
  | a :: l, nd, p, q, hp, hq, e => by
    rw [List.map_cons, List.nodup_cons] at nd
    rcases List.mem_cons.mp hp with e1 | hp2
    · rcases List.mem_cons.mp hq with e2 | hq2
      · rw [e1, e2]
      · exact absurd (by rw [← e1, e]; exact List.mem_map_of_mem hq2) nd.1
    · rcases List.mem_cons.mp hq with e2 | hq2
      · exact absurd (by rw [← e2, ← e]; exact List.mem_map_of_mem hp2) nd.1
      · exact nodup_snd nd.2 hp2 hq2 e
theorem TbL.one {tq : TqL} {K : PySem.W.Frag} {mg : Str → Option Value} {base : Heap} (B : TbL tq K mg base) {p : Defn × Str} (hp : p ∈ tq) : ((cT K p.1).2, p.2) ∈ tabT tq K ∧ ∀ z ∈ tabT tq K, z.1 = (cT K p.1).2 → z.2 = p.2 :=
  ⟨List.mem_map_of_mem (f := fun p : Defn × Str => ((cT K p.1).2, p.2)) hp, fun z hz e => by
    obtain ⟨r, hr, rfl⟩ := List.mem_map.mp hz
    exact nodup_snd (g := fun p : Defn × Str => p.2) B.nd hr hp e⟩
section
variable {fa : List Fa} {fn : List DefD} {ex : PySem.W.Frag → Bool} {K : PySem.W.Frag} {mg : Str → Option Value}
theorem Tp.fd (T : Tp fa fn ex K mg) (i : Nat) {d : DefD} (h : fn[i]? = some d := by rfl) : ∃ fd, FunD K d.name d.qual d.params d.body d.scope (d.dvs K) (d.kws K) (fAd K d.at_) fd := T.c.d.def_ i h
theorem Tp.kp (T : Tp fa fn ex K mg) (i : Nat) {d : DefD} (h : fn[i]? = some d := by rfl) : PySem.W.keepIn K (.ref (fAd K d.at_)) = true := let ⟨_, F⟩ := T.fd i h; F.kp
end
section
variable {fa : List Fa} {fn : List DefD} {ex : PySem.W.Frag → Bool} {G : Gm} {E : WM} {X : Cx}
theorem me_gint (T : Tp fa fn ex X.K X.mg) (i : Nat) {x : Str} {n : Int} {pos : Pos} (hg : Gl X x) (h : fa[i]? = some (.int x n) := by rfl) (hd : (x == ("__debug__" : Str)) = false := by decide) : PE X (.Name x pos) (rd G E (eC (.int n))) :=
  let ⟨_, e⟩ := T.int i h; me_glob (v := .int n) hg e ⟨_, rfl⟩ (fun _ _ => .int n) hd
theorem me_gtup (T : Tp fa fn ex X.K X.mg) (i : Nat) {x : Str} {vs : List Dv} {ds : List D} {pos : Pos} (hG : G.K = X.K) (hg : Gl X x) (ht : tupB X.K x vs = true) (q : ∀ ρ H, VRels G ρ H (vs.map (Dv.v X.K)) ds) (h : fa[i]? = some (.glo x) := by rfl) (hd : (x == ("__debug__" : Str)) = false := by decide) :
    PE X (.Name x pos) (rd G E (eC (.tup ds))) := me_glob hg (T.glo i h) (v := .ref (ga X.K x)) rfl (fun ρ H => .tup (by rw [hG]; exact tupB_ok ht H) (q ρ H)) hd
end
def OkD (P : Program) (w : World) (K : PySem.W.Frag) (mg : Str → Option Value) (base : Heap) (k : Nat) (d : DefD) (ps : List Str) (F : Fn) (G : Gm) : Prop :=
  ∃ fd, FunD K d.name d.qual d.params d.body d.scope (d.dvs K) (d.kws K) (fAd K d.at_) fd ∧ FnG P w K mg base k (fAd K d.at_) fd ps (spOf G ps.length F)
theorem okD_of {P : Program} {w : World} {K : PySem.W.Frag} {mg : Str → Option Value} {base : Heap} {fa : List Fa} {fn : List DefD} {ex : PySem.W.Frag → Bool} {k : Nat} {N ps : List Str} {G : Gm} {m : MS} (T : Tp fa fn ex K mg) (i : Nat) {d : DefD} (S : FnScope N ps d.scope)
    (hb : ∀ (cdv : Value) (A : Around) (outer : List PySem.Env) (s : Shared) (H : Hp) (E : XK), RG k (A.deeper (envOfC d.qual d.scope s.heap.objs.size (fAd K d.at_) cdv)) → PSs (cxOf (L2.CX P w) P w K mg base N d.qual d.scope (fAd K d.at_) cdv A outer s H E) d.body (rdS G (fun cls d _ H => E cls d H) m)) (h : fn[i]? = some d := by rfl) :
    OkD P w K mg base (k + 1) d ps (fnOf N.length m) G := let ⟨fd, F⟩ := T.fd i h; ⟨fd, F, fg_of F S fun cdv _ => hb cdv⟩
def Form (K : PySem.W.Frag) (G : Gm) (d : DefD) (ps : List Str) (n : Nat) (kn : List Str) (p : List D → List D → List D) : Prop := ∃ gV : List V → List V → List V,
  (∀ fd, FunD K d.name d.qual d.params d.body d.scope (d.dvs K) (d.kws K) (fAd K d.at_) fd → ∃ g, KBn K fd ps n kn g gV) ∧ PermR G n kn.length gV p ∧ ∀ ds es : List D, ds.length = n → es.length = kn.length → (p ds es).length = ps.length
section
variable {K : PySem.W.Frag} {G : Gm} {d : DefD} {ps : List Str} {n : Nat} {kn : List Str}
theorem form_pos (hd : d.dfl = []) (h : ∀ (kV doc pm : Value) (an : Option Addr) (cdv ct : Value) (us : List Value), us.length = ps.length → bindArgs (PySem.W.fnOf d.name d.qual d.params d.body d.scope .none kV doc pm an cdv ct) ⟨us, []⟩ = pure (ps.zip us)) : Form K G d ps ps.length [] (fun ds _ => ds) := by
  refine ⟨fun vs _ => vs, fun fd F => ⟨fun us _ => us, ⟨fun s us ws X l1 l2 => ?_, fun r _ => r⟩⟩, fun ρ H vs ds zs es q1 q2 _ _ => ⟨q1, q1.length⟩, fun ds es l _ => l⟩
  have F2 : FunD K d.name d.qual d.params d.body d.scope [] (d.kws K) (fAd K d.at_) fd := by
    have e : d.dvs K = [] := by unfold DefD.dvs; rw [hd]; rfl
    rw [e] at F
    exact F
  exact F2.bindsA h s us l1
theorem form_kw0 (g : {α : Type} → List α → List α → List α → List α) (ms : List (Str × Dv)) (mds : List D) (hd : d.dfl = []) (hk : d.kwd ≠ []) (is : List Nat) (hms : is.map (fun i => d.kwd[i]?) = ms.map some) (hm : ∀ ρ H, VRels G ρ H (ms.map fun q => q.2.v K) mds)
    (hrel : ∀ {vs mz zs : List V} {us mv ws : List Value}, Vals vs us → Vals mz mv → Vals zs ws → Vals (g vs mz zs) (g us mv ws)) (hrelD : ∀ {ρ : List Addr} {H : Hp} {vs mz zs : List V} {us mv ws : List D}, VRels G ρ H vs us → VRels G ρ H mz mv → VRels G ρ H zs ws → VRels G ρ H (g vs mz zs) (g us mv ws))
    (hl : ∀ ds es : List D, ds.length = n → es.length = kn.length → (g ds mds es).length = ps.length)
    (h : ∀ (A : Addr) (doc pm : Value) (an : Option Addr) (cdv ct : Value) (us mv ws : List Value), us.length = n → mv.length = ms.length → ws.length = kn.length →
      KwChain A ((ms.map (·.1)).zip mv) (bindArgs (PySem.W.fnOf d.name d.qual d.params d.body d.scope .none (.ref A) doc pm an cdv ct) ⟨us, kn.zip ws⟩) (ps.zip (g us mv ws))) : Form K G d ps n kn (fun ds es => g ds mds es) := by
  refine ⟨fun vs zs => g vs (ms.map fun q => q.2.v K) zs, fun fd F => ?_, fun ρ H vs ds zs es q1 q2 _ _ => ⟨hrelD q1 (hm ρ H) q2, (hrelD q1 (hm ρ H) q2).length⟩, hl⟩
  have F2 : FunD K d.name d.qual d.params d.body d.scope [] (d.kws K) (fAd K d.at_) fd := by
    have e : d.dvs K = [] := by unfold DefD.dvs; rw [hd]; rfl
    rw [e] at F
    exact F
  obtain ⟨mv, kb⟩ := F2.kbinds0 (ps := ps) n kn (ms.map fun q => (q.1, q.2.v K)) g (by unfold DefD.kws; intro z; exact hk (List.map_eq_nil_iff.mp z))
    (fun q hq => by
      obtain ⟨q', hq', rfl⟩ := List.mem_map.mp hq
      have k : some q' ∈ is.map (fun i => d.kwd[i]?) := by rw [hms]; exact List.mem_map.mpr ⟨q', hq', rfl⟩
      obtain ⟨i, _, e⟩ := List.mem_map.mp k
      exact List.mem_map.mpr ⟨q', List.mem_of_getElem? e, rfl⟩) hrel fun A doc pm an cdv ct us mv ws l1 l2 l3 => by
      have z := h A doc pm an cdv ct us mv ws l1 (by simpa using l2) l3
      rw [List.map_map]
      exact z
  refine ⟨fun us ws => g us mv ws, ?_⟩
  have e : (ms.map fun q => (q.1, q.2.v K)).map (·.2) = ms.map fun q => q.2.v K := by rw [List.map_map]; rfl
  rw [e] at kb
  exact kb
end
section
variable {G : Gm} {E : WM} {X : Cx} {j k n : Nat} {d : DefD} {ps kn : List Str} {F : Fn} {p : List D → List D → List D}
theorem OkD.calls (O : OkD X.prog X.w X.K X.mg X.base k d ps F G) (B : Form X.K G d ps n kn p) (hx : PassW X E) (rg : RG j X.A) (h : k ≤ j := by decide) : CallsF X G E (.ref (fAd X.K d.at_)) kn (callP n kn.length p F) := by
  obtain ⟨fd, FD, FG⟩ := O
  obtain ⟨gV, b1, b2, b3⟩ := B
  obtain ⟨g, kb⟩ := b1 fd FD
  exact calls_of FG (rg.mono h) kb hx b2 b3
theorem OkD.makes {c : Nat} (O : OkD X.prog X.w X.K X.mg X.base k d ps F G) (B : Form X.K G d ps (n + 1) kn p) (M : Mk X.K (G.cA c) (fAd X.K d.at_)) (hx : PassW X E) (rg : RG j X.A) (h : k + 1 ≤ j := by decide) :
    CallsF X G E (.ref (G.cA c)) kn (mkNew c (callP (n + 1) kn.length p F)) := by
  obtain ⟨fd, FD, FG⟩ := O
  obtain ⟨gV, b1, b2, b3⟩ := B
  obtain ⟨g, kb⟩ := b1 fd FD
  exact makes_of M FG (rg.mono h) kb hx b2 b3
end
theorem law_endE {l : PySem.W.OpenLaw} {n k : Nat} {q : Program} {loose : List Str} {XP : (Str → Option Value) → Heap → Prop} {fa : List Fa} {fn : List DefD} {tq : TqL} {ex : PySem.W.Frag → Bool} {dr : DefRec} {F : Fn} {x : Str} {d : DefD} {G : PySem.W.Frag → Gm} {YP : World → Heap → Prop}
    (i0 : Nat) (hfn : fn[i0]? = some d) (hn : l.most = some n) (hn2 : n ≤ sizeLine) (hdf : dr.params.defaults = []) (rg : RG k callerA) (hG : ∀ K, (G K).K = K) (hGT : ∀ K, (G K).T = tabT tq K) (hGR : ∀ K, (G K).rt = []) (hY : ∀ w h, YP w h → ∃ K : PySem.W.Frag, K.In h ∧ SaysL fa fn tq ex h K)
    (hg : ∀ K mg, Tp fa fn ex K mg → mg dr.name = some (.ref (fAd K d.at_))) (hdd : d.dfl = []) (hb : ∀ (kV doc pm : Value) (an : Option Addr) (cdv ct : Value) (us : List Value), us.length = [x].length → bindArgs (PySem.W.fnOf d.name d.qual d.params d.body d.scope .none kV doc pm an cdv ct) ⟨us, []⟩ = pure ([x].zip us))
    (FG : ∀ (w : World) (mg : Str → Option Value) (K : PySem.W.Frag) (base : Heap), Tp fa fn ex K mg → TbL tq K mg base → OkD l.prog w K mg base k d [x] F (G K))
    (hT : ∀ ns : List Int, ns.length ≤ n → ∃ h', F [.kl (ns.map .int)] Hm.start = .ok (.bl true) h') : PySem.W.WalkO q loose XP YP l.row.toRowW dr [] (fun f vs => PySem.call f vs) := by
  refine Att.attach_call hn hdf fun w s0 s1 mg mb fa o pm cd doc a vs ns Gr Y ho hd hcd hmg hobj hints hlen hgens => ?_
  obtain ⟨K, KX, c⟩ := hY _ _ Y
  have T : Tp _ _ _ K mg := ⟨c.m, _, KX, Gr.T.g⟩
  have e := hg K mg T
  rw [hmg] at e
  obtain rfl := Value.ref.inj (Option.some.inj e)
  obtain ⟨fd0, F0⟩ := T.fd i0 hfn
  -- the def is one, whatever the base
  have one : ∀ fd, FunD K d.name d.qual d.params d.body d.scope (d.dvs K) (d.kws K) (fAd K d.at_) fd → fd = fd0 := fun fd FD => by
    obtain ⟨_, _, _, _, _, _, _, _, _, _, _, lk, _⟩ := F0.ex
    obtain ⟨_, _, _, _, _, _, _, _, _, _, _, lk', _⟩ := FD.ex
    rw [lk] at lk'
    have := Option.some.inj lk'
    cases this
    rfl
  have F2 : FunD K d.name d.qual d.params d.body d.scope [] (d.kws K) (fAd K d.at_) fd0 := by
    have e : d.dvs K = [] := by unfold DefD.dvs; rw [hdd]; rfl
    rw [e] at F0
    exact F0
  have inP : ∀ {Z : Addr × Addr → Prop}, (∀ p ∈ tq, Z (cT K p.1)) → ∀ z ∈ tq.map (fun p => cT K p.1), Z z := fun {Z} hz z hm => by
    obtain ⟨p, hp, rfl⟩ := List.mem_map.mp hm
    exact hz p hp
  obtain ⟨o1, sy1, sy2⟩ := c.sy
  exact law_go (cs := tq.map fun p => cT K p.1) (hG K) (hGR K) (fun p hp => by
      rw [hGT K] at hp
      obtain ⟨r, hr, rfl⟩ := List.mem_map.mp hp
      exact List.mem_map_of_mem (f := fun z : Addr × Addr => z.2) (List.mem_map_of_mem (f := fun p : Defn × Str => cT K p.1) hr))
    KX Gr.T.g Gr.T.b Gr.T.builtins Gr.T.nolimit hgens sy1 sy2 c.sk (inP c.ns) (inP c.emp) (inP c.out) (inP fun p hp => PySem.W.codeHd_of_K KX (c.hd p hp)) Gr.T.bmain hobj hints (Nat.le_trans hlen hn2) rg (fun base inB nsB tB => by
    obtain ⟨fd, FD, FG'⟩ := FG w mg K base T ⟨fun p hp => tB _ (List.mem_map_of_mem (f := fun p : Defn × Str => cT K p.1) hp), c.nd⟩
    rw [one fd FD] at FG'
    exact FG') (fun s u => F2.bindsA hb s [u] rfl) (hT ns hlen)
end Mo
end
section
namespace Mo
open PySem L2 PyProof.Rows He
section
variable {G : Gm} {E : WM}
theorem bs_int : BiS G E (fun xs H Q => (∃ i, xs = [.int i] ∧ Q (.int i) H) ∨ ∃ k, xs = [.bl k] ∧ Q (.int (if k then 1 else 0)) H) bInt := by
  intro τ ρ H h ds vs Q r q w
  unfold bInt at w
  split at w
  · obtain ⟨v, rfl, k⟩ := vs1 q
    cases k
    exact .inl ⟨_, rfl, w.val r (.int _)⟩
  · obtain ⟨v, rfl, k⟩ := vs1 q
    cases k
    exact .inr ⟨_, rfl, w.val r (.int _)⟩
  · exact False.elim w
theorem flat_rel {ρ : List Addr} {H : Hp} {v : V} {d : D} (q : VRel G ρ H v d) (k : flatD d = true) : flatV v = true := by
  cases q <;> first | rfl | cases k
theorem eqF_rel {ρ : List Addr} {H : Hp} {v u : V} {d e : D} (q : VRel G ρ H v d) (q' : VRel G ρ H u e) (k : flatD d = true) (k' : flatD e = true) : eqV v u = eqF d e := by
  cases q <;> cases q' <;> first | rfl | (cases k; done) | (cases k'; done)
theorem all_rel {ρ : List Addr} {H : Hp} : ∀ {vs : List V} {ds : List D}, VRels G ρ H vs ds → ds.all flatD = true → vs.all flatV = true
  | _, _, .nil, _ => rfl
  | _, _, .cons q qs, k => by
    rw [List.all_cons, Bool.and_eq_true] at k ⊢
    exact ⟨flat_rel q k.1, all_rel qs k.2⟩
theorem in_rel {ρ : List Addr} {H : Hp} {v : V} {d : D} (q : VRel G ρ H v d) (k : flatD d = true) : ∀ {vs : List V} {ds : List D}, VRels G ρ H vs ds → ds.all flatD = true → inV v vs = inD d ds
  | _, _, .nil, _ => rfl
  | _, _, .cons p ps, k' => by
    rw [List.all_cons, Bool.and_eq_true] at k'
    have ih := in_rel q k ps k'.2
    unfold inV inD at ih ⊢
    rw [List.any_cons, List.any_cons, ih, eqF_rel p q k'.1 k]
theorem os_in {neg : Bool} : OpS G E (rIn G.K neg) (opIn neg) := by
  intro τ ρ H h x y v u Q r q1 q2 w
  unfold opIn at w
  cases q2 with
  | tup h1 h2 =>
    obtain ⟨c, w⟩ := Wp.ifR w
    obtain ⟨c1, c2⟩ := Bool.and_eq_true_iff.mp c
    exact ⟨_, _, rfl, .inr h1, flat_rel q1 c1, all_rel h2 c2, by rw [in_rel q1 c1 h2 c2]; exact w.val r (.bl _)⟩
  | kl h1 h2 =>
    obtain ⟨c, w⟩ := Wp.ifR (show Wp G (atW E τ) (VRel G) (ifR _ _) ρ H Q from w)
    obtain ⟨c1, c2⟩ := Bool.and_eq_true_iff.mp c
    exact ⟨_, _, rfl, .inl h1.l, flat_rel q1 c1, all_rel h2 c2, by rw [in_rel q1 c1 h2 c2]; exact w.val r (.bl _)⟩
  | @loc a l hl =>
    simp only at w
    split at w <;> first | exact False.elim w | skip
    rename_i xs e
    obtain ⟨a', vs, e0, e1, e2⟩ := r.seqL e (.loc hl)
    cases e0
    obtain ⟨c, w⟩ := Wp.ifR w
    obtain ⟨c1, c2⟩ := Bool.and_eq_true_iff.mp c
    exact ⟨_, _, rfl, .inl e1, flat_rel q1 c1, all_rel e2 c2, by rw [in_rel q1 c1 e2 c2]; exact w.val r (.bl _)⟩
  | _ => exact False.elim w
end
end Mo
end
section
namespace Mo
open PySem L2 PyProof.Rows He
section
variable {K : PySem.W.Frag} {G : Gm} {d : DefD} {ps : List Str} {n : Nat} {kn : List Str}
theorem form_kwp (g : {α : Type} → List α → List α → List α) (hd : d.dfl = [])
    (hrel : ∀ {vs zs : List V} {us ws : List Value}, Vals vs us → Vals zs ws → Vals (g vs zs) (g us ws)) (hrelD : ∀ {ρ : List Addr} {H : Hp} {vs zs : List V} {us ws : List D}, VRels G ρ H vs us → VRels G ρ H zs ws → VRels G ρ H (g vs zs) (g us ws))
    (hl : ∀ ds es : List D, ds.length = n → es.length = kn.length → (g ds es).length = ps.length)
    (h : ∀ (kV doc pm : Value) (an : Option Addr) (cdv ct : Value) (us ws : List Value), us.length = n → ws.length = kn.length →
      bindArgs (PySem.W.fnOf d.name d.qual d.params d.body d.scope .none kV doc pm an cdv ct) ⟨us, kn.zip ws⟩ = pure (ps.zip (g us ws))) : Form K G d ps n kn (fun ds es => g ds es) := by
  refine ⟨fun vs zs => g vs zs, fun fd F => ?_, fun ρ H vs ds zs es q1 q2 _ _ => ⟨hrelD q1 q2, (hrelD q1 q2).length⟩, hl⟩
  have F2 : FunD K d.name d.qual d.params d.body d.scope [] (d.kws K) (fAd K d.at_) fd := by
    have e : d.dvs K = [] := by unfold DefD.dvs; rw [hd]; rfl
    rw [e] at F
    exact F
  obtain ⟨oc, od, dV, kV, doc, pm, an, cdv, ct, osl, rfl, lk, hcd, hD, hK⟩ := F2.ex
  rcases hD with ⟨_, rfl⟩ | ⟨e, _⟩
  · exact ⟨fun us ws => g us ws, ⟨fun s us ws X l1 l2 => BindsTo.of_eq (h kV doc pm an cdv ct us ws l1 l2), fun r1 r2 => hrel r1 r2⟩⟩
  · exact absurd rfl e
end
end Mo
end
section
namespace Mo
open PySem
def eLstK (as : MA) : ME := fun σ h => (as σ h).bind fun ds h1 => ifR (decide (ds.length ≤ SL)) (.ok (.kl ds) h1)
def eCompK (it : MI) (own : List Nat) (one : Bool) (is : List Nat) (t : MT) (e : ME) : ME := fun σ h => (it σ h).bind fun J h1 =>
  (compGo (bindC one is) t e J.ok (wipe σ own) J.xs [] h1).bind fun acc h2 => .ok (.kl acc) h2
def bListK : Bi
  | [.tup ds], h => .ok (.kl ds) h
  | [x], h => match h.seq x with
    | some xs => .ok (.kl xs) h
    | none => .bad
  | _, _ => .bad
def Hm.del (h : Hm) (l : Nat) : Hm := ⟨h.n, fun k => if k = l then none else h.g k⟩
def frzR (x : D) (h : Hm) : R D := match x with
  | .loc l => match h.g l with
    | some (.lst xs) => .ok (.kl xs) (h.del l)
    | _ => .bad
  | x => .ok x h
def eFrz (a : ME) : ME := fun σ h => (a σ h).bind frzR
def opAddM (x y : D) (h : Hm) : R D := match x, y with
  | .int i, .int j => .ok (.int (i + j)) h
  | .str a, .str b => ifR (decide (a.length + b.length ≤ SL)) (.ok (.str (a ++ b)) h)
  | .tup a, .tup b => ifR (decide (a.length + b.length ≤ SL)) (.ok (.tup (a ++ b)) h)
  | x, y => match h.seq x, h.seq y with
    | some xs, some ys => ifR (decide (xs.length + ys.length ≤ SL)) (.ok (.loc h.n) (h.new (.lst (xs ++ ys))))
    | _, _ => .bad
def opAddK (x y : D) (h : Hm) : R D := match x, y with
  | .int i, .int j => .ok (.int (i + j)) h
  | .str a, .str b => ifR (decide (a.length + b.length ≤ SL)) (.ok (.str (a ++ b)) h)
  | .tup a, .tup b => ifR (decide (a.length + b.length ≤ SL)) (.ok (.tup (a ++ b)) h)
  | x, y => match h.seq x, h.seq y with
    | some xs, some ys => ifR (decide (xs.length + ys.length ≤ SL)) (.ok (.kl (xs ++ ys)) h)
    | _, _ => .bad
def opAddI (x y : D) (h : Hm) : R D := match x, y with
  | .int i, .int j => .ok (.int (i + j)) h
  | _, _ => .bad
def opMulK : D → D → Hm → R D
  | .int i, .int j, h => ifR (mulOk i j) (.ok (.int (i * j)) h)
  | .loc a, .int k, h => match h.g a with
    | some (.lst xs) => ifR (decide (-(2 ^ 63) ≤ k ∧ k < 2 ^ 63 ∧ xs.length * k.toNat ≤ SL)) (.ok (.kl (List.replicate k.toNat xs).flatten) h)
    | _ => .bad
  | _, _, _ => .bad
def lookS (t : String) : List (String × Bool) → Option Bool
  | [] => none
  | (a, b) :: r => if a = t then some b else lookS t r
def lookN (c : Nat) : List (Nat × Bool) → Option Bool
  | [] => none
  | (a, b) :: r => if a = c then some b else lookN c r
def isK (tb : List (String × Bool)) (to tx : List (Nat × Bool)) (x : D) (h : Hm) : Option Bool := match tyD h x with
  | some t => lookS t tb
  | none => match x with
    | .loc l => match h.g l with
      | some (.ins c _) => lookN c to
      | some .odd => lookS "dict" tb
      | some (.xn c) => lookN c tx
      | some (.xc c m) => match h.g m with
        | some (.xd _) => lookN c tx
        | _ => none
      | _ => none
    | _ => none
def isR (tb : List (String × Bool)) (to tx : List (Nat × Bool)) (x : D) (h : Hm) : R D := match isK tb to tx x h with
  | some b => .ok (.bl b) h
  | none => .bad
def eIs (tb : List (String × Bool)) (to tx : List (Nat × Bool)) (a : ME) : ME := fun σ h => (a σ h).bind (isR tb to tx)
def intsOf : List D → Option (List Int)
  | [] => some []
  | .int k :: r => (intsOf r).map (k :: ·)
  | _ :: _ => none
def insU (k : Int) : List Int → List Int
  | [] => [k]
  | x :: xs => if k < x then k :: x :: xs else if k = x then x :: xs else x :: insU k xs
def sortU (ks : List Int) : List Int := ks.foldr insU []
def MSET : Nat := 4000
def sortSetR (x : D) (h : Hm) : R D := match h.seq x with
  | some xs => match intsOf xs with
    | some ks => ifR (decide (ks.length < MSET) && decide ((sortU ks).length < 64)) (.ok (.kl ((sortU ks).map .int)) h)
    | none => .bad
  | none => .bad
def eSortSet (a : ME) : ME := fun σ h => (a σ h).bind sortSetR
def setGo (bd : D → Env → Option Env) (t : MT) (e : ME) (ok : Hm → Bool) (σ : Env) : List D → List Int → Hm → R (List Int)
  | [], acc, h => ifR (ok h) (.ok acc h)
  | d :: ds, acc, h => match ok h, bd d σ with
    | true, some σ1 => (t σ1 h).quiet.bind fun c h1 => match c with
      | false => setGo bd t e ok σ ds acc h1
      | true => (e σ1 h1).quiet.bind fun y h2 => match y with
        | .int k => ifR (decide (acc.length < MSET)) (setGo bd t e ok σ ds (acc ++ [k]) h2)
        | _ => .bad
    | _, _ => .bad
theorem insU_mem (k j : Int) : ∀ xs : List Int, j ∈ insU k xs ↔ j = k ∨ j ∈ xs
  | [] => by simp [insU]
  | x :: xs => by
    unfold insU
    split
    · simp
    · split
      · rename_i e
        subst e
        simp
      · rw [List.mem_cons, insU_mem k j xs, List.mem_cons]
        constructor
        · rintro (a | a | a)
          · exact .inr (.inl a)
          · exact .inl a
          · exact .inr (.inr a)
        · rintro (a | a | a)
          · exact .inr (.inl a)
          · exact .inl a
          · exact .inr (.inr a)
theorem sortU_mem (j : Int) : ∀ ks : List Int, j ∈ sortU ks ↔ j ∈ ks
  | [] => by simp [sortU]
  | k :: ks => by
    show j ∈ insU k (sortU ks) ↔ _
    rw [insU_mem, sortU_mem j ks, List.mem_cons]
theorem insU_pw (k : Int) : ∀ {xs : List Int}, xs.Pairwise (· < ·) → (insU k xs).Pairwise (· < ·)
  | [], _ => by simp [insU]
  | x :: xs, h => by
    obtain ⟨h1, h2⟩ := List.pairwise_cons.mp h
    unfold insU
    split
    · rename_i c
      refine List.pairwise_cons.mpr ⟨fun y hy => ?_, h⟩
      rcases List.mem_cons.mp hy with rfl | hy
      · exact c
      · exact Int.lt_trans c (h1 y hy)
    · split
      · exact h
      · refine List.pairwise_cons.mpr ⟨fun y hy => ?_, insU_pw k h2⟩
        rcases (insU_mem k y xs).mp hy with rfl | hy
        · omega
        · exact h1 y hy
theorem sortU_pw : ∀ ks : List Int, (sortU ks).Pairwise (· < ·)
  | [] => .nil
  | k :: ks => insU_pw k (sortU_pw ks)
theorem pw_mem_eq : ∀ {xs ys : List Int}, (∀ j, j ∈ xs ↔ j ∈ ys) → xs.Pairwise (· < ·) → ys.Pairwise (· < ·) → xs = ys
  | [], [], _, _, _ => rfl
  | [], y :: ys, p, _, _ => absurd ((p y).mpr List.mem_cons_self) (by simp)
  | x :: xs, [], p, _, _ => absurd ((p x).mp List.mem_cons_self) (by simp)
  | x :: xs, y :: ys, p, h1, h2 => by
    obtain ⟨a1, a2⟩ := List.pairwise_cons.mp h1
    obtain ⟨b1, b2⟩ := List.pairwise_cons.mp h2
    have e : x = y := by
      rcases List.mem_cons.mp ((p x).mp List.mem_cons_self) with e | m1
      · exact e
      rcases List.mem_cons.mp ((p y).mpr List.mem_cons_self) with e | m2
      · exact e.symm
      have := b1 x m1
      have := a1 y m2
      omega
    subst e
    rw [pw_mem_eq (fun j => ?_) a2 b2]
    constructor
    · intro m
      rcases List.mem_cons.mp ((p j).mp (List.mem_cons_of_mem _ m)) with rfl | z
      · exact absurd (a1 _ m) (by omega)
      · exact z
    · intro m
      rcases List.mem_cons.mp ((p j).mpr (List.mem_cons_of_mem _ m)) with rfl | z
      · exact absurd (b1 _ m) (by omega)
      · exact z
theorem sortU_eq {ks ys : List Int} (m : ∀ j, j ∈ ys ↔ j ∈ ks) (h : ys.Pairwise (· < ·)) : ys = sortU ks := pw_mem_eq (fun j => (m j).trans (sortU_mem j ks).symm) h (sortU_pw ks)
theorem intsOf_map : ∀ ks : List Int, intsOf (ks.map .int) = some ks
  | [] => rfl
  | k :: ks => by
    show (intsOf (ks.map .int)).map (k :: ·) = _
    rw [intsOf_map ks]
    rfl
theorem intsOf_eq : ∀ {xs : List D} {ks : List Int}, intsOf xs = some ks → xs = ks.map .int
  | [], ks, e => by cases (show some [] = some ks from e); rfl
  | x :: xs, ks, e => by
    cases x with
    | int k =>
      obtain ⟨js, e1, rfl⟩ := Option.map_eq_some_iff.mp (show (intsOf xs).map (k :: ·) = some ks from e)
      rw [intsOf_eq e1]
      rfl
    | _ => cases e
theorem insU_len (k : Int) (xs : List Int) : (insU k xs).length ≤ xs.length + 1 := by
  induction xs with
  | nil => exact Nat.le_refl _
  | cons x xs ih =>
    unfold insU
    split
    · exact Nat.le_refl _
    · split
      · exact Nat.le_succ _
      · simpa using ih
theorem sortU_len : ∀ ks : List Int, (sortU ks).length ≤ ks.length
  | [] => Nat.le_refl _
  | k :: ks => by
    show (insU k (sortU ks)).length ≤ _
    have := insU_len k (sortU ks)
    have := sortU_len ks
    rw [List.length_cons]
    omega
theorem ev_sortSet {E : XE} {σ : Env} {h : Hm} {Q : D → Hm → Prop} {a : ME} (q : Ev E (a σ h) fun x h1 => Ev E (sortSetR x h1) Q) : Ev E (eSortSet a σ h) Q := ev_bind q
theorem ev_sortSetR {E : XE} {h : Hm} {Q : D → Hm → Prop} {x : D} {xs : List D} {ks : List Int} (e : h.seq x = some xs) (k : xs = ks.map .int) (l1 : ks.length < MSET) (l2 : (sortU ks).length < 64) (q : Q (.kl ((sortU ks).map .int)) h) : Ev E (sortSetR x h) Q := by
  unfold sortSetR
  simp only [e, k, intsOf_map]
  exact ev_ifR (by rw [decide_eq_true l1, decide_eq_true l2]; rfl) q
theorem set_inv {E : XE} {σ : Env} {a : ME} {t : MT} {bd : D → Env → Option Env} {ok : Hm → Bool} {Q : List Int → Hm → Prop} (f : D → Option Int) : ∀ (xs : List D) (acc : List Int) (h : Hm), ok h = true → acc.length + xs.length < MSET →
    (∀ d ∈ xs, ∃ σ1, bd d σ = some σ1 ∧ Ev (fun _ _ _ => False) (t σ1 h) fun c h1 => h1 = h ∧ sel c (Ev (fun _ _ _ => False) (a σ1 h) fun y h2 => h2 = h ∧ ∃ k, f d = some k ∧ y = .int k) (f d = none)) →
    Q (acc ++ xs.filterMap f) h → Ev E (setGo bd t a ok σ xs acc h) Q
  | [], acc, h, o, _, _, q => by
    unfold setGo
    exact ev_ifR o (show Q acc h by simpa using q)
  | d :: ds, acc, h, o, l, step, q => by
    unfold setGo
    obtain ⟨σ1, e, w⟩ := step d List.mem_cons_self
    rw [o, e]
    have nxt : ∀ acc, acc.length + ds.length < MSET → Q (acc ++ ds.filterMap f) h → Ev E (setGo bd t a ok σ ds acc h) Q := fun acc l q => set_inv f ds acc h o l (fun d hd => step d (List.mem_cons_of_mem _ hd)) q
    rw [List.length_cons] at l
    refine ev_bind (ev_quiet (w.mono fun c h1 ⟨eh, w⟩ => ?_))
    subst eh
    cases c with
    | false =>
      have w : f d = none := w
      rw [List.filterMap_cons, w] at q
      exact nxt acc (by omega) q
    | true =>
      refine ev_bind (ev_quiet (Ev.mono w fun y h2 ⟨eh, k, ef, ey⟩ => ?_))
      subst eh ey
      rw [List.filterMap_cons, ef] at q
      exact ev_ifR (decide_eq_true (by omega)) (nxt (acc ++ [k]) (by rw [List.length_append, List.length_singleton]; omega) (by simpa using q))
def ownM (ms : List (Nat × Fn)) (h : Hm) : D → Option Fn
  | .loc l => match h.g l with
    | some (.ins c _) => pickF c ms
    | _ => none
  | _ => none
def chkLen (v : D) (h : Hm) : R D := match v with
  | .int i => ifR (decide (0 ≤ i ∧ i < 2 ^ 63)) (.ok (.int i) h)
  | _ => .bad
def chkStr (v : D) (h : Hm) : R D := match v with
  | .str x => .ok (.str x) h
  | _ => .bad
def bOwn1 (ms : List (Nat × Fn)) (chk : D → Hm → R D) (b : Bi) : Bi := fun ds h => match ds with
  | [x] => match ownM ms h x with
    | some F => (F [x] h).quiet.bind chk
    | none => b [x] h
  | ds => b ds h
def bLenU (ms : List (Nat × Fn)) : Bi := bOwn1 ms chkLen bLen
def bReprU (ms : List (Nat × Fn)) : Bi := bOwn1 ms chkStr bRepr
def bStr : Bi
  | [.int i], h => ifR (decide (i.natAbs.log2 < 1920)) (.ok (.str (toString i)) h)
  | [.str x], h => .ok (.str x) h
  | _, _ => .bad
def fmtR (x : D) (h : Hm) : R D := match x with
  | .int i => ifR (decide (i.natAbs.log2 < 1920)) (.ok (.str (toString i)) h)
  | .str y => ifR (decide (y.length ≤ SL)) (.ok (.str y) h)
  | _ => .bad
def eFmt (a : ME) : ME := fun σ h => (a σ h).bind fmtR
def joinGo : List ME → Str → Env → Hm → R D
  | [], acc, _, h => .ok (.str acc) h
  | m :: ms, acc, σ, h => (m σ h).bind fun x h1 => match x with
    | .str y => ifR (decide ((acc ++ y).length ≤ SL)) (joinGo ms (acc ++ y) σ h1)
    | _ => .bad
def eFs (ps : List ME) : ME := fun σ h => joinGo ps Str.empty σ h
theorem ev_own1 {E : XE} {h : Hm} {Q : D → Hm → Prop} {ms : List (Nat × Fn)} {chk : D → Hm → R D} {b : Bi} {l c : Nat} {fs : List (Str × D)} {F : Fn} (e : h.g l = some (.ins c fs)) (k : pickF c ms = some F) (q : Ev (fun _ _ _ => False) (F [.loc l] h) fun v h1 => Ev E (chk v h1) Q) : Ev E (bOwn1 ms chk b [.loc l] h) Q := by
  unfold bOwn1 ownM
  simp only [e, k]
  exact ev_bind (ev_quiet q)
theorem ev_chkLen {E : XE} {h : Hm} {Q : D → Hm → Prop} {i : Int} (k : 0 ≤ i ∧ i < 2 ^ 63) (q : Q (.int i) h) : Ev E (chkLen (.int i) h) Q := ev_ifR (decide_eq_true k) q
theorem ev_chkStr {E : XE} {h : Hm} {Q : D → Hm → Prop} {x : Str} (q : Q (.str x) h) : Ev E (chkStr (.str x) h) Q := q
theorem ev_strI {E : XE} {h : Hm} {Q : D → Hm → Prop} {i : Int} (k : i.natAbs.log2 < 1920) (q : Q (.str (toString i)) h) : Ev E (bStr [.int i] h) Q := ev_ifR (decide_eq_true k) q
theorem ev_strS {E : XE} {h : Hm} {Q : D → Hm → Prop} {x : Str} (q : Q (.str x) h) : Ev E (bStr [.str x] h) Q := q
theorem ev_isR {E : XE} {h : Hm} {Q : D → Hm → Prop} {tb : List (String × Bool)} {to tx : List (Nat × Bool)} {x : D} {b : Bool} (e : isK tb to tx x h = some b) (q : Q (.bl b) h) : Ev E (isR tb to tx x h) Q := by
  unfold isR
  rw [e]
  exact q
theorem ev_is {E : XE} {σ : Env} {h : Hm} {Q : D → Hm → Prop} {tb : List (String × Bool)} {to tx : List (Nat × Bool)} {a : ME} (q : Ev E (a σ h) fun x h1 => Ev E (isR tb to tx x h1) Q) : Ev E (eIs tb to tx a σ h) Q := ev_bind q
section
variable {E : XE} {σ : Env} {h : Hm} {Q : D → Hm → Prop} {a : ME} {as : MA} {t : MT}
theorem ev_lstK (q : Ev E (as σ h) fun ds h1 => TL ds (Q (.kl ds) h1)) : Ev E (eLstK as σ h) Q := ev_bind (q.mono fun ds h1 w => ev_ifR (decide_eq_true (Nat.le_of_ble_eq_true w.1)) w.2)
theorem ev_compK {it : MI} {own is : List Nat} {one : Bool} (q : Ev E (it σ h) fun J h1 => Ev E (compGo (bindC one is) t a J.ok (wipe σ own) J.xs [] h1) fun acc h2 => Q (.kl acc) h2) : Ev E (eCompK it own one is t a σ h) Q := ev_bind (q.mono fun J h1 w => ev_bind w)
def TP (x : D) (K : List D → Prop) : Prop := ∃ xs, x = .tup xs ∧ K xs
theorem tp {xs : List D} {K : List D → Prop} (q : K xs) : TP (.tup xs) K := ⟨xs, rfl, q⟩
theorem ev_listKT {ds : List D} (q : Q (.kl ds) h) : Ev E (bListK [.tup ds] h) Q := q
theorem ev_listKK {ds : List D} (q : Q (.kl ds) h) : Ev E (bListK [.kl ds] h) Q := q
theorem ev_listKL {l : Nat} {xs : List D} (e : h.g l = some (.lst xs)) (q : Q (.kl xs) h) : Ev E (bListK [.loc l] h) Q := by
  unfold bListK Hm.seq
  simp only [e]
  exact q
theorem ev_frz (q : Ev E (a σ h) fun x h1 => Ev E (frzR x h1) Q) : Ev E (eFrz a σ h) Q := ev_bind q
theorem ev_frzL {l : Nat} {xs : List D} (e : h.g l = some (.lst xs)) (q : Q (.kl xs) (h.del l)) : Ev E (frzR (.loc l) h) Q := by
  unfold frzR
  simp only [e]
  exact q
theorem ev_frzK {xs : List D} (q : Q (.kl xs) h) : Ev E (frzR (.kl xs) h) Q := q
theorem ev_addKI {i j : Int} (q : Q (.int (i + j)) h) : Ev E (opAddK (.int i) (.int j) h) Q := q
theorem ev_addMI {i j : Int} (q : Q (.int (i + j)) h) : Ev E (opAddM (.int i) (.int j) h) Q := q
theorem ev_addII {i j : Int} (q : Q (.int (i + j)) h) : Ev E (opAddI (.int i) (.int j) h) Q := q
theorem ev_addKS {x y : Str} (k : x.length + y.length ≤ SL) (q : Q (.str (x ++ y)) h) : Ev E (opAddK (.str x) (.str y) h) Q := ev_ifR (decide_eq_true k) q
theorem ev_addKK {x y : List D} (k : x.length + y.length ≤ SL) (q : Q (.kl (x ++ y)) h) : Ev E (opAddK (.kl x) (.kl y) h) Q := ev_ifR (decide_eq_true k) q
theorem ev_addKs {x y : D} {xs ys : List D} (e1 : h.seq x = some xs) (e2 : h.seq y = some ys) (k : xs.length + ys.length ≤ SL) (q : Q (.kl (xs ++ ys)) h) : Ev E (opAddK x y h) Q := by
  unfold opAddK
  split <;> first | (cases e1; done) | skip
  simp only [e1, e2]
  exact ev_ifR (decide_eq_true k) q
theorem ev_mulK {i j : Int} (k : (-(2 ^ 64) < i ∧ i < 2 ^ 64) ∨ (-(2 ^ 64) < j ∧ j < 2 ^ 64)) (q : Q (.int (i * j)) h) : Ev E (opMulK (.int i) (.int j) h) Q := ev_ifR (decide_eq_true k) q
end
section
variable {h : Hm} {l k : Nat} {o : O}
theorem del_ne (e : k ≠ l) : (h.del l).g k = h.g k := by unfold Hm.del; simp [e]
theorem del_n : (h.del l).n = h.n := rfl
end
section
variable {S T : Nat → Prop} {h h1 h2 : Hm}
theorem Fz.refl (S : Nat → Prop) (h : Hm) : Fz S h h := ⟨Nat.le_refl _, fun _ _ _ => rfl⟩
theorem Fz.put (a : Fz S h h1) {l : Nat} (o : O) (k : S l ∨ h.n ≤ l) : Fz S h (h1.put l o) := ⟨a.n, fun m k1 k2 => (put_ne (fun e => by
  subst e
  rcases k with k | k
  · exact k2 k
  · omega)).trans (a.g m k1 k2)⟩
theorem Fz.del (a : Fz S h h1) {l : Nat} (k : S l ∨ h.n ≤ l) : Fz S h (h1.del l) := ⟨a.n, fun m k1 k2 => (del_ne (fun e => by
  subst e
  rcases k with k | k
  · exact k2 k
  · omega)).trans (a.g m k1 k2)⟩
theorem Fz.after (a : Fz S h h1) (b : Fz T h1 h2) (k : ∀ l, T l → l < h.n → S l) : Fz S h h2 := ⟨Nat.le_trans a.n b.n, fun l k1 k2 => (b.g l (Nat.lt_of_lt_of_le k1 a.n) fun z => k2 (k l z k1)).trans (a.g l k1 k2)⟩
theorem Fz.mono (a : Fz S h h1) (k : ∀ l, S l → l < h.n → T l) : Fz T h h1 := ⟨a.n, fun l k1 k2 => a.g l k1 fun z => k2 (k l z k1)⟩
end
end Mo
end
section
namespace Mo
open PySem L2 PyProof.Rows He
section
variable {X : Cx} {e : Expr} {st : Stmt} {t : TE} {ts : TS}
theorem pe_frzO (h : PE X e t) : PE X e (fun σ H Q => t σ H fun v H1 => Leave Q v H1 ∨ Q v H1) := by
  refine ⟨fun pins s σ H Q I hw => ?_⟩
  refine thn (h.run pins s σ _ _ I hw) fun v s1 ⟨x, H1, I1, r, q⟩ => ?_
  rcases q with ⟨a, vs, e0, e1, q⟩ | q
  · obtain ⟨od, I2⟩ := I1.lock e1 trivial
    exact ⟨x, _, I2, r, q od⟩
  · exact ⟨x, _, I1, r, q⟩
theorem pe_frz (h : PE X e t) : PE X e (fun σ H Q => t σ H (Leave Q)) := by
  refine ⟨fun pins s σ H Q I hw => ?_⟩
  refine thn (h.run pins s σ _ _ I hw) fun v s1 ⟨x, H1, I1, r, a, vs, e0, e1, q⟩ => ?_
  obtain ⟨od, I2⟩ := I1.lock e1 trivial
  exact ⟨x, _, I2, r, q od⟩
theorem ps_frz (h : PS X st ts) : PS X st (fun D σ H => ts { D with nx := fun σ' H' => ∃ a vs, H' a = some (.lst vs) ∧ ∀ o, D.nx σ' (upd H' a (.frz o (.lst vs))) } σ H) := by
  refine ⟨fun pins s σ H D I hw => ?_⟩
  refine thn (h.run pins s σ _ _ I hw) fun f s1 q => ?_
  cases f with
  | next =>
    obtain ⟨σ', H', I1, a, vs, e1, q⟩ := q
    obtain ⟨od, I2⟩ := I1.lock e1 trivial
    exact ⟨σ', _, I2, q od⟩
  | _ => exact q
end
section
variable {G : Gm} {E : WM} {X : Cx} {a b c : Expr} {ma mb mc : ME} {pos : Pos} {as : MA} {es : List Expr}
theorem Grow.lock {ρ : List Addr} {H : Hp} {p : Addr} {vs : List V} (hu : H p = some (.lst vs)) (hn : p ∉ ρ) (o : Obj) : Ext ρ H ρ (upd H p (.frz o (.lst vs))) := by
  refine ⟨⟨[], by simp⟩, fun b xs e => ?_, fun b o v e => ?_⟩
  · rw [upd_ne (ne_of e hu (by rintro ⟨⟩))]; exact e
  · rw [upd_ne (ne_of e hu (by rintro ⟨⟩))]; exact e
theorem me_lstK (h : PA X es (rdA G E as)) : PE X (.List es pos) (rd G E (eLstK as)) :=
  pe_w (pe_frz (pe_lst h)) fun σ H Q ⟨ρ, env, hh, hs, hr, w⟩ => ⟨ρ, env, hh, hs, hr, w.seq fun ds h1 ρ1 H1 vs g1 r1 q1 w1 => by
    obtain ⟨c, w2⟩ := w1.ifR
    have c := of_decide_eq_true c
    exact ⟨by rw [q1.length]; exact sl_le c, fun p hp => Leave.new w2 r1 q1 hp⟩⟩
theorem bs_listK {X : Cx} : BiS G E (fun xs H Q => ∃ p ys, xs = [.ref p] ∧ (SqL G.K H p ys ∨ SqT G.K H p ys) ∧ ∀ l, H l = none → Leave Q (.ref l) (upd H l (.lst ys))) bListK := by
  intro τ ρ H h ds vs Q r q w
  unfold bListK at w
  split at w
  · obtain ⟨v, rfl, k⟩ := vs1 q
    cases k with
    | tup h1 h2 => exact ⟨_, _, rfl, .inr h1, fun l hl => Leave.new w r h2 hl⟩
  · obtain ⟨v, rfl, k⟩ := vs1 q
    split at w
    · rename_i xs e
      obtain ⟨p, ws, rfl, h1, h2⟩ := r.seqL e k
      exact ⟨p, ws, rfl, .inl h1, fun l hl => Leave.new w r h2 hl⟩
    · exact False.elim w
  · exact False.elim w
theorem me_listK {x : Str} {p : Pos} (hK : X.K = G.K) (hg : Gl X x) (hm : X.mg x = none) (hv : bootBuiltins x = some (.type "list")) (ha : PA X (a :: es) (rdA G E as)) (hn : x ≠ "__name__" := by decide) (hdb : (x == ("__debug__" : Str)) = false := by decide)
    (he : starEach (a :: es) X.env = (false, eval a X.env) :: starEach es X.env := by rfl) (hpl : (backTo pos (starEach es X.env)).any (·.1) = false := by rfl) : PE X (.Call (.Name x p) (a :: es) [] pos) (rd G E (eBi bListK as)) :=
  pe_w (pe_frz (pe_callTy call_list_of hg hm hv ha hn hdb he hpl)) fun σ H Q ⟨ρ, env, h, hs, hr, w⟩ => ⟨ρ, env, h, hs, hr, w.seq fun x h1 ρ1 H1 v g1 r1 q1 w1 => by
    rw [hK]
    exact bs_listK (X := X) σ ρ1 H1 h1 x v Q r1 q1 w1⟩
theorem leave_comp {E' : XK} {ρ1 ρ2 : List Addr} {H1 H2 : Hp} {h2 : Hm} {L : Addr} {acc : List V} {dacc : List D} {Q : VK} (hL : H1 L = none) (g2 : Grow ρ1 H1 ρ2 H2) (r2 : HRel G ρ2 H2 h2) (n2 : L ∉ ρ2) (e2 : H2 L = some (.lst acc)) (q2 : VRels G ρ2 H2 acc dacc)
    (w2 : Wp G E' (VRel G) (.ok (.kl dacc) h2) ρ1 H1 Q) : Leave Q (.ref L) H2 := by
  refine ⟨L, acc, rfl, e2, fun o => ?_⟩
  obtain ⟨r3, x3⟩ := r2.aside (u' := .frz o (.lst acc)) n2 e2 trivial
  refine w2 ρ2 _ _ ⟨g2.pre, fun b xs e => ?_, fun b u v e => ?_, fun b u e n kt => ?_⟩ r3 (.kl (.inl ⟨o, upd_same⟩) (q2.ext x3))
  · rw [upd_ne (ne_of_none e hL)]; exact g2.tup b xs e
  · rw [upd_ne (ne_of_none e hL)]; exact g2.frz b u v e
  · rw [upd_ne (ne_of_none e hL)]; exact g2.out b u e n kt
theorem rd_compK {mi : MI} {own : List Nat} {one : Bool} {is : List Nat} {t : MT} {g : TG} (hb : BdOk G (bindC one is) g own) (σ : L2.St) (H : Hp) (Q : VK) (w : rd G E (eCompK mi own one is t ma) σ H Q) : tLc (rdI G E mi) g (rdT G EW t) (rd G EW ma) own σ H (Leave Q) :=
  rd_compG (fun acc h2 => .ok (.kl acc) h2) hb σ H Q (Leave Q) (fun ρ1 H1 ρ2 H2 h2 L acc dacc hL g2 r2 n2 e2 q2 w2 => leave_comp hL g2 r2 n2 e2 q2 w2) w
section
variable {tg it elt : Expr} {ifs : List Expr} {scope : Scope} {own : List (Str × Nat)} {mi : MI} {t : MT} {one : Bool} {is : List Nat} {g : TG}
theorem me_compK (hc : X.calm = true) (hN : X.N.Nodup) (hi : PI X tg it (rdI G E mi)) (ok : BlkOk X.N X.env.scope scope own) (hbd : BdOk G (bindC one is) g (own.map (·.2)))
    (hg : ∀ (s : Shared) (H : Hp) (C : Addr) (cl : List (Str × Addr)) (fp : List Addr), PG (X.blk s H scope (compEnvC scope cl C X.env) fp) tg g) (ht : ∀ (s : Shared) (H : Hp) (C : Addr) (cl : List (Str × Addr)) (fp : List Addr), PTs (X.blk s H scope (compEnvC scope cl C X.env) fp) ifs (rdT G EW t))
    (he : ∀ (s : Shared) (H : Hp) (C : Addr) (cl : List (Str × Addr)) (fp : List Addr), PE (X.blk s H scope (compEnvC scope cl C X.env) fp) elt (rd G EW ma)) (hs : ∀ x, foldedSetIterable it X.env x = pure x := by intro _; rfl) :
    PE X (.ListComp elt [⟨tg, it, ifs, 0⟩] scope pos) (rd G E (eCompK mi (own.map (·.2)) one is t ma)) := pe_w (pe_frz (pe_lc hc hN hi ok hg ht he hs)) (rd_compK hbd)
theorem ms_setCompK (i : Nat) {y : Str} {py spos : Pos} (hc : X.calm = true) (hN : X.N.Nodup) (hy : X.N[i]? = some y) (hyl : X.env.scope.names.lookup y = some .local) (hsw : swapsWith (.ListComp elt [⟨tg, it, ifs, 0⟩] scope pos) (some (.Name y py)) spos.line X.env = pure true)
    (hi : PI X tg it (rdI G E mi)) (ok : BlkOk X.N X.env.scope scope own) (hbd : BdOk G (bindC one is) g (own.map (·.2)))
    (hg : ∀ (s : Shared) (H : Hp) (C : Addr) (cl : List (Str × Addr)) (fp : List Addr), PG (X.blk s H scope (compEnvC scope cl C X.env) fp) tg g) (ht : ∀ (s : Shared) (H : Hp) (C : Addr) (cl : List (Str × Addr)) (fp : List Addr), PTs (X.blk s H scope (compEnvC scope cl C X.env) fp) ifs (rdT G EW t))
    (he : ∀ (s : Shared) (H : Hp) (C : Addr) (cl : List (Str × Addr)) (fp : List Addr), PE (X.blk s H scope (compEnvC scope cl C X.env) fp) elt (rd G EW ma)) (hs : ∀ x, foldedSetIterable it X.env x = pure x := by intro _; rfl) :
    PS X (.Assign [.Name y py] (.ListComp elt [⟨tg, it, ifs, 0⟩] scope pos) spos) (rdS G E (sAsg (eCompK mi (own.map (·.2)) one is t ma) (gN i))) :=
  ps_w (ps_frz (ps_setLc hc hN hy hyl hsw hi ok hg ht he hs)) fun D σ H ⟨ρ, env, h, hs, hr, w⟩ => by
    let Q : VK := fun v H1 => D.nx (σ.set i (some v)) H1
    refine rd_compG (fun acc h2 => .ok (.kl acc) h2) hbd σ H Q (fun v H1 => ∃ a vs, H1 a = some (.lst vs) ∧ ∀ o, Q v (upd H1 a (.frz o (.lst vs)))) (fun ρ1 H1 ρ2 H2 h2 L acc dacc hL g2 r2 n2 e2 q2 w2 => ?_) ⟨ρ, env, h, hs, hr, ?_⟩
    · obtain ⟨a, vs, e0, e1, q⟩ := leave_comp (Q := Q) hL g2 r2 n2 e2 q2 w2
      exact ⟨a, vs, e1, q⟩
    · exact Wp.stm hs w fun x h1 ρ1 H1 v g1 r1 q1 w1 => (show WpS G E (.nx (env.set i (some x)) h1) ρ1 H1 D from w1) ρ1 H1 _ (Grow.refl _ _) r1 ((hs.grow g1).set q1 i)
end
theorem Grow.frzAt {ρ : List Addr} {H : Hp} {h : Hm} (r : HRel G ρ H h) {l : Nat} {p : Addr} {vs : List V} (hl : ρ[l]? = some p) (hu : H p = some (.lst vs)) (o : Obj) : Grow ρ H ρ (upd H p (.frz o (.lst vs))) ∧ HRel G ρ (upd H p (.frz o (.lst vs))) (h.del l) := by
  have g := Grow.put r hl hu trivial (.frz o (.lst vs))
  refine ⟨g, r.len, r.inj, fun b m => ?_, fun k v e => ?_, r.tabs.put hu trivial, fun q hq => (r.root q hq).trans g.ext⟩
  · by_cases hb : b = p
    · exact ⟨_, by rw [hb]; exact upd_same⟩
    · obtain ⟨u, e⟩ := r.has b m
      exact ⟨u, by rw [upd_ne hb]; exact e⟩
  · have e' : (if k = l then none else h.g k) = some v := e
    by_cases hk : k = l
    · rw [if_pos hk] at e'
      cases e'
    · rw [if_neg hk] at e'
      obtain ⟨b, e1, q1⟩ := r.obj k v e'
      refine ⟨b, e1, q1.grow g (upd_ne ?_)⟩
      rintro rfl
      exact hk (r.inj k l b e1 hl)
theorem me_frz (h : PE X a (rd G E ma)) : PE X a (rd G E (eFrz ma)) :=
  pe_w (pe_frzO h) fun σ H Q ⟨ρ, env, hh, hs, hr, w⟩ => ⟨ρ, env, hh, hs, hr, by
    have k : Wp G (atW E σ) (VRel G) (ma env hh) ρ H (fun v H1 => Leave Q v H1 ∨ Q v H1) := w.seq fun x h1 ρ1 H1 v g1 r1 q1 w1 => by
      unfold frzR at w1
      split at w1
      · split at w1 <;> first | exact False.elim w1 | skip
        rename_i l xs e
        cases q1 with
        | @loc p _ hl =>
          obtain ⟨vs, e2, k2⟩ := r1.at e hl
          refine .inl ⟨p, vs, rfl, e2, fun o => ?_⟩
          obtain ⟨g, r2⟩ := Grow.frzAt r1 hl e2 o
          exact w1 ρ1 _ _ g r2 (.kl (.inl ⟨o, upd_same⟩) (k2.grow g))
      · exact .inr (Wp.val w1 r1 q1)
    exact k⟩
def LX (K : PySem.W.Frag) (H : Hp) (p : Addr) (xs : List V) : Prop := H p = some (.lst xs) ∨ SqK K H p xs
theorem lx_at {pins : List (Addr × Obj)} {σ : L2.St} {H : Hp} {s : Shared} {p : Addr} {xs : List V} (I : Inv X pins σ H s) (h : LX X.K H p xs) : xs.length ≤ sizeLine ∧ ∃ (its : List Value) (n : Nat), Vals xs its ∧ xs.length = its.length ∧ s.heap.get? p = some { cls := .type "list", data := .seq its.toArray n } := by
  rcases h with h | ⟨o, h⟩ | ⟨its, n, h1, h2, h3⟩
  · exact I.lstM h
  · obtain ⟨z, its, n, r, e⟩ := (Rd.ok (.inr ⟨o, h⟩) I.hok : ObjOk X.prog X.w H s.heap p (.lst xs))
    exact ⟨z, its, n, r, r.length, e⟩
  · refine ⟨?_, its.toList, n, h3, h3.length, by simpa using I.kIn p _ h1⟩
    have e := h3.length
    simp only [Array.length_toList] at e
    omega
theorem seq_lx {ρ : List Addr} {H : Hp} {h : Hm} (r : HRel G ρ H h) {x : D} {v : V} {ds : List D} (e : h.seq x = some ds) (q : VRel G ρ H v x) : ∃ p vs, v = .ref p ∧ LX G.K H p vs ∧ VRels G ρ H vs ds := by
  cases q with
  | kl h1 h2 =>
    cases (show some _ = some ds from e)
    exact ⟨_, _, rfl, .inr h1, h2⟩
  | @loc p l ha =>
    have e' : (match h.g l with | some (.lst xs) => some xs | _ => none) = some ds := e
    split at e'
    · rename_i xs e1
      cases e'
      obtain ⟨vs, e2, q⟩ := r.at e1 ha
      exact ⟨p, vs, rfl, .inl e2, q⟩
    · cases e'
  | _ => cases e
def rCatX (K : PySem.W.Frag) : R2 := fun x y H Q => ∃ p q xs zs, x = .ref p ∧ y = .ref q ∧ LX K H p xs ∧ LX K H q zs ∧ xs.length + zs.length ≤ sizeLine ∧ ∀ p', H p' = none → Q (.ref p') (upd H p' (.lst (xs ++ zs)))
theorem op_catX : OpR X (binaryOp .Add) (rCatX X.K) := by
  intro pins s σ H x y v u Q I rx ry h
  obtain ⟨p, q, xs, zs, rfl, rfl, hp, hq, hz, k⟩ := h
  cases rx
  cases ry
  obtain ⟨_, its, n, r, l1, e1⟩ := lx_at I hp
  obtain ⟨_, jts, m, r2, l2, e2⟩ := lx_at I hq
  refine PySem.P.add_list e1 e2 ?_ (by rw [List.size_toArray, List.size_toArray, ← l1, ← l2]; exact hz)
  rw [show its.toArray ++ jts.toArray = (its ++ jts).toArray by simp]
  exact ⟨.ref _, _, I.lnew (t' := s.toks) (r.append r2) (by rw [List.length_append]; exact hz), rfl, k _ I.fresh⟩
def rAddX (K : PySem.W.Frag) : R2 := fun x y H Q => rI0 (fun i j => .int (i + j)) x y H Q ∨ (∃ i j, x = .str i ∧ y = .str j ∧ i.length + j.length ≤ sizeLine ∧ Q (.str (i ++ j)) H) ∨ rCatA K x y H Q ∨ rCatX K x y H Q
theorem op_addX : OpR X (binaryOp .Add) (rAddX X.K) := op_add.or (op_add_str.or (op_catA.or op_catX))
end
section
variable {X : Cx} {e : Expr} {t t' : TE}
theorem opr_frz {f : Value → Value → Sem Value} {r : R2} (h : OpR X f r) : OpR X f (fun x y H Q => r x y H fun v H1 => Leave Q v H1 ∨ Q v H1) := by
  intro pins s σ H x y v u Q I rx ry hw
  refine thn (h pins s σ H x y v u _ I rx ry hw) fun v s1 ⟨x, H1, I1, r, q⟩ => ?_
  rcases q with ⟨a, vs, e0, e1, q⟩ | q
  · obtain ⟨od, I2⟩ := I1.lock e1 trivial
    exact ⟨x, _, I2, r, q od⟩
  · exact ⟨x, _, I1, r, q⟩
end
section
variable {G : Gm} {E : WM}
theorem os_addW {Q : VK} {ρ : List Addr} {H : Hp} {h : Hm} {x y : D} {v u : V} {E' : XK} {nw : List D → R D} (f : R D) (hf : f = (match x, y with
    | .int i, .int j => .ok (.int (i + j)) h
    | .str a, .str b => ifR (decide (a.length + b.length ≤ SL)) (.ok (.str (a ++ b)) h)
    | .tup a, .tup b => ifR (decide (a.length + b.length ≤ SL)) (.ok (.tup (a ++ b)) h)
    | x, y => match h.seq x, h.seq y with
      | some xs, some ys => ifR (decide (xs.length + ys.length ≤ SL)) (nw (xs ++ ys))
      | _, _ => .bad)) (r : HRel G ρ H h) (q1 : VRel G ρ H v x) (q2 : VRel G ρ H u y) (w : Wp G E' (VRel G) f ρ H Q) (Q' : VK) (hQ : ∀ v H, Q v H → Q' v H)
    (hn : ∀ vs ds p, VRels G ρ H vs ds → H p = none → Wp G E' (VRel G) (nw ds) ρ H Q → Q' (.ref p) (upd H p (.lst vs))) : rAddX G.K v u H Q' := by
  subst hf
  split at w
  · cases q1
    cases q2
    exact .inl ⟨_, _, rfl, rfl, hQ _ _ (w.val r (.int _))⟩
  · cases q1
    cases q2
    obtain ⟨c, w⟩ := Wp.ifR w
    exact .inr (.inl ⟨_, _, rfl, rfl, sl_le (of_decide_eq_true c), hQ _ _ (w.val r (.str _))⟩)
  · cases q1 with
    | tup h1 k1 =>
      cases q2 with
      | tup h2 k2 =>
        obtain ⟨c, w⟩ := Wp.ifR w
        have c := of_decide_eq_true c
        rw [← k1.length, ← k2.length] at c
        have kk := k1.append k2
        refine .inr (.inr (.inl ⟨_, _, _, _, rfl, rfl, h1, h2, sl_le c, fun z => ?_, fun _ z => ?_, fun _ _ p hp => ?_⟩))
        · subst z
          cases k1
          exact hQ _ _ (w.val r (.tup h2 k2))
        · subst z
          cases k2
          rw [List.append_nil] at w
          exact hQ _ _ (w.val r (.tup h1 k1))
        · exact hQ _ _ (w ρ _ _ (Grow.tmp hp _) (r.tmp hp _) (.tup (SqT.of upd_same) (kk.grow (Grow.tmp hp _))))
  · split at w
    · rename_i xs ys e1 e2
      obtain ⟨c, w⟩ := Wp.ifR w
      have c := of_decide_eq_true c
      obtain ⟨p, vs, rfl, hp, k1⟩ := seq_lx r e1 q1
      obtain ⟨q, us, rfl, hq, k2⟩ := seq_lx r e2 q2
      exact .inr (.inr (.inr ⟨p, q, vs, us, rfl, rfl, hp, hq, by rw [k1.length, k2.length]; exact sl_le c, fun p' hp' => hn _ _ _ (k1.append k2) hp' w⟩))
    · exact False.elim w
theorem os_addM : OpS G E (rAddX G.K) opAddM := by
  intro τ ρ H h x y v u Q r q1 q2 w
  exact os_addW (E' := atW E τ) (nw := fun ds => .ok (.loc h.n) (h.new (.lst ds))) (opAddM x y h) rfl r q1 q2 w Q (fun _ _ z => z) fun vs ds p k hp w => w.newL r k hp
theorem os_addK : OpS G E (fun x y H Q => rAddX G.K x y H fun v H1 => Leave Q v H1 ∨ Q v H1) opAddK := by
  intro τ ρ H h x y v u Q r q1 q2 w
  exact os_addW (E' := atW E τ) (nw := fun ds => .ok (.kl ds) h) (opAddK x y h) rfl r q1 q2 w _ (fun _ _ z => .inr z) fun vs ds p k hp w => .inl (Leave.new w r k hp)
theorem os_mulK : OpS G E (fun x y H Q => (fun x y H Q => rI CMul (fun i j => .int (i * j)) x y H Q ∨ rRep x y H Q) x y H fun v H1 => Leave Q v H1 ∨ Q v H1) opMulK := by
  intro τ ρ H h x y v u Q r q1 q2 w
  cases q1 with
  | int i =>
    cases q2 with
    | int j =>
      obtain ⟨c, w⟩ := Wp.ifR w
      exact .inl ⟨i, j, rfl, rfl, (of_decide_eq_true c : (-(2 ^ 64) < i ∧ i < 2 ^ 64) ∨ (-(2 ^ 64) < j ∧ j < 2 ^ 64)), .inr (w.val r (.int _))⟩
    | _ => exact False.elim w
  | loc ha =>
    cases q2 with
    | int k =>
      simp only [opMulK] at w
      split at w <;> first | exact False.elim w | skip
      rename_i e3
      obtain ⟨vs, e5, k5⟩ := r.at e3 ha
      obtain ⟨c, w⟩ := Wp.ifR w
      obtain ⟨c1, c2, c3⟩ := of_decide_eq_true c
      exact .inr ⟨_, k, vs, rfl, rfl, e5, c1, c2, by rw [k5.length]; exact sl_le c3, fun p hp => .inl (Leave.new w r (k5.rep _) hp)⟩
    | _ => exact False.elim w
  | _ => cases q2 <;> exact False.elim w
end
section
variable {G : Gm} {E : WM} {X : Cx} {a b : Expr} {ma mb : ME} {pos : Pos}
theorem me_addM (hK : X.K = G.K) (ha : PE X a (rd G E ma)) (hb : PE X b (rd G E mb)) : PE X (.BinOp a .Add b pos) (rd G E (eOp opAddM ma mb)) := me_op op_addX (by rw [hK]; exact os_addM) ha hb
theorem me_addK (hK : X.K = G.K) (ha : PE X a (rd G E ma)) (hb : PE X b (rd G E mb)) : PE X (.BinOp a .Add b pos) (rd G E (eOp opAddK ma mb)) := me_op (opr_frz op_addX) (by rw [hK]; exact os_addK) ha hb
theorem me_mulK (ha : PE X a (rd G E ma)) (hb : PE X b (rd G E mb)) : PE X (.BinOp a .Mult b pos) (rd G E (eOp opMulK ma mb)) := me_op (opr_frz op_mulU) os_mulK ha hb
end
end Mo
end
section
set_option maxHeartbeats 4000000
namespace Mo
section
open PySem PySem.W PySem.Calls PyProof.Rows PySem.HandSPX Builtin Builtin.ObjectAttr
variable {prog : Program} {w : World} {A : Around} {R : Result → Shared → Prop} {hp : Heap} {g : Array GenState} {d : Drawn} {t : Nat} {os : OsState} {K : W.Frag} {name : Str} {tk : Tok} {v : Value} {x C : Addr} {fv : Array Value} {cd : ClassData}
theorem osa_first (X : K.In hp) (hx : hp.get? x = some { cls := .ref C, data := .fields fv }) (hcd : W.clsIn K C = some cd) (pass : ∀ self, refuseLoop self "__setattr__" cd.mro = pure ()) (hob : cd.mro.contains (.type "object") = true) (hne : cd.mro.isEmpty = false) (hh : cd.hasDict = true) (ha : W.findIn K (.ref C) name = some none)
    (hq : ∀ h' tk' dx, (∀ b o, b ≠ x → hp.get? b = some o → h'.get? b = some o) → hp.objs.size ≤ dx → dx ≠ x → h'.get? x = some { cls := .ref C, dict := some dx, data := .fields fv } → h'.Ns1 dx (fun y => if y = name then some v else none) → R (.ok (.ret .none)) ⟨h', g, d, tk', os⟩) :
    codeAny (model prog w) A (.call (.builtin "object.__setattr__") ⟨[.ref x, .str name tk, v], []⟩) R ⟨hp, g, d, t, os⟩ := by
  have J : W.InstAt hp x { cls := .ref C, data := .fields fv } C none := ⟨hx, rfl, rfl, trivial⟩
  have hxs : x ≠ hp.objs.size := Nat.ne_of_lt (Heap.lt_size hx)
  have sub : W.Looks (model prog w) hp (isInstance (.ref x) (.type "object")) true := J.type.andThen (W.looks_mroIn X (by unfold W.mroIn; rw [hcd, Option.bind_some, if_neg (by rw [hne]; decide), hob]))
  refine codeAny_call_builtin F.store_object.slot.plain F.store_object.entry (@W.check_slot (model prog w) _ _ ⟨hp, g, d, t, os⟩ "object.__setattr__" "object" "__setattr__" (.ref x) [.str name tk, v] [] _ F.store_object.kind F.store_object.split sub (F.store_object.args (.ref x) (.str name tk) v) ?_)
  have hmr : W.Looks (model prog w) hp (mroOf (.ref C)) cd.mro := (W.looks_clsIn X hcd).andThen .now
  have ht : W.Looks (model prog w) hp (storeTaker? none) none := .now
  have hcls : W.Looks (model prog w) hp (classData C) cd := W.looks_clsIn X hcd
  rw [W.osa_eq, refuse_eq]
  refine wpAny_bind (wpAny_bind (J.type.at (wpAny_bind (hmr.at ?_))))
  rw [pass]
  refine wpAny_pure (wpAny_bind (J.type.at (wpAny_bind ((W.looks_findIn X ha).at (wpAny_bind (ht.at ?_))))))
  show wpAny _ _ (storeInOwnDict (.ref x) (.ref C) (.str name tk) name v false) _ _ _
  obtain ⟨nm, bs, mro, ns, qn, hd, sn, sb, ab, col, del⟩ := cd
  simp only at hh
  subst hh
  unfold storeInOwnDict ownDictForStores
  repeat (first | (with_reducible refine store_in_new ?_ ?_) | (with_reducible refine wpAny_loadPart_at hx ?_) | (with_reducible refine hcls.at ?_) | wp_step)
  · exact ⟨_, #[], _, Eq.trans (Heap.get?_update_ne _ _ _ _ hxs.symm) (Heap.get?_push_at rfl rfl), rfl, (fun e he => absurd he (by simp)), fun _ => rfl⟩
  · intro h' tk' hn' hs
    have hx1 : (hp.push { cls := .type "dict", data := .dict #[] }).get? x = some { cls := .ref C, data := .fields fv } := Heap.get?_push_of_some _ hx
    refine hq h' tk' hp.objs.size (fun b o hb ho => Eq.trans (hs.2 b (Nat.ne_of_lt (Heap.lt_size ho))) (Eq.trans (Heap.get?_update_ne _ _ _ _ hb) (Heap.get?_push_of_some _ ho))) (Nat.le_refl _) hxs.symm ?_ hn'
    exact Eq.trans (hs.2 x hxs) (Heap.get?_update_self _ hx1 rfl)
theorem osa_more {dx : Addr} {m0 : Str → Option Value} {nl : List Str} (X : K.In hp) (hx : hp.get? x = some { cls := .ref C, dict := some dx, data := .fields fv }) (hns : hp.Ns1 dx m0) (hw : Within m0 nl) (hz : nl.length ≤ 1000) (hcd : W.clsIn K C = some cd) (pass : ∀ self, refuseLoop self "__setattr__" cd.mro = pure ())
    (hob : cd.mro.contains (.type "object") = true) (hne : cd.mro.isEmpty = false) (hh : cd.hasDict = true) (ha : W.findIn K (.ref C) name = some none) (hq : ∀ h' tk', (∀ b o, b ≠ dx → hp.get? b = some o → h'.get? b = some o) → h'.Ns1 dx (fun y => if y = name then some v else m0 y) → R (.ok (.ret .none)) ⟨h', g, d, tk', os⟩) :
    codeAny (model prog w) A (.call (.builtin "object.__setattr__") ⟨[.ref x, .str name tk, v], []⟩) R ⟨hp, g, d, t, os⟩ := by
  obtain ⟨oD, esD, epD, hoD, hdD, hcD⟩ := hns.count hw
  have J : W.InstAt hp x { cls := .ref C, dict := some dx, data := .fields fv } C (some oD) := ⟨hx, rfl, rfl, hoD⟩
  have sub : W.Looks (model prog w) hp (isInstance (.ref x) (.type "object")) true := J.type.andThen (W.looks_mroIn X (by unfold W.mroIn; rw [hcd, Option.bind_some, if_neg (by rw [hne]; decide), hob]))
  refine codeAny_call_builtin F.store_object.slot.plain F.store_object.entry (@W.check_slot (model prog w) _ _ ⟨hp, g, d, t, os⟩ "object.__setattr__" "object" "__setattr__" (.ref x) [.str name tk, v] [] _ F.store_object.kind F.store_object.split sub (F.store_object.args (.ref x) (.str name tk) v) ?_)
  have hmr : W.Looks (model prog w) hp (mroOf (.ref C)) cd.mro := (W.looks_clsIn X hcd).andThen .now
  have ht : W.Looks (model prog w) hp (storeTaker? none) none := .now
  have hcls : W.Looks (model prog w) hp (classData C) cd := W.looks_clsIn X hcd
  rw [W.osa_eq, refuse_eq]
  refine wpAny_bind (wpAny_bind (J.type.at (wpAny_bind (hmr.at ?_))))
  rw [pass]
  refine wpAny_pure (wpAny_bind (J.type.at (wpAny_bind ((W.looks_findIn X ha).at (wpAny_bind (ht.at ?_))))))
  show wpAny _ _ (storeInOwnDict (.ref x) (.ref C) (.str name tk) name v false) _ _ _
  obtain ⟨nm, bs, mro, ns, qn, hd, sn, sb, ab, col, del⟩ := cd
  simp only at hh
  subst hh
  unfold storeInOwnDict ownDictForStores
  repeat (first | (with_reducible refine PySem.OEX.store_in_old hns hw hz ?_) | (with_reducible refine wpAny_loadPart_at hx ?_) | (with_reducible refine hcls.at ?_) | wp_step)
  intro h' tk' hn' hs
  exact hq h' tk' (fun b o hb ho => Eq.trans (hs.2 b hb) ho) hn'
end
section
open PySem L2 PyProof.Rows
structure ExT (K : PySem.W.Frag) (C : Addr) (tl : List Value) (newId : String) : Prop where
  cls : ∃ nm q N bs bm sn sub ab col dd k0 k1 k2 k3 k5, K.lookup C = some (excClassObj nm q C N bs bm true sn sub ab col dd k0 k1 k2 k3 k5 newId) ∧ PySem.W.excTail tl bm = true
  sa : PySem.W.findIn K (.ref C) "__setattr__" = some (some (.builtin "object.__setattr__"))
  exC : PySem.W.subIn K (.ref C) (.type "BaseException") = some true
  tyC : PySem.W.typeIn K (.ref C) = some (.type "type")
  kC : PySem.W.keepIn K (.ref C) = true
structure BaF (B newId initId : String) (tl : List Value) : Prop where
  ex : ExcBaseFacts B newId initId tl
  pass : ∀ self, refuseLoop self "__setattr__" tl = pure ()
  ob : tl.contains (.type "object") = true
theorem ba_AE : BaF "ArithmeticError" "ArithmeticError.__new__" "ArithmeticError.__init__" [.type "ArithmeticError", .type "Exception", .type "BaseException", .type "object"] := ⟨F.excBase_ArithmeticError, F.store_ArithmeticError.passes, by decide +kernel⟩
theorem ba_LE : BaF "LookupError" "LookupError.__new__" "LookupError.__init__" [.type "LookupError", .type "Exception", .type "BaseException", .type "object"] := ⟨F.excBase_LookupError, F.store_LookupError.passes, by decide +kernel⟩
variable {B newId initId : String} {tl : List Value} {X : Cx} {pins : List (Addr × Obj)} {σ : L2.St} {H : Hp} {s : Shared} {a C dx : Addr} {f : Str} {y : V} {u : Value} {fs : List (Str × V)} {E : Value → Shared → Prop} {A : Around}
theorem xst_new {Q : Unit → Shared → Prop} (Fb : BaF B newId initId tl) (T : ExT X.K C tl newId) (I : Inv X pins σ H s) (e : H a = some (exo a C none)) (hno : PySem.W.findIn X.K (.ref C) f = some none) (ry : RelV y u)
    (h : ∀ dx s', H dx = none → dx ≠ a → Inv X pins σ (upd (upd H dx (exd dx [(f, y)])) a (exo a C (some dx))) s' → Q () s') : wpAny (model X.prog X.w) A (setAttr (.ref a) f u) Q E s := by
  obtain ⟨nm, q, N, bs, bm, sn, sub, ab, col, dd, k0, k1, k2, k3, k5, hC, hbm⟩ := T.cls
  have hcl : PySem.W.clsIn X.K C = some { name := nm, bases := bs, mro := .ref C :: bm, ns := N, qualname := q, hasDict := true, slotNames := sn, subclasses := sub, abstract := ab, collection := col, hasDel := false } := by
    unfold PySem.W.clsIn
    rw [hC] <;> rfl
  obtain ⟨t1, ho⟩ := exo_at I.hok e
  obtain ⟨hp, g, d, t, os⟩ := s
  have tlk : PySem.W.excTail tl (Value.ref C :: bm) = true := hbm
  refine PySem.W.set_plain I.kIn (ox := { cls := .ref C, dict := none, data := .fields #[.ref t1, .none, .none, .none, .bool false, .none] }) (od := none) ⟨ho, rfl, rfl, trivial⟩ T.sa (osa_first I.kIn ho hcl (fun self => PySem.W.excTail_pass self (Fb.pass self) _ tlk) (Eq.trans (PySem.W.excTail_contains "object" _ tlk) Fb.ob) rfl rfl hno fun h' tk' dx k dn dne hx hn => ?_)
  have hnd : H dx = none := I.hok.fresh dn
  have nd : ∀ {b : Addr} {o : Obj}, hp.get? b = some o → b ≠ dx := fun {b o} q => Nat.ne_of_lt (Nat.lt_of_lt_of_le (Heap.lt_size q) dn)
  have na : ∀ {b : Addr}, H b = none → b ≠ a := fun {b} n z => by rw [z, e] at n; cases n
  have U : Un X.fs [] H (upd (upd H dx (exd dx [(f, y)])) a (exo a C (some dx))) hp h' := by
    refine ⟨fun b o q n _ _ => k b o (na n) q, fun b o q n _ _ => ⟨o.slots, k b o (na n) q⟩, fun b o q n _ => ?_, fun b o q _ => ?_, fun b xs q => ?_, fun b o v q => ?_, fun b ps q => ⟨#[], ?_⟩⟩
    · rw [upd_ne (na n), upd_ne (nd q)]; exact n
    · by_cases hb : b = a
      · exact ⟨_, by rw [hb]; exact hx⟩
      · exact ⟨o, k b o hb q⟩
    · rw [upd_ne (at_ne e q exo_tup), upd_ne (ne_of_none q hnd)]; exact q
    · rw [upd_ne (at_ne e q exo_frz), upd_ne (ne_of_none q hnd)]; exact q
    · rw [upd_ne (at_ne e q exo_tbl), upd_ne (ne_of_none q hnd), q]; simp
  refine h dx _ hnd dne (I.un (t' := tk') U fun b o q => ?_)
  by_cases hb : b = a
  · subst hb; rw [upd_same] at q; cases q
    exact exo_ok hx
  · rw [upd_ne hb] at q
    by_cases hd : b = dx
    · subst hd; rw [upd_same] at q; cases q
      exact exd_ok hn (relO_put (fs := []) ry fun g => True.intro)
    · rw [upd_ne hd] at q
      refine (I.hok b o q).stay (fun c v hc z => k c v ?_ z) (fun c hc => ?_) (fun c xs hc => ?_)
      · rcases hc with hc | hc
        · rw [hc]; exact hb
        · exact at_ne e hc exo_own
      · rw [upd_ne (at_ne e hc exo_own), upd_ne (ne_of_none hc hnd)]; exact hc
      · rw [upd_ne (at_ne e hc exo_tup), upd_ne (ne_of_none hc hnd)]; exact hc
theorem xst_old {Q : Unit → Shared → Prop} (Fb : BaF B newId initId tl) (T : ExT X.K C tl newId) (I : Inv X pins σ H s) (e : H a = some (exo a C (some dx))) (ed : H dx = some (exd dx fs)) (hl : fs.length ≤ 900) (hno : PySem.W.findIn X.K (.ref C) f = some none) (ry : RelV y u)
    (h : ∀ s', Inv X pins σ (upd H dx (exd dx ((f, y) :: fs))) s' → Q () s') : wpAny (model X.prog X.w) A (setAttr (.ref a) f u) Q E s := by
  obtain ⟨nm, q, N, bs, bm, sn, sub, ab, col, dd, k0, k1, k2, k3, k5, hC, hbm⟩ := T.cls
  have hcl : PySem.W.clsIn X.K C = some { name := nm, bases := bs, mro := .ref C :: bm, ns := N, qualname := q, hasDict := true, slotNames := sn, subclasses := sub, abstract := ab, collection := col, hasDel := false } := by
    unfold PySem.W.clsIn
    rw [hC] <;> rfl
  obtain ⟨t1, ho⟩ := exo_at I.hok e
  obtain ⟨mA, hns, rel⟩ := exd_at I.hok ed
  have hw := within_of rel
  obtain ⟨hp, g, d, t, os⟩ := s
  obtain ⟨oD, _, _, hoD, _, _⟩ := hns.count hw
  have tlk : PySem.W.excTail tl (Value.ref C :: bm) = true := hbm
  refine PySem.W.set_plain I.kIn (ox := { cls := .ref C, dict := some dx, data := .fields #[.ref t1, .none, .none, .none, .bool false, .none] }) (od := some oD) ⟨ho, rfl, rfl, hoD⟩ T.sa
    (osa_more I.kIn ho hns hw (by rw [List.length_map]; omega) hcl (fun self => PySem.W.excTail_pass self (Fb.pass self) _ tlk) (Eq.trans (PySem.W.excTail_contains "object" _ tlk) Fb.ob) rfl rfl hno fun h' tk' k hn => ?_)
  have hd : ∃ o, h'.get? dx = some o := let ⟨o, _, _, e', _⟩ := hn; ⟨o, e'⟩
  exact h _ (I.write (t' := tk') (x := dx) (e := dx) (o := exd dx ((f, y) :: fs)) (by rw [ed]; exact True.intro) (.inl rfl) k hd (exd_ok hn (relO_put ry rel)))
theorem xinit {us : List Value} {Q : Value → Shared → Prop} (Fb : BaF B newId initId tl) (T : ExT X.K C tl newId) (I : Inv X pins σ H s) (e : H a = some (exo a C none)) (hl : us.length ≤ sizeLine) (h : ∀ s', Inv X pins σ H s' → Q .none s') :
    wpAny (model X.prog X.w) A (call (.builtin initId) (.ref a :: us)) Q E s := by
  obtain ⟨nm, q, N, bs, bm, sn, sub, ab, col, dd, k0, k1, k2, k3, k5, hC, hbm⟩ := T.cls
  obtain ⟨t1, ho⟩ := exo_at I.hok e
  obtain ⟨hp, g, d, t, os⟩ := s
  refine wpAny_call (PySem.HandSPX.init_base Fb.ex (fun Y => PySem.W.excTail_contains Y bm hbm) (I.kIn _ _ hC) ho hl fun h' t2 k hx => ?_)
  have J := I.write (t' := t) (x := a) (e := a) (o := exo a C none) (by rw [e]; exact True.intro) (.inl rfl) k ⟨_, hx⟩ (exo_ok hx)
  have eu : upd H a (exo a C none) = H := funext fun b => by
    by_cases hb : b = a
    · rw [hb, upd_same, e]
    · rw [upd_ne hb]
  rw [eu] at J
  exact h _ J
end
end Mo
end
section
set_option maxHeartbeats 4000000
namespace Mo
open PySem L2 PyProof.Rows He
section
variable {B newId initId : String} {tl : List Value} {X : Cx} {o e : Expr} {es : List Expr} {to te : TE} {ta : TA} {f x : Str} {p p' p1 p2 pos : Pos} {C0 : Addr}
def tXI (K : PySem.W.Frag) (tl : List Value) (newId : String) (ta : TA) : TE := fun σ H Q => ta σ H fun vs H1 => ∃ (a C : Addr) (ws : List V), vs = .ref a :: ws ∧ ws.length ≤ 1000 ∧ ExT K C tl newId ∧ H1 a = some (exo a C none) ∧ Q .non H1
theorem xi_args {pins : List (Addr × Obj)} {σ : L2.St} {H : Hp} {s : Shared} {Q : VK} (Fb : BaF B newId initId tl) (ha : PA X (e :: es) ta) (I : Inv X pins σ H s) (h : tXI X.K tl newId ta σ H Q)
    (he : starEach (e :: es) X.env = (false, eval e X.env) :: starEach es X.env) (hpl : (backTo pos (starEach es X.env)).any (·.1) = false) :
    wpAny (model X.prog X.w) X.A (callWith pos (Value.builtin initId) [] (backTo pos (starEach (e :: es) X.env)) []) (EP X pins σ Q) X.xe s := by
  refine PyProof.Rows.callWith_method1 (thn (ha.run pos pins _ σ H _ I h) fun us s1 ⟨vs, H1, I1, r1, a, C, ws, ev, hl, T, ea, q⟩ => ?_) he hpl
  subst ev
  cases r1 with
  | @cons _ u0 _ ur ra rw' =>
    obtain rfl : u0 = Value.ref a := ra
    exact xinit Fb T I1 ea (by rw [← Paired.length rw', sizeLine_eq]; omega) fun s' J => ⟨.non, H1, J, rfl, q⟩
theorem pe_binit {pl : Sem Bool} (Fb : BaF B newId initId tl) (hg : Gl X x) (hm : X.mg x = none) (hv : bootBuiltins x = some (.type B)) (hty : typeOf (.type B) = pure (.type "type")) (hst : Manifest.isStub B = false) (hh : PySem.W.handedIn (.builtin initId) = true)
    (vV : PySem.W.findCls X.K (.type B) (.type "type") "__init__" = some (.val (.builtin initId))) (ha : PA X (e :: es) ta) (hn : x ≠ "__name__" := by decide) (hdb : (x == ("__debug__" : Str)) = false := by decide)
    (hc : eval (.Call (.Attribute (.Name x p1) "__init__" p2) (e :: es) [] pos) X.env = (do
      let ov ← eval (.Name x p1) X.env
      standAt p2.atName
      let (f, first) ← holding [ov] (getMethod ov "__init__" pl)
      callWith pos f first (backTo pos (starEach (e :: es) X.env)) (backToKw pos (keywordEach [] X.env))) := by rfl)
    (he : starEach (e :: es) X.env = (false, eval e X.env) :: starEach es X.env := by rfl) (hpl : (backTo pos (starEach es X.env)).any (·.1) = false := by rfl) :
    PE X (.Call (.Attribute (.Name x p1) "__init__" p2) (e :: es) [] pos) (tXI X.K tl newId ta) := by
  refine ⟨fun pins s σ H Q I h => PySem.W.methodCall_KW (ld_blt I hg hm hv ?_ hn hdb) hc⟩
  obtain ⟨m, fr⟩ := I.fr
  exact PySem.W.method_type fr I.ok.mod.kin hty hst vV hh (xi_args Fb ha (I.tok _) h he hpl)
theorem pe_cinit {pl : Sem Bool} (Fb : BaF B newId initId tl) (hg : Gl X x) (hm : X.mg x = some (.ref C0)) (hsp : PySem.W.specialIn X.K (.ref C0) "__getattribute__" = some (some (.builtin "type.__getattribute__"))) (hr : PySem.W.readsIn X.K C0 (.type "type") = true) (hh : PySem.W.handedIn (.builtin initId) = true)
    (vV : PySem.W.findCls X.K (.ref C0) (.type "type") "__init__" = some (.val (.builtin initId))) (ha : PA X (e :: es) ta) (hdb : (x == ("__debug__" : Str)) = false := by decide)
    (hc : eval (.Call (.Attribute (.Name x p1) "__init__" p2) (e :: es) [] pos) X.env = (do
      let ov ← eval (.Name x p1) X.env
      standAt p2.atName
      let (f, first) ← holding [ov] (getMethod ov "__init__" pl)
      callWith pos f first (backTo pos (starEach (e :: es) X.env)) (backToKw pos (keywordEach [] X.env))) := by rfl)
    (he : starEach (e :: es) X.env = (false, eval e X.env) :: starEach es X.env := by rfl) (hpl : (backTo pos (starEach es X.env)).any (·.1) = false := by rfl) :
    PE X (.Call (.Attribute (.Name x p1) "__init__" p2) (e :: es) [] pos) (tXI X.K tl newId ta) :=
  ⟨fun pins s σ H Q I h => PySem.W.methodCall_KW (ld_glob I hg hm (PySem.W.method_cls I.kIn hsp (PySem.W.cls_value I.kIn hr vV hh (xi_args Fb ha (I.tok _) h he hpl))) hdb) hc⟩
def tXS (K : PySem.W.Frag) (tl : List Value) (newId : String) (f : Str) (to te : TE) : TS := fun D σ H => te σ H fun y H1 => to σ H1 fun x H2 => ∃ a C : Addr, x = .ref a ∧ ExT K C tl newId ∧ PySem.W.findIn K (.ref C) f = some none ∧
  ((H2 a = some (exo a C none) ∧ ∀ dx, H2 dx = none → dx ≠ a → D.nx σ (upd (upd H2 dx (exd dx [(f, y)])) a (exo a C (some dx)))) ∨
    ∃ (dx : Addr) (fs : List (Str × V)), H2 a = some (exo a C (some dx)) ∧ H2 dx = some (exd dx fs) ∧ fs.length ≤ 900 ∧ D.nx σ (upd H2 dx (exd dx ((f, y) :: fs))))
theorem ps_xst (Fb : BaF B newId initId tl) (ho : PE X o to) (he : PE X e te) (hs : swapsWith e (some (.Attribute o f p')) pos.line X.env = pure false := by rfl) : PS X (.Assign [.Attribute o f p'] e pos) (tXS X.K tl newId f to te) := by
  refine ⟨fun pins s σ H D I h => plainObj_wpAny_Assign_Attribute (thn (he.run pins s σ H _ I h) fun v s1 ⟨y, H1, I1, r1, q1⟩ => thn (ho.run pins s1 σ H1 _ I1 q1) fun u s2 ⟨x, H2, I2, r2, a, C, ex, T, hno, q⟩ => ?_) hs⟩
  subst ex
  obtain rfl : u = Value.ref a := r2
  rcases q with ⟨ea, q⟩ | ⟨dx, fs, ea, ed, hl, q⟩
  · exact xst_new Fb T I2 ea hno r1 fun dx s' n ne J => ⟨σ, _, J, q dx n ne⟩
  · exact xst_old Fb T I2 ea ed hl hno r1 fun s' J => ⟨σ, _, J, q⟩
theorem pmk_x {CX : CXT} {C fI : Addr} {k : Nat} {fd : FuncData} {ps : List Str} {sp : Sp} (Fb : BaF B newId initId tl) (T : ExT X.K C tl newId) (iC : PySem.W.findIn X.K (.ref C) "__init__" = some (some (.ref fI))) (tI : PySem.W.typeIn X.K (.ref fI) = some (.type "function"))
    (F1 : FnOk X.prog X.w X.K X.mg X.base CX k fI fd ps sp) (hr : Room (k + 1) X.A) (hb : Binds X.K fd ps []) (hx : Passes CX X (fun _ _ _ => False)) (hg : Gl X x) (hm : X.mg x = some (.ref C)) (ha : PA X (e :: es) ta)
    (hdb : (x == ("__debug__" : Str)) = false := by decide) (he : starEach (e :: es) X.env = (false, eval e X.env) :: starEach es X.env := by rfl) (hpl : (backTo pos (starEach es X.env)).any (·.1) = false := by rfl) :
    PMk X (.Call (.Name x p) (e :: es) [] pos) (tMkO C sp [] ta) := by
  intro pins s σ H Q I h
  obtain ⟨nm, q, N, bs, bm, sn, sub, ab, col, dd, k0, k1, k2, k3, k5, hC, hbm⟩ := T.cls
  refine wpAny_Call_Name_kw (ld_glob I hg hm (PySem.W.callWith_K (h₀ := X.base) I.ok.mod.kin T.kC (thn (ha.run pos pins s σ H _ I h) fun us s1 ⟨vs, H1, I1, r1, hz, q1⟩ => ⟨I1.kIn, ?_⟩) he hpl) hdb)
  show wpAny _ _ (call (.ref C) us) _ _ _
  obtain ⟨hp, g, dr, tk, os⟩ := s1
  have hsz : hp.objs.size ≤ hp.objs.size + 1 := Nat.le_succ _
  have hq := q1 (hp.objs.size + 1) (I1.hok.fresh hsz)
  have kk : ∀ b o, hp.get? b = some o → ((hp.push (PySem.W.kdv_tup us)).push (PySem.HandSPX.excO C hp.objs.size)).get? b = some o := fun b o z => Heap.get?_push_of_some _ (Heap.get?_push_of_some _ z)
  have hget : ((hp.push (PySem.W.kdv_tup us)).push (PySem.HandSPX.excO C hp.objs.size)).get? (hp.objs.size + 1) = some (PySem.HandSPX.excO C hp.objs.size) := by heap_get
  have I2 : Inv X pins σ (upd H1 (hp.objs.size + 1) (exo (hp.objs.size + 1) C none)) ⟨(hp.push (PySem.W.kdv_tup us)).push (PySem.HandSPX.excO C hp.objs.size), g, dr, tk, os⟩ := I1.laid (t' := tk) (a := hp.objs.size + 1) (o := exo (hp.objs.size + 1) C none) kk hsz (exo_ok hget)
  have r2 : Vals (V.ref (hp.objs.size + 1) :: (vs ++ [])) (Value.ref (hp.objs.size + 1) :: (us ++ [])) := .cons rfl (r1.append .nil)
  have hl : (Value.ref (hp.objs.size + 1) :: us ++ []).length = ps.length := by
    have z := r2.length
    rw [F1.len _ _ _ _ hq] at z
    exact z.symm
  have hus : us.length ≤ sizeLine := by rw [← Paired.length r1, sizeLine_eq]; omega
  refine wpAny_call (PySem.HandSPX.call_own Fb.ex (fun Y => PySem.W.excTail_contains Y bm hbm) (I1.kIn _ _ hC) (PySem.W.looks_findIn I1.kIn iC) (fun self => PySem.W.bind_fn I1.kIn self tI) hus
    (codeAny_mono (F1.run _ X.stack _ _ ⟨Value.ref (hp.objs.size + 1) :: us, []⟩ (Value.ref (hp.objs.size + 1) :: (us ++ [])) _ _ (fun _ _ _ => False) (hr.make C us []) (I2.env0.make C us []) (by have z := hb _ (Value.ref (hp.objs.size + 1) :: us) I2.kIn hl; rw [List.cons_append] at z; exact z) r2 hq) fun r s' hq' => ?_))
  cases r with
  | error er => exact hx pins σ _ _ er s' I2 hq'
  | ok fl =>
    cases fl with
    | ret u =>
      obtain ⟨v, H2, os2, bare2, un2, hok2, rv, ev, d, fs, ea, ed, hd1, q2⟩ := hq'
      subst ev
      obtain ⟨h2, g2, d2, t2, os'⟩ := s'
      exact ⟨rv, mk_end (raises_own T.exC T.tyC) I1 hsz kk un2 hok2 os2 bare2 ea ed hd1 q2⟩
    | _ => exact False.elim hq'
end
end Mo
end
section
namespace Mo
open PySem L2 PyProof.Rows He
def spX (C : Addr) (fsn : List Str) : Sp := fun vs H Q _ => ∃ (a : Addr) (ws : List V), vs = .ref a :: ws ∧ ws.length = fsn.length ∧ H a = some (exo a C none) ∧ ∀ d, H d = none → d ≠ a → Q .non (upd (upd H d (exd d (fsn.zip ws).reverse)) a (exo a C (some d)))
section
variable {P : Program} {w : World} {K : PySem.W.Frag} {mg : Str → Option Value} {base : Heap} {newId : String} {tl : List Value} {C f : Addr} {fd : FuncData} {x qual : Str} {params : Arguments} {body : List Stmt} {scope : Scope} {N ps : List Str} {k : Nat} {f1 f2 : Str}
def xB1 (K : PySem.W.Frag) (tl : List Value) (newId : String) (f1 : Str) : TS := tSeq (tDrop (tXI K tl newId (tCons (tVar 0) (tCons (tVar 1) tNil)))) (tXS K tl newId f1 (tVar 0) (tVar 1))
theorem xok1 (T : ExT K C tl newId) (h1 : PySem.W.findIn K (.ref C) f1 = some none) (F : FunD K x qual params body scope [] [] f fd) (hN : N.length = 2) (hps : ps.length = 2) (S : FnScope N ps scope)
    (hb : ∀ (cdv : Value) (A : Around) (outer : List PySem.Env) (s : Shared) (H : Hp) (E : XK), PSs (cxOf (L2.CX P w) P w K mg base N qual scope f cdv A outer s H E) body (xB1 K tl newId f1)) : FnOk P w K mg base (L2.CX P w) 1 f fd ps (spX C [f1]) := by
  refine F.ok S (fun vs H Q E h => ?_) fun cdv A outer s H vs Q E hr h => ⟨_, hb cdv A outer s H E, ?_⟩
  · obtain ⟨a, ws, rfl, e, _⟩ := h
    rw [List.length_cons, e, hps]
    rfl
  · obtain ⟨a, ws, rfl, e, ha, q⟩ := h
    obtain ⟨y, rfl⟩ : ∃ y, ws = [y] := match ws, e with | [y], _ => ⟨y, rfl⟩
    have es : L2.start N [V.ref a, y] = [some (.ref a), some y] := by
      unfold L2.start
      rw [hN]
      rfl
    rw [es]
    refine ⟨_, rfl, _, rfl, a, C, [y], rfl, (by show 1 ≤ 1000; decide), T, ha, ?_⟩
    refine ⟨_, rfl, _, rfl, a, C, rfl, T, h1, .inl ⟨ha, fun d nd ne => ?_⟩⟩
    exact q d nd ne
end
structure XC (P : Program) (w : World) (K : PySem.W.Frag) (mg : Str → Option Value) (base : Heap) (C : Addr) (fsn : List Str) : Prop where
  go : ∃ (B newId initId : String) (tl : List Value) (fI : Addr) (fd : FuncData) (ps : List Str), BaF B newId initId tl ∧ ExT K C tl newId ∧ PySem.W.findIn K (.ref C) "__init__" = some (some (.ref fI)) ∧ PySem.W.typeIn K (.ref fI) = some (.type "function") ∧
    FnOk P w K mg base (L2.CX P w) 1 fI fd ps (spX C fsn) ∧ L2.Binds K fd ps []
section
variable {G : Gm} {E : WM} {X : Cx} {e : Expr} {es : List Expr} {p pos cpos : Pos} {as : MA} {x : Str} {c : Nat} {fsn : List Str} {k : Nat}
theorem nzip {ρ : List Addr} {H : Hp} : ∀ {fsn : List Str} {vs : List V} {ds : List D}, VRels G ρ H vs ds → NRel G ρ H (fsn.zip vs) (fsn.zip ds)
  | [], _, _, _ => by simp only [List.zip_nil_left]; exact .nil
  | _ :: _, _, _, .nil => by simp only [List.zip_nil_right]; exact .nil
  | f :: fsn, _, _, .cons q qs => .cons ⟨rfl, q⟩ (nzip qs)
theorem paired_rev {α β : Type} {R : α → β → Prop} : ∀ {xs : List α} {ys : List β}, Paired R xs ys → Paired R xs.reverse ys.reverse
  | _, _, .nil => .nil
  | _, _, .cons r t => by
    rw [List.reverse_cons, List.reverse_cons]
    have app : ∀ {a b : List α} {c d : List β}, Paired R a c → Paired R b d → Paired R (a ++ b) (c ++ d) := fun {a b c d} h1 h2 => by
      induction h1 with
      | nil => exact h2
      | cons r t ih => exact .cons r ih
    exact app (paired_rev t) (.cons r .nil)
theorem del_exc {H1 : Hp} {a d : Addr} {o u v w' : HO} (ha : H1 a = none) (ne : d ≠ a) : upd (del (upd (upd (upd H1 a o) d u) a v) a) d w' = upd H1 d w' := by
  funext b
  unfold upd del
  by_cases e1 : b = d
  · simp [e1]
  · by_cases e2 : b = a
    · simp [e1, e2, ha]
    · simp [e1, e2]
theorem ms_raise (Y : XC X.prog X.w X.K X.mg X.base (G.cA c) fsn) (rg : RG k X.A) (hk : 2 ≤ k) (hc : X.calm = true) (tk : Takes X E) (hg : Gl X x) (hm : X.mg x = some (.ref (G.cA c))) (ha : PA X (e :: es) (rdA G E as)) (hs : fsn.length ≤ 1000)
    (hdb : (x == ("__debug__" : Str)) = false := by decide) (he : starEach (e :: es) X.env = (false, eval e X.env) :: starEach es X.env := by rfl) (hpl : (backTo cpos (starEach es X.env)).any (·.1) = false := by rfl) :
    PS X (.Raise (some (.Call (.Name x p) (e :: es) [] cpos)) none pos) (rdS G E (sRaise c fsn as)) := by
  obtain ⟨B, newId, initId, tl, fI, fd, ps, Fb, T, iC, tI, F1, hb⟩ := Y.go
  refine ps_w (ps_raise hc tk (pmk_x (k := 1) Fb T iC tI F1 (rg.r.mono hk) hb passL hg hm ha hdb he hpl)) fun D σ H ⟨ρ, env, h, hs', hr, w⟩ => ?_
  refine ⟨ρ, env, h, hs', hr, Wp.stm hs' w fun ds h1 ρ1 H1 vs g1 r1 q1 w1 => ?_⟩
  cases kd : decide (ds.length = fsn.length) with
  | false =>
    rw [kd] at w1
    exact False.elim w1
  | true =>
    rw [kd] at w1
    have kl := of_decide_eq_true kd
    have lv : vs.length = fsn.length := by rw [q1.length, kl]
    refine ⟨by rw [lv]; exact hs, fun a na => ?_⟩
    rw [List.append_nil]
    refine ⟨a, vs, rfl, lv, upd_same, fun d nd ne => ⟨rfl, d, (fsn.zip vs).reverse, upd_same, by rw [upd_ne ne]; exact upd_same, ?_, ?_⟩⟩
    · rw [upd_ne ne] at nd
      exact nd
    · have nd1 : H1 d = none := by rw [upd_ne ne] at nd; exact nd
      rw [del_exc na ne]
      have gg := Grow.new r1 nd1 (.xd (fsn.zip vs).reverse)
      refine w1 (ρ1 ++ [d]) _ d σ gg (r1.new nd1 (ho := .xd (fsn.zip vs).reverse) (o := .xd (fsn.zip ds).reverse) ⟨_, upd_same, ?_⟩) ((hs'.grow g1).grow gg) ?_
      · exact paired_rev (nzip (q1.grow gg))
      · rw [← r1.len]
        simp
end
end Mo
end
section
namespace Mo
open PySem L2 PyProof.Rows He
section
variable {X : Cx} {pins : List (Addr × Obj)} {σ : L2.St} {H : Hp} {s : Shared} {a C d : Addr}
theorem Inv.kept_exc (I : Inv X pins σ H s) (he : ∃ (vs : Array Value) (sl : Array (Option Value)), s.heap.get? a = some { cls := .ref C, dict := some d, data := .fields vs, slots := sl }) (na : H a = none) (nL : a ≠ X.env.locals) (n0 : ∀ o, X.s_0.heap.get? a ≠ some o) (np : ∀ p ∈ X.pn ++ pins, p.1 ≠ a) :
    Inv X pins σ (upd H a (exv a C d)) s := by
  have up : ∀ {b : Addr}, b ≠ a → upd H a (exv a C d) b = H b := fun h => upd_ne h
  refine ⟨I.ok, I.os, I.bare, ⟨I.base.keep, I.base.slot, fun b o e n x => ?_, I.base.there, fun b xs e => ?_, fun b o u e => ?_, fun b ps e => ?_⟩, I.loc, I.cell, ?_, fun x c e => ?_, fun p hp => ?_, fun b o e => ?_, I.len⟩
  · rw [up (fun z => n0 o (z ▸ e))]
    exact I.base.free b o e n x
  · have z := I.base.tups b xs e
    rw [up (ne_of_none z na)]
    exact z
  · have z := I.base.frzs b o u e
    rw [up (ne_of_none z na)]
    exact z
  · obtain ⟨more, z⟩ := I.base.tbls b ps e
    exact ⟨more, by rw [up (ne_of_none z na)]; exact z⟩
  · rw [up (Ne.symm nL)]
    exact I.free
  · have hc : c ≠ a := fun z => by
      obtain ⟨v, o, e1, e2⟩ := I.cell x c e
      obtain ⟨vs, sl, e3⟩ := he
      rw [z, e3] at e1
      cases e1
      cases e2
    rw [up hc]
    exact I.freeC x c e
  · obtain ⟨e1, e2, e3, e4, e5⟩ := I.pin p hp
    exact ⟨e1, by rw [up (np p hp)]; exact e2, e3, e4, e5⟩
  · by_cases hb : b = a
    · subst hb
      rw [upd_same] at e
      cases e
      obtain ⟨vs, sl, e3⟩ := he
      exact ⟨⟨vs, sl, e3⟩, ⟨_, e3⟩, fun h1 h2 ⟨vs', sl', z⟩ k => ⟨vs', sl', k _ z⟩⟩
    · rw [up hb] at e
      exact (I.hok b o e).stay (fun c v _ z => z) (fun c hc => by rw [up (ne_of_none hc na)]; exact hc) (fun c xs hc => by rw [up (ne_of_none hc na)]; exact hc)
theorem Inv.suiteT (I : Inv X pins σ H s) (a : Addr) : Inv (X.suite a (X.pn ++ pins)) [] σ H s :=
  ⟨I.ok.suite _ _, I.os, I.bare, I.base, I.loc, I.cell, I.free, I.freeC, (fun p hp => I.pin p (by rw [List.append_nil] at hp; exact hp)), I.hok, I.len⟩
theorem Inv.unsuiteT {pn' : List (Addr × Obj)} (I : Inv (X.suite a (X.pn ++ pins)) pn' σ H s) (ok : X.Ok) : Inv X pins σ H s :=
  ⟨ok, I.os, I.bare, I.base, I.loc, I.cell, I.free, I.freeC, (fun p hp => I.pin p (List.mem_append_left _ hp)), I.hok, I.len⟩
end
def wKeep (mt : Value → Option Bool) (i : Nat) (ts : TS) (Wout : WM) (D : Ends) : WM := fun cls d σ H =>
  ∃ (C d' : Addr) (b : Bool), cls = .ref C ∧ d = some d' ∧ mt cls = some b ∧ (b = true → ∀ a, H a = none → ts { nx := fun σ' H' => D.nx (σ'.set i none) H', rt := D.rt, bk := fun σ' H' => D.bk (σ'.set i none) H', ct := fun σ' H' => D.ct (σ'.set i none) H' } (σ.set i (some (.ref a))) (upd H a (exv a C d'))) ∧
    (b = false → Wout cls d σ H)
theorem flyZ_keeps {h h' B : Heap} {l : List PySem.Env} {a : Addr} {Z : Obj → Prop} (x : HandSPX.FlyingZ B l a Z h) (k : ∀ b o, h.get? b = some o → h'.get? b = some o) : HandSPX.FlyingZ B l a Z h' := by
  obtain ⟨f1, f2, f3, oe, vs, T, oT, ts, he, hz, hd, h1, hn, hne, hT, hdT, h3⟩ := x
  exact ⟨fun b o q => k b o (f1 b o q), f2, f3.of_keeps fun b o q _ => ⟨o, k b o q, rfl⟩, oe, vs, T, oT, ts, k _ _ he, hz, hd, h1, hn, hne, k _ _ hT, hdT, h3⟩
theorem nm_run {X : Cx} {x : Str} {c : Value} {np : Pos} {pins pn : List (Addr × Obj)} {a : Addr} {σ : L2.St} {H : Hp} {s : Shared} {Q : Value → Shared → Prop} {E : Value → Shared → Prop} (hc : Names X x c) (I : Inv (X.suite a pn) pins σ H s) (q : Q c s) :
    wpAny (model X.prog X.w) (X.A.mark (some (.ref a))) (eval (.Name x np) X.env) Q E s := by
  obtain ⟨hg, hdbg, hm | ⟨hm, hv, hnn⟩⟩ := hc
  · exact ld_glob (X := X.suite a pn) I hg hm q hdbg
  · exact ld_blt (X := X.suite a pn) I hg hm hv q hnn hdbg
theorem tst_one {X : Cx} {x : Str} {c : Value} {np : Pos} (hc : Names X x c) : Tst X (.Name x np) (fun cls => PySem.W.exmOne X.K cls c) := by
  intro pins pn a σ H s oe b Q E I he hb q
  have LT : PySem.W.Looks (model X.prog X.w) s.heap (typeOf (.ref a)) oe.cls := fun A Q E s k q => wpAny_typeOf_ref (k _ _ he) q
  exact nm_run hc I ((PySem.W.exm_one (M := model X.prog X.w) I.kIn LT hb).here (q s.heap fun _ _ z => z))
section
variable {X : Cx} {n : Str} {tst : Expr} {m : Value → Option Bool} {i : Nat} {body suite : List Stmt} {b₀ : Stmt} {np pos pos' : Pos} {tb : WM → TS} {ts : TS} {Wout : WM}
theorem ps_try_kept (hs : X.stack = X.env :: X.outer) (hf : X.env.frame = some X.env.locals) (hex : X.ex = []) (hN : X.N.Nodup) (hi : X.N[i]? = some n) (hln : X.env.kindOf n = some .local) (hc : Tst X tst m) (tk : Takes X Wout)
    (hb : ∀ (W : WM) (pn : List (Addr × Obj)) (xe : Value → Shared → Prop), Takes (X.tr pn xe) W → PassesOwn (model X.prog X.w) X.A X.env xe → PSs (X.tr pn xe) body (tb W)) (hsu : ∀ (a : Addr) (pn : List (Addr × Obj)), PSs (X.suite a pn) (b₀ :: suite) ts) :
    PS X (.Try body [.ExceptHandler (some tst) (some n) (b₀ :: suite) pos'] [] [] pos) (fun D σ H => tb (wKeep m i ts Wout D) D σ H) := by
  refine ⟨fun pins s σ H D I h => ?_⟩
  have ok := I.ok
  have hfr : X.A.frames = some (X.env :: X.outer) := ok.frames.trans (congrArg some hs)
  refine wpAny_Try_except (wpAny_mono ((hb (wKeep m i ts Wout D) (X.pn ++ pins) (fun e s₁ => wpAny (model X.prog X.w) X.A (noteFrame e X.env) (fun _ s₂ => wpAny (model X.prog X.w) X.A (setFlight e none) (fun _ s₃ =>
    wpAny (model X.prog X.w) X.A (handleBy e X.env [.ExceptHandler (some tst) (some n) (b₀ :: suite) pos']) (SP X pins D) X.xe s₃) X.xe s₂) X.xe s₁) (fun u s' xx => ?_) PassesOwn.looking).run [] s σ H D (I.toTry _) h) (fun f s1 hsp => ?_) (fun e s1 he => he))
  · obtain ⟨a, B, sI, pins', σ', H', cls, d, rfl, J', nb, up, sky, na, os, ag, C, d', b, rfl, rfl, hb1, hyes, hno⟩ := xx
    have J : Inv X pins σ' H' sI := J'.ofTry ok
    have sky' : Sky B (X.env :: X.outer) a (Zc (.ref C) (some d')) X.env.locals s'.heap := hs ▸ sky
    show wpAny (model X.prog X.w) X.A (noteFrame (.ref a) X.env) _ _ _
    refine Sky.land Zc.steady hfr hf sky' fun h3 fl3 up3 => ?_
    have J3 : Inv X pins σ' H' { s' with heap := h3 } := J.landed nb fl3.1 (up.trans up3) os ag
    obtain ⟨oe3, vs3, he3, hz3, hd3⟩ := fl3.there
    have nfr : a ∉ frs (X.env :: X.outer) := fun hm => by
      obtain ⟨_, o', e', hnf⟩ := fl3.2.2.1.mem hm
      rw [he3] at e'
      cases e'
      exact hnf _ hd3
    have nL : a ≠ X.env.locals := fun z => nfr (List.mem_filterMap.mpr ⟨X.env, List.mem_cons_self, by rw [hf, z]⟩)
    have noI : ∀ o, sI.heap.get? a ≠ some o := fun o e => by
      have z := nb a o e (by rw [hs]; exact nfr)
      rw [fl3.2.1] at z
      cases z
    have n0 : ∀ o, X.s_0.heap.get? a ≠ some o := fun o e => by
      obtain ⟨o', e'⟩ := J.base.there a o e (by rw [hex]; simp)
      exact noI o' e'
    have np' : ∀ p ∈ X.pn ++ pins, p.1 ≠ a := fun p hp z => noI p.2 (z ▸ (J.pin p hp).1)
    have keep : ∀ {h : Heap}, HandSPX.FlyingZ B (X.env :: X.outer) a (Zc (.ref C) (some d')) h → ∃ (vs : Array Value) (sl : Array (Option Value)), h.get? a = some { cls := .ref C, dict := some d', data := .fields vs, slots := sl } := fun {h} fl => by
      obtain ⟨⟨oc, od, oda, osl⟩, vs, e, ⟨z1, z2⟩, e2⟩ := fl.there
      simp only at z1 z2 e2
      subst z1 z2 e2
      exact ⟨vs, osl, e⟩
    have S3 : Inv (X.suite a (X.pn ++ pins)) [] σ' H' { s' with heap := h3 } := Inv.suiteT J3 a
    refine wpAny_handleBy_cons (codeAny_handlers_test ?_) (by intro q; cases q)
    refine hc S3 he3 (by rw [hz3.1]; exact hb1) fun h5 k5 => ?_
    have fl3 := flyZ_keeps fl3 k5
    have up3 := up3.trans (Heap.UpToSlots.of_keeps k5)
    clear S3
    cases b with
    | true =>
      refine codeAny_handlers_suite_as (HandSPX.lands_againZ fl3 fun h4 fl4 up4 => ?_)
      have J4 : Inv X pins σ' H' { s' with heap := h4 } := J.landed nb fl4.1 ((up.trans up3).trans up4) os ag
      have S4 := Inv.suiteT (Inv.kept_exc J4 (keep fl4) na nL n0 np') a
      refine store_ok (X := X.suite a (X.pn ++ pins)) (v := .ref a) S4 hN hi (.inl hln) rfl (fun s5 S5 => ?_) (.inr hln)
      refine wpAny_mono ((hsu a (X.pn ++ pins)).run [] s5 _ _ _ S5 (hyes rfl a na)) (fun f s6 hsp => ?_) (fun _ _ z => False.elim z)
      have fin : ∀ {σ6 : L2.St} {H6 : Hp} {Q : Shared → Prop}, Inv (X.suite a (X.pn ++ pins)) [] σ6 H6 s6 → (∀ s7, Inv X pins (σ6.set i none) H6 s7 → Q s7) → wpAny (model X.prog X.w) X.A (do bindName X.env n .none; unbindBehindTheSuite X.env n pos') (fun _ s7 => Q s7) X.xe s6 :=
        fun {σ6 H6 Q} S6 hq => gone_ok (Inv.unsuiteT S6 ok) hN hi hln hq
      cases f with
      | ret u =>
        obtain ⟨v6, σ6, H6, S6, r6, q6⟩ := hsp
        exact fin S6 fun s7 J7 => ⟨_, _, _, J7, r6, q6⟩
      | _ =>
        obtain ⟨σ6, H6, S6, q6⟩ := hsp
        exact fin S6 fun s7 J7 => ⟨_, _, J7, q6⟩
    | false =>
      show wpAny _ X.A (handleBy (.ref a) X.env []) _ _ _
      refine wpAny_handleBy_nil ?_
      obtain ⟨k1, k2, k3, oe, vs, T, oT, ts', he, hz, hd, h1, hr⟩ := id fl3
      unfold PySem.passOn
      refine wpAny_bind (wpAny_field he hd h1 ?_)
      rw [if_neg (show ¬ ((Value.ref T == Value.none) = true) by simp)]
      have fin : wpAny (model X.prog X.w) X.A (setFlight (.ref a) X.env.frame) (fun _ s4 => wpAny (model X.prog X.w) X.A (throw (.ref a) : Sem Flow) (SP X pins D) X.xe s4) X.xe { s' with heap := h5 } := by
        rw [hf]
        exact HandSPX.setFlight_upZ fl3 fun h4 hh4 up4 => wpAny_throw (tk _ _ ⟨a, B, sI, pins, σ', H', .ref C, some d', rfl, J, nb, (up.trans up3).trans up4, .inr (.inr (hs ▸ hh4)), na, os, ag, hno rfl⟩)
      first
        | exact wpAny_bind (wpAny_pure (wpAny_bind fin))
        | exact wpAny_bind fin
  · cases f with
    | next =>
      obtain ⟨σ', H', J', q⟩ := hsp
      exact wpAny_execs_nil ⟨σ', H', J'.ofTry ok, q⟩
    | ret u =>
      obtain ⟨v, σ', H', J', r, q⟩ := hsp
      exact ⟨v, σ', H', J'.ofTry ok, r, q⟩
    | _ =>
      obtain ⟨σ', H', J', q⟩ := hsp
      exact ⟨σ', H', J'.ofTry ok, q⟩
end
end Mo
end
section
namespace Mo
open PySem L2 PyProof.Rows He
section
variable {G : Gm} {E : WM} {X : Cx} {n : Str} {tst : Expr} {m : Value → Option Bool} {i : Nat} {body suite : List Stmt} {b₀ : Stmt} {np pos pos' : Pos} {mb ms : MS} {ks cs : List Nat}
theorem ms_try (hs : X.stack = X.env :: X.outer) (hf : X.env.frame = some X.env.locals) (hex : X.ex = []) (hN : X.N.Nodup) (hi : X.N[i]? = some n) (hln : X.env.kindOf n = some .local) (hc : Tst X tst m) (tk : Takes X E)
    (hK : ∀ c, ks.contains c = true → m (.ref (G.cA c)) = some (cs.contains c)) (hb : ∀ (W : WM) (pn : List (Addr × Obj)) (xe : Value → Shared → Prop), Takes (X.tr pn xe) W → PassesOwn (model X.prog X.w) X.A X.env xe → PSs (X.tr pn xe) body (rdS G W mb))
    (hsu : ∀ (a : Addr) (pn : List (Addr × Obj)), PSs (X.suite a pn) (b₀ :: suite) (rdS G EW ms)) : PS X (.Try body [.ExceptHandler (some tst) (some n) (b₀ :: suite) pos'] [] [] pos) (rdS G E (sTryAs mb i ks cs ms)) := by
  refine ps_w (ps_try_kept (tb := fun W => rdS G W mb) (ts := rdS G EW ms) hs hf hex hN hi hln hc tk hb hsu) fun D σ H ⟨ρ, env, h, hs', hr, w⟩ => ⟨ρ, env, h, hs', hr, ?_⟩
  unfold sTryAs at w
  cases e : mb env h with
  | exc c l env1 h1 =>
    rw [e] at w
    intro ρ' H' d σ' g r s el
    cases k1 : ks.contains c with
    | false =>
      simp only [k1] at w
      exact False.elim w
    | true =>
      have hx := hK c k1
      cases k2 : cs.contains c with
      | false =>
        simp only [k1, k2] at w
        refine ⟨G.cA c, d, false, rfl, rfl, hx.trans (congrArg some k2), (fun z => nomatch z), fun _ => w ρ' H' d σ' g r s el⟩
      | true =>
        simp only [k1, k2] at w
        refine ⟨G.cA c, d, true, rfl, rfl, hx.trans (congrArg some k2), fun _ a na => ?_, fun z => nomatch z⟩
        have gg := Grow.new r na (exv a (G.cA c) d)
        have r2 : HRel G (ρ' ++ [a]) _ (h1.new (.xc c l)) := r.new na (ho := exv a (G.cA c) d) (o := .xc c l) ⟨d, gg.at el, upd_same⟩
        have at' : (ρ' ++ [a])[h1.n]? = some a := by
          rw [← r.len]
          simp
        refine ⟨ρ' ++ [a], _, _, (s.grow gg).set (.loc at') i, r2, ?_⟩
        have w2 := WpS.grow (g.trans gg) w
        cases e2 : ms (env1.set i (some (.loc h1.n))) (h1.new (.xc c l)) with
        | nx env3 h3 => rw [e2] at w2; exact fun ρ3 H3 σ3 g3 r3 s3 => w2 ρ3 H3 _ g3 r3 (s3.unset i)
        | bk env3 h3 => rw [e2] at w2; exact fun ρ3 H3 σ3 g3 r3 s3 => w2 ρ3 H3 _ g3 r3 (s3.unset i)
        | ct env3 h3 => rw [e2] at w2; exact fun ρ3 H3 σ3 g3 r3 s3 => w2 ρ3 H3 _ g3 r3 (s3.unset i)
        | rt d3 h3 => rw [e2] at w2; exact w2
        | exc c3 l3 env3 h3 => rw [e2] at w2; exact False.elim w2
        | bad => rw [e2] at w2; exact False.elim w2
  | _ => rw [e] at w; exact w
end
end Mo
end
section
namespace Mo
open PySem L2 PyProof.Rows He
section
variable {G : Gm} {E : WM} {X : Cx} {o : Expr} {mb : ME} {cs : List Nat} {f f' : Str} {pos : Pos}
theorem me_xf (hK : X.K = G.K) (hC : ∀ c, cs.contains c = true → XfC X.K (G.cA c) ∧ PySem.W.findIn X.K (.ref (G.cA c)) f = some none) (hf : f' = f) (ho : PE X o (rd G E mb)) (hb : attributeBase o f' X.env (eval o X.env) = eval o X.env := by rfl) : PE X (.Attribute o f' pos) (rd G E (eXf mb cs f)) := by
  subst hf
  refine ⟨fun pins s σ H Q I ⟨ρ, env, h, hs, hr, w⟩ => ?_⟩
  have A0 := ho.run pins s σ H (fun v H1 => ∃ ρ1 h1 x, HRel G ρ1 H1 h1 ∧ VRel G ρ1 H1 v x ∧ Wp G (atW E σ) (VRel G) (xfK cs f' x h1) ρ1 H1 Q) I ⟨ρ, env, h, hs, hr, Wp.seq w fun x h1 ρ1 H1 v g1 r1 q1 w1 => ⟨ρ1, h1, x, r1, q1, w1⟩⟩
  refine attr_of hb (thn A0 fun u s1 ⟨v, H1, I1, rv, ρ1, h1, x, r1, q1, w1⟩ => ?_)
  unfold xfK at w1
  cases q1 with
  | @loc a l hl =>
    obtain rfl : u = Value.ref a := rv
    simp only at w1
    split at w1 <;> first | exact False.elim w1 | skip
    rename_i c m e1
    split at w1 <;> first | exact False.elim w1 | skip
    rename_i fs e2
    obtain ⟨k1, w1⟩ := Wp.ifR w1
    obtain ⟨y, k2, w1⟩ := Wp.optR w1
    obtain ⟨d, hd, ha⟩ := r1.at e1 hl
    obtain ⟨fvs, hx, nr⟩ := r1.at e2 hd
    obtain ⟨z, k3, k4⟩ := (fld_rel nr).1 y k2
    obtain ⟨T, hno⟩ := hC c k1
    obtain ⟨⟨vs, sl, e3⟩, _⟩ := (I1.hok a _ ha : ObjOk X.prog X.w H1 s1.heap a (.ext fun h => ∃ (vs : Array Value) (sl : Array (Option Value)), h.get? a = some { cls := .ref (G.cA c), dict := some d, data := .fields vs, slots := sl }))
    obtain ⟨mA, hns, hr'⟩ := (I1.hok d _ hx : ObjOk X.prog X.w H1 s1.heap d (.xd fvs))
    obtain ⟨od, ho', hlk⟩ := lookIn_ns hns
    obtain ⟨u, hu, ru⟩ := RelO.some_of (v := z) (o := mA f') (by rw [← k3]; exact hr' f')
    have J : PySem.W.InstAt s1.heap a { cls := .ref (G.cA c), dict := some d, data := .fields vs, slots := sl } (G.cA c) (some od) := ⟨e3, rfl, rfl, ho'⟩
    exact HandSPX.exc_get I1.kIn J T.ga T.gg T.exC (PySem.W.findObj_own T.hdC hno rfl (by rw [hlk, hu])) (handed_of ru) ⟨z, H1, I1.tok _, ru, Wp.val w1 r1 k4⟩
  | _ => exact False.elim w1
end
end Mo
end
section
namespace Mo
open PySem L2 PyProof.Rows He
theorem extB_ok {K : PySem.W.Frag} {C : Addr} {tl : List Value} {newId : String} (h : extB K C tl newId = true) : ExT K C tl newId := by
  unfold extB at h
  obtain ⟨h1, h⟩ := ba h
  obtain ⟨h2, h⟩ := ba h
  obtain ⟨h3, h⟩ := ba h
  obtain ⟨h4, h5⟩ := ba h
  refine ⟨?_, eqO_ok h2, of_decide_eq_true h3, of_decide_eq_true h4, h5⟩
  split at h1
  · rename_i dd cd sl ho
    split at h1
    · rename_i C' bm k0 k1 k2 k3 n k5 hm hs
      obtain ⟨q1, h1⟩ := ba h1
      obtain ⟨q2, h1⟩ := ba h1
      obtain ⟨q3, h1⟩ := ba h1
      obtain ⟨q4, q5⟩ := ba h1
      have q1 := of_decide_eq_true q1
      have q2 := of_decide_eq_true q2
      subst q1 q2
      obtain ⟨nm, bs, mro, ns, qn, hd, sn, sub, ab, col, del⟩ := cd
      simp only [Bool.not_eq_true'] at hm q3 q4
      subst hm q3 q4
      have hsl : sl = #[k0, k1, k2, k3, some (.builtin n), k5] := by
        obtain ⟨l⟩ := sl
        simp only at hs
        rw [hs]
      subst hsl
      exact ⟨nm, qn, ns, bs, bm, sn, sub, ab, col, dd, k0, k1, k2, k3, k5, ho, q5⟩
    · cases h1
  · cases h1
structure ExcF (K : PySem.W.Frag) (x : Str) (tl : List Value) (newId : String) (fsn : List Str) : Prop where
  t : ExT K (ga K x) tl newId
  xf : XfC K (ga K x)
  i : PySem.W.findIn K (.ref (ga K x)) "__init__" = some (some (.ref (ma K (ga K x) "__init__")))
  f : PySem.W.typeIn K (.ref (ma K (ga K x) "__init__")) = some (.type "function")
  n : ∀ f ∈ fsn, PySem.W.findIn K (.ref (ga K x)) f = some none
theorem excB_ok {K : PySem.W.Frag} {x : Str} {tl : List Value} {newId : String} {fsn : List Str} (h : excB K x tl newId fsn = true) : ExcF K x tl newId fsn := by
  obtain ⟨h1, h⟩ := ba h
  obtain ⟨h2, h⟩ := ba h
  obtain ⟨h3, h⟩ := ba h
  obtain ⟨h4, h5⟩ := ba h
  exact ⟨extB_ok h1, xfB_ok h2, eqO_ok h3, of_decide_eq_true h4, fun f hf => eqO_ok (List.all_eq_true.mp h5 f hf)⟩
end Mo
end
section
namespace Mo
open PySem L2 PyProof.Rows He
theorem tk_of {P : Program} {w : World} {K : PySem.W.Frag} {mg : Str → Option Value} {base : Heap} {N : List Str} {qual : Str} {scope : Scope} {f : Addr} {cdv : Value} {A : Around} {outer : List PySem.Env} {s : Shared} {H : Hp} {E : XK} :
    Takes (cxOf (L2.CX P w) P w K mg base N qual scope f cdv A outer s H E) (fun cls d _ H => E cls d H) := (takes_of (E := E) rfl rfl rfl rfl)
end Mo
end
section
set_option maxHeartbeats 4000000
namespace Mo
open PySem L2 PyProof.Rows He PySem.W PySem.Calls
theorem icB_ok {K : PySem.W.Frag} {D : Addr} (h : icB K D = true) : ExcC K D := by
  obtain ⟨h1, h⟩ := ba h
  obtain ⟨h2, h⟩ := ba h
  obtain ⟨h3, h⟩ := ba h
  obtain ⟨h4, h⟩ := ba h
  obtain ⟨h5, h⟩ := ba h
  obtain ⟨h6, h⟩ := ba h
  obtain ⟨h7, h8⟩ := ba h
  exact ⟨eqO_ok h1, eqO_ok h2, of_decide_eq_true h3, h4, eqO_ok h5, eqO_ok h6, of_decide_eq_true h7, of_decide_eq_true h8⟩
section
variable {prog : Program} {w : World} {A : Around} {E : Value → Shared → Prop} {s : Shared} {K : PySem.W.Frag} {x D : Addr} {ox od : Obj}
theorem fo_class (c : ExcC K D) : findObj K D (some od) "__class__" = some (.bind (.builtin "getset_descriptor.__get__") (.builtin "object.__class__")) := by
  obtain ⟨cd, hc, _⟩ := any_some c.hd
  unfold findObj
  rw [hc, Option.bind_some, c.ha, Option.bind_some]
  simp [c.hn, c.ht]
variable {Q : Option Value → Shared → Prop}
theorem xc_class (c : ExcC K D) (X : K.In s.heap) (I : InstAt s.heap x ox D (some od)) (h : Q (some (.ref D)) { s with toks := s.toks + 1 }) : wpAny (model prog w) A (getAttr? (.ref x) "__class__") Q E s := by
  obtain ⟨hp, g, d, t, os⟩ := s
  have tyL := I.type (M := model prog w)
  have hit := looks_find (M := model prog w) X I (fo_class c)
  have sub : Looks (model prog w) hp (isInstance (.ref x) (.type "BaseException")) true := tyL.andThen (looks_subIn X c.hs)
  have ne : (Value.builtin "BaseException.__getattribute__" == Value.builtin "object.__getattribute__") = false := by decide +kernel
  have on : (onTheHeap (Value.ref D) && Value.builtin "BaseException.__getattribute__" == Value.builtin "object.__getattribute__") = false := by
    rw [ne]
    rfl
  unfold getAttr? getAttrBy? getAttrBy
  refine wpAny_bind (wpAny_mkText (wpAny_bind ?_))
  refine wpAny_attempt (wpAny_holding (wpAny_bind (tyL.at (wpAny_bind ?_))))
  refine (looks_findIn (M := model prog w) X c.hg).at ?_
  show wpAny _ _ (if (onTheHeap (Value.ref D) && Value.builtin "BaseException.__getattribute__" == Value.builtin "object.__getattribute__") = true then _ else _) _ _ _
  rw [on, if_neg Bool.false_ne_true]
  unfold getAttrByItsOwn hookBefore
  refine wpAny_bind ?_
  rw [if_pos (show onTheHeap (Value.ref D) = true from rfl)]
  refine (looks_findIn (M := model prog w) X c.hk).at ?_
  refine wpAny_bind (wpAny_attempt (wpAny_holding ?_))
  unfold callGetattribute
  rw [show (false && onTheHeap (Value.builtin "BaseException.__getattribute__")) = false from rfl, if_neg Bool.false_ne_true]
  unfold boundAndCalled
  rw [PySem.F.excAttr_ValueError.ga.bind (.ref x)]
  refine wpAny_bind (wpAny_pure ?_)
  show wpAny _ _ (call (.builtin "BaseException.__getattribute__") [.ref x, .str "__class__" t]) _ _ _
  refine wpAny_call (codeAny_call_builtin PySem.F.excAttr_ValueError.ga.plain PySem.F.entry_bexc_ga ?_)
  refine @check_slot (model prog w) _ _ ⟨hp, g, d, t + 1, os⟩ "BaseException.__getattribute__" "BaseException" "__getattribute__" (.ref x) [.str "__class__" t] [] _ (by decide +kernel) (by decide +kernel) sub (PySem.F.args_bexc_ga (.ref x) (.str "__class__" t)) ?_
  unfold Builtin.«object.__getattribute__»
  refine wpAny_bind (wpAny_of_eq (a := ((Value.ref x : Value), [Value.str "__class__" t])) (by first | rfl | (simp only [slotArgs]; rfl)) ?_)
  refine wpAny_bind (wpAny_pure (wpAny_bind (tyL.at (wpAny_bind (hit.at ?_)))))
  refine wpAny_bind (wpAny_holding (wpAny_call (class_get (s := ⟨hp, g, d, t + 1, os⟩) (ox := ox) (od := some od) X I c.hm ?_)))
  refine wpAny_pure ?_
  show wpAny _ _ (handedOut (.ref D)) _ _ _
  rw [handedOut_of (v := .ref D) rfl]
  first
    | exact wpAny_pure (wpAny_pure h)
    | exact wpAny_pure h
    | exact wpAny_pure (wpAny_bind (wpAny_pure (wpAny_pure h)))
end
end Mo
end
section
namespace Mo
open PySem L2 PyProof.Rows He PySem.W PySem.Calls
theorem xc_kit {K : PySem.W.Frag} {x D : Addr} {ox od : Obj} (c : ExcC K D) : KitX K (.ref x) (.ref D) (fun h => InstAt h x ox D (some od)) := by
  obtain ⟨cd, hc, _⟩ := any_some c.hd
  have at' : ∃ oc dd sl, K.lookup D = some ⟨oc, dd, .cls cd, sl⟩ := by
    unfold clsIn at hc
    split at hc
    · rename_i oc dd cd' sl ho
      cases hc
      exact ⟨oc, dd, sl, ho⟩
    · cases hc
  obtain ⟨oc, dd, sl, ho⟩ := at'
  refine ⟨fun _ _ _ I => I.type, fun _ _ X _ A Q E s k q => ?_, fun h tp d2 its n s2 X e => ?_, fun X I k => xc_class c X I k⟩
  · unfold isType loadHead
    exact wpAny_bind (wpAny_loadPart (k _ _ (X _ _ ho)) (wpAny_pure q))
  · refine Bool.eq_false_iff.mpr fun q => ?_
    obtain rfl : D = tp := Value.ref.inj (beq_iff_eq.mp q)
    cases (X _ _ ho).symm.trans e
end Mo
end
section
namespace Mo
open PySem L2 PyProof.Rows He
theorem Ct.paired (K : PySem.W.Frag) : ∀ cs : List Ct, Paired ClsV (cs.map (Ct.v K)) (cs.map (Ct.u K))
  | [] => .nil
  | c :: cs => .cons (c.cls K) (Ct.paired K cs)
inductive TyW (K : PySem.W.Frag) (H : Hp) : V → Value → Prop where
  | base {x : V} {t : Value} (h : TyX K H x t) : TyW K H x t
  | excn {a D : Addr} (h1 : H a = some (exn a D)) (c : ExcC K D) : TyW K H (.ref a) (.ref D)
  | exc {a D d : Addr} {fvs : List (Str × V)} (h1 : H a = some (exv a D d)) (h2 : H d = some (.xd fvs)) (c : ExcC K D) : TyW K H (.ref a) (.ref D)
section
variable {X : Cx} {pins : List (Addr × Obj)} {σ : L2.St} {H : Hp} {s : Shared}
theorem kit_w {x : V} {u t : Value} (I : Inv X pins σ H s) (rx : RelV x u) (ty : TyW X.K H x t) : ∃ P : Heap → Prop, PySem.W.KitX X.K u t P ∧ P s.heap ∧ u ≠ .builtin "__main__.__loader__#opaque" := by
  cases ty with
  | base h => exact kit_of I rx h
  | @excn a D h1 c =>
    cases (show u = Value.ref a from rx)
    obtain ⟨⟨vs, sl, e3⟩, _⟩ := (I.hok a _ h1 : ObjOk X.prog X.w H s.heap a (.ext fun h => ∃ (vs : Array Value) (sl : Array (Option Value)), h.get? a = some { cls := .ref D, dict := none, data := .fields vs, slots := sl }))
    have J : PySem.W.InstAt s.heap a { cls := .ref D, dict := none, data := .fields vs, slots := sl } D none := ⟨e3, rfl, rfl, trivial⟩
    exact ⟨_, PySem.W.handS_kitx_exc c.hg c.hk c.hs c.hd c.ha c.hn c.ht c.hm, J, fun z => nomatch z⟩
  | @exc a D d fvs h1 h2 c =>
    cases (show u = Value.ref a from rx)
    obtain ⟨⟨vs, sl, e3⟩, _⟩ := (I.hok a _ h1 : ObjOk X.prog X.w H s.heap a (.ext fun h => ∃ (vs : Array Value) (sl : Array (Option Value)), h.get? a = some { cls := .ref D, dict := some d, data := .fields vs, slots := sl }))
    obtain ⟨mA, hns, _⟩ := (I.hok d _ h2 : ObjOk X.prog X.w H s.heap d (.xd fvs))
    obtain ⟨od, ho', _⟩ := lookIn_ns hns
    have J : PySem.W.InstAt s.heap a { cls := .ref D, dict := some d, data := .fields vs, slots := sl } D (some od) := ⟨e3, rfl, rfl, ho'⟩
    exact ⟨_, xc_kit c, J, fun z => nomatch z⟩
theorem kit_single {K : PySem.W.Frag} {t c : Value} {b : Bool} (e : PySem.W.kitAny K t [c] = some b) : PySem.W.kitOne K t c = some b := by
  unfold PySem.W.kitAny at e
  split at e
  · rename_i q; rw [q]; exact e
  · rename_i q; rw [q]; exact e
  · cases e
def CVal (K : PySem.W.Frag) (H : Hp) (c : V) (cts : List Ct) : Prop := (∃ q, cts = [q] ∧ c = q.v K) ∨ ∃ tp, c = .ref tp ∧ H tp = some (.tup (cts.map (Ct.v K)))
theorem call_isW : CallR X (.builtin "isinstance") (fun xs H Q => ∃ (x c : V) (t : Value) (cts : List Ct) (b : Bool), xs = [x, c] ∧ CVal X.K H c cts ∧ TyW X.K H x t ∧ PySem.W.kitAny X.K t (cts.map (Ct.u X.K)) = some b ∧ Q (.bl b) H) := by
  intro pins s σ H xs us Q I r h
  obtain ⟨x, c, t, cts, b, rfl, k, ty, e, q⟩ := h
  obtain ⟨u1, u2, rfl, r1, r2⟩ := vals2 r
  obtain ⟨P, Z, p, hx⟩ := kit_w I r1 ty
  rcases k with ⟨c', rfl, rfl⟩ | ⟨tp, rfl, hT⟩
  · have e2 := (c'.cls X.K).eq r2
    subst e2
    exact PySem.W.kia_one Z I.kIn p (kit_single e) hx fun tk => ⟨.bl b, H, I.tok tk, rfl, q⟩
  · cases (show u2 = Value.ref tp from r2)
    obtain ⟨_, its, rv, ⟨oc, od, dt, sl⟩, h1, h2, n, h3⟩ := (show ObjOk X.prog X.w H s.heap tp (.tup (cts.map (Ct.v X.K))) from I.hok tp _ hT)
    have e3 := ClsV.all (Ct.paired X.K cts) rv
    subst e3
    simp only at h2 h3
    subst h2 h3
    exact PySem.W.kia_tup Z I.kIn p h1 e hx fun tk => ⟨.bl b, H, I.tok tk, rfl, q⟩
inductive CNm (X : Cx) : Expr → Ct → Prop
  | own {x : Str} {pos : Pos} (hg : Gl X x) (hm : X.mg x = some (.ref (ga X.K x))) (hd : (x == ("__debug__" : Str)) = false := by decide) : CNm X (.Name x pos) (.own x)
  | ty {x : Str} {T : String} {pos : Pos} (hg : Gl X x) (hm : X.mg x = none) (hv : bootBuiltins x = some (.type T) := by rfl) (hn : x ≠ "__name__" := by decide) (hd : (x == ("__debug__" : Str)) = false := by decide) : CNm X (.Name x pos) (.ty T)
theorem CNm.pe {e : Expr} {c : Ct} (h : CNm X e c) : PE X e (tC (c.v X.K)) := by
  cases h with
  | own hg hm hd => exact pe_glob hg hm rfl hd
  | ty hg hm hv hn hd => exact pe_bltn (v := .ty _) hg hm hv rfl hn hd
inductive CNms (X : Cx) : List Expr → List Ct → Prop
  | nil : CNms X [] []
  | cons {e : Expr} {c : Ct} {es : List Expr} {cs : List Ct} (h : CNm X e c) (t : CNms X es cs) : CNms X (e :: es) (c :: cs)
theorem CNms.pa {es : List Expr} {cs : List Ct} (h : CNms X es cs) : PA X es (fun σ H Q => Q (cs.map (Ct.v X.K)) H) := by
  induction h with
  | nil => exact pa_nil
  | cons h _ ih =>
    have hs : ∀ {e : Expr} {c : Ct} (es : List Expr), CNm X e c → starEach (e :: es) X.env = (false, eval e X.env) :: starEach es X.env := fun es h => by cases h <;> rfl
    exact pa_cons h.pe ih (hs _ h)
end
theorem lookS_mem {t : String} {b : Bool} : ∀ {l : List (String × Bool)}, lookS t l = some b → (t, b) ∈ l
  | (a, c) :: r, e => by
    unfold lookS at e
    split at e
    · rename_i h
      cases e
      subst h
      exact List.mem_cons_self
    · exact List.mem_cons_of_mem _ (lookS_mem e)
theorem lookN_mem {t : Nat} {b : Bool} : ∀ {l : List (Nat × Bool)}, lookN t l = some b → (t, b) ∈ l
  | (a, c) :: r, e => by
    unfold lookN at e
    split at e
    · rename_i h
      cases e
      subst h
      exact List.mem_cons_self
    · exact List.mem_cons_of_mem _ (lookN_mem e)
section
variable {G : Gm} {E : WM} {X : Cx} {a c : Expr} {ma : ME} {cts : List Ct} {tb : List (String × Bool)} {to tx : List (Nat × Bool)} {x : Str} {p pos : Pos}
theorem is_rel {ρ : List Addr} {H : Hp} {h : Hm} {d : D} {v : V} {b : Bool} (hB : isB G.K G.cA cts tb to tx = true) (hC : ∀ c b, (c, b) ∈ to → Cls G.K (G.cA c)) (r : HRel G ρ H h) (q : VRel G ρ H v d) (e : isK tb to tx d h = some b) : ∃ t, TyW G.K H v t ∧ PySem.W.kitAny G.K t (cts.map (Ct.u G.K)) = some b := by
  obtain ⟨b1, b2⟩ := ba hB
  obtain ⟨b2, b3⟩ := ba b2
  unfold isK at e
  split at e
  · rename_i t et
    exact ⟨_, .base (tyD_x r q et).1, of_decide_eq_true (List.all_eq_true.mp b1 _ (lookS_mem e))⟩
  · cases q with
    | @loc a l hl =>
      simp only at e
      split at e
      · rename_i c fs e1
        obtain ⟨dx, fvs, e2, n⟩ := r.at e1 hl
        have m := lookN_mem e
        obtain ⟨k1, k2⟩ := ba (List.all_eq_true.mp b2 _ m)
        obtain ⟨i1, k2⟩ := ba k2
        obtain ⟨i2, k2⟩ := ba k2
        obtain ⟨i3, i4⟩ := ba k2
        exact ⟨_, .base (.base (.ins e2 (hC _ _ m) (eqO_ok i1) (eqO_ok i2) (of_decide_eq_true i3) (of_decide_eq_true i4))), of_decide_eq_true k1⟩
      · rename_i e1
        obtain ⟨kvs, e2⟩ := r.at e1 hl
        exact ⟨_, .base (.base (.dT e2)), of_decide_eq_true (List.all_eq_true.mp b1 _ (lookS_mem e))⟩
      · rename_i c e1
        have e3 := r.at e1 hl
        obtain ⟨k1, k2⟩ := ba (List.all_eq_true.mp b3 _ (lookN_mem e))
        exact ⟨_, .excn e3 (icB_ok k2), of_decide_eq_true k1⟩
      · rename_i c m e1
        split at e <;> first | (cases e; done) | skip
        rename_i fs e4
        obtain ⟨dd, e2, e3⟩ := r.at e1 hl
        obtain ⟨fvs, e5, _⟩ := r.at e4 e2
        obtain ⟨k1, k2⟩ := ba (List.all_eq_true.mp b3 _ (lookN_mem e))
        exact ⟨_, .exc e3 e5 (icB_ok k2), of_decide_eq_true k1⟩
      · cases e
    | _ => cases e
theorem me_is1 {c0 : Ct} (hK : X.K = G.K) (hB : isB G.K G.cA [c0] tb to tx = true) (hC : ∀ c b, (c, b) ∈ to → Cls G.K (G.cA c)) (hc : CNm X c c0) (hg : Gl X x) (hm : X.mg x = none) (hv : bootBuiltins x = some (.builtin "isinstance")) (ha : PE X a (rd G E ma)) (hn : x ≠ "__name__" := by decide) (hdb : (x == ("__debug__" : Str)) = false := by decide)
    (hs : starEach [a, c] X.env = (false, eval a X.env) :: starEach [c] X.env := by rfl) (hs2 : starEach [c] X.env = (false, eval c X.env) :: starEach [] X.env := by rfl) (hpl : (backTo pos (starEach [c] X.env)).any (·.1) = false := by rfl) : PE X (.Call (.Name x p) [a, c] [] pos) (rd G E (eIs tb to tx ma)) :=
  pe_w (pe_callB call_isW hg hm hv (pa_cons ha (pa_cons hc.pe pa_nil hs2) hs) hn hdb hs hpl) fun σ H Q ⟨ρ, env, h, hs, hr, w⟩ => ⟨ρ, env, h, hs, hr, w.seq fun d h1 ρ1 H1 v g1 r1 q1 w1 => by
    unfold isR at w1
    split at w1 <;> first | exact False.elim w1 | skip
    rename_i b e
    obtain ⟨t, k1, k2⟩ := is_rel hB hC r1 q1 e
    rw [hK]
    exact ⟨v, _, t, [c0], b, rfl, .inl ⟨c0, rfl, rfl⟩, k1, k2, Wp.val w1 r1 (.bl b)⟩⟩
end
end Mo
end
section
set_option maxHeartbeats 4000000
namespace Mo
open PySem PySem.Spec L2 PyProof.Rows He
abbrev frS (w : World) : Obj := { cls := .type "set", dict := none, data := .set #[] 0 (.fresh 0 0 (!w.params.followText "set-order")) }
def tScI (w : World) (wi : TI) (g : TG) (tt : TT) (te : TE) (vs : List Nat) : TE := fun τ H Q => wi τ H fun J H1 => ∀ D, H1 D = none → ∃ W : Nat → Nat → Hp → Prop, (∃ m, W 0 m (upd H1 D (SetO w D (fun _ => false) 0))) ∧ ∀ i m HT, W i m HT →
  (J.stop i HT ∧ Q (.ref D) HT) ∨ (J.go i HT ∧ ∃ Nx : Hp → Prop, (∀ H', Nx H' → ∃ m', m' < m ∧ W (i + 1) m' H') ∧ ∀ x H', J.yld i HT x H' → g x (L2.wipe τ vs) H' fun τ2 H2 => L2.wipe τ2 vs = L2.wipe τ vs ∧ tt τ2 H2 fun b H3 =>
    if b = true then te τ2 H3 fun y H4 => ∃ (k : Int) (S : Int → Bool) (n : Nat), y = .int k ∧ H4 D = some (SetO w D S n) ∧ n + 1 < scanBound ∧ Nx (upd H4 D (SetO w D (fun j => S j || decide (j = k)) (if S k = true then n else n + 1))) else Nx H3)
section
variable {X : Cx}
theorem pe_scI {elt tg it : Expr} {ifs : List Expr} {scope : Scope} {own : List (Str × Nat)} {pos : Pos} {wi : TI} {g : TG} {tt : TT} {te : TE} (hc : X.calm = true) (hN : X.N.Nodup) (hi : PI X tg it wi) (ok : BlkOk X.N X.env.scope scope own)
    (hg : ∀ (s : Shared) (H : Hp) (C : Addr) (cl : List (Str × Addr)) (fp : List Addr), PG (X.blk s H scope (compEnvC scope cl C X.env) fp) tg g) (ht : ∀ (s : Shared) (H : Hp) (C : Addr) (cl : List (Str × Addr)) (fp : List Addr), PTs (X.blk s H scope (compEnvC scope cl C X.env) fp) ifs tt)
    (he : ∀ (s : Shared) (H : Hp) (C : Addr) (cl : List (Str × Addr)) (fp : List Addr), PE (X.blk s H scope (compEnvC scope cl C X.env) fp) elt te) (hs : ∀ x, foldedSetIterable it X.env x = pure x := by intro _; rfl) :
    PE X (.SetComp elt [⟨tg, it, ifs, 0⟩] scope pos) (tScI X.w wi g tt te (own.map (·.2))) := by
  refine ⟨fun pins s τ H Q I h => ?_⟩
  have fr : ∀ y ∈ scope.names, y.2 = .free → ∃ c, X.env.cells.lookup y.1 = some c := fun y m e => (ok.free y m e).elim (fun k => I.ok.has _ (.inl k)) fun k => I.ok.has _ (.inr k)
  rw [PpSet.eval_SetComp]
  refine wpAny_comprehension_free rfl hs (closure_ok fr) ok.kind (fun y m e => (ok.uniq y m).trans (congrArg some e)) (thn (hi.run pins s τ H _ I h) fun _ _ a => thn a ?_)
  rintro _ sA ⟨itA, fp, tn, J, HA, rfl, IA, T, tA, fA, q⟩
  refine PpSet.newSet_ok (newEnv_comp ?_)
  -- the new set, at D
  obtain ⟨D, eD⟩ : ∃ D, D = sA.heap.objs.size := ⟨_, rfl⟩
  have freeD : HA D = none := by rw [eD]; exact IA.hok.fresh (Nat.le_refl _)
  obtain ⟨W, ⟨m0, w0⟩, step⟩ := q D freeD
  obtain ⟨HB, eB⟩ : ∃ HB, HB = upd HA D (SetO X.w D (fun _ => false) 0) := ⟨_, rfl⟩
  obtain ⟨sB, eS⟩ : ∃ sB : Shared, sB = { sA with heap := sA.heap.push (frS X.w) } := ⟨_, rfl⟩
  rw [← eB] at w0
  have up : ∀ b o, sA.heap.get? b = some o → sB.heap.get? b = some o := fun b o e => by rw [eS]; exact Heap.get?_push_of_some _ e
  have IB : Inv X pins τ HB sB := by
    rw [eB, eS]
    exact IA.laid (t' := sA.toks) (fun b o e => Heap.get?_push_of_some _ e) (Nat.le_of_eq eD.symm) (by rw [eD]; exact setO_new (setR_fresh X.w))
  have fB : ∀ b ∈ fp, FpOk X pins HB b ∧ b < sB.heap.objs.size := fun b hb => by
    obtain ⟨o, e, _⟩ := T.obj _ _ tA b hb
    have lt := Heap.lt_size e
    refine ⟨⟨?_, (fA b hb).2⟩, Heap.lt_size (up b o e)⟩
    rw [eB, upd_ne (show b ≠ D from eD ▸ Nat.ne_of_lt lt)]
    exact (fA b hb).1
  have blk := block_start IB ok hN fB
  have xG := hg sB HB sB.heap.objs.size (cellsFrom (sB.heap.objs.size + 1) scope.names (cloFrom X.env.cells scope.names [])) fp
  have xT := ht sB HB sB.heap.objs.size (cellsFrom (sB.heap.objs.size + 1) scope.names (cloFrom X.env.cells scope.names [])) fp
  have xE := he sB HB sB.heap.objs.size (cellsFrom (sB.heap.objs.size + 1) scope.names (cloFrom X.env.cells scope.names [])) fp
  rw [← eS, ← eD]
  obtain ⟨ce, ece⟩ : ∃ ce, ce = compEnvC scope (cellsFrom (sB.heap.objs.size + 1) scope.names (cloFrom X.env.cells scope.names [])) sB.heap.objs.size X.env := ⟨_, rfl⟩
  obtain ⟨sC, eC⟩ : ∃ sC : Shared, sC = { sB with heap := pushCells (sB.heap.push { cls := .type "dict", data := .dict #[] }) scope.names } := ⟨_, rfl⟩
  rw [← ece] at blk xG xT xE
  rw [← eC] at blk
  suffices main : codeAny (model X.prog X.w) X.A (.compStart (.SetComp elt [⟨tg, it, ifs, 0⟩] scope pos) 0 (.ref itA) (.ref D) ce) (compPost (model X.prog X.w) X.A X.xe none (EP X pins τ Q) (.ref D) sB.heap.objs.size) sC by
    rw [eC, ece] at main
    exact main
  have tC : tn 0 sC.heap := T.keep _ _ _ tA fun b _ o e => by rw [eC]; exact pushCells_keeps _ _ _ _ (Heap.get?_push_of_some _ (up b o e))
  have cL : ce.locals = sB.heap.objs.size := by rw [ece]; rfl
  -- the iterator's objects stand aside
  have aside : ∀ {τ' : L2.St} {H' : Hp} {s' : Shared}, Inv (X.blk sB HB scope ce fp) [] τ' H' s' → (∀ b ∈ fp, H' b = none) → ∀ b ∈ fp, FpOk (X.blk sB HB scope ce fp) [] H' b := fun I' n b hb =>
    ⟨n b hb, (I'.ok.exf b hb).1, I'.ok.exfs b hb, .inl hb, (fun x c e => (I'.ok.exf b hb).2 x c e), fun p hp => absurd (show p ∈ ([] : List (Addr × Obj)) ++ [] from hp) (by simp)⟩
  suffices loop : codeAny (model X.prog X.w) X.A (.compLoop (.SetComp elt [⟨tg, it, ifs, 0⟩] scope pos) 0 (.ref itA) (.ref D) ce) (compPost (model X.prog X.w) X.A X.xe none (EP X pins τ Q) (.ref D) sB.heap.objs.size) sC from
    PpSet.codeAny_compStart_set loop (T.self X.A 0 _ _ _ tC loop)
  refine PpSet.compLoopS_any (fun n s' => ∃ i H', Inv (X.blk sB HB scope ce fp) [] (L2.wipe τ (own.map (·.2))) H' s' ∧ tn i s'.heap ∧ (∀ b ∈ fp, H' b = none) ∧ W i n H') ?_ m0 ⟨0, HB, blk, tC, fun b hb => (fB b hb).1.1, w0⟩
  intro n s5 ⟨i, H5, I5, t5, n5, w5⟩
  rcases step i n H5 w5 with ⟨stop, qq⟩ | ⟨go, Nx, hNx, turn⟩
  · refine thnF (T.done (X.blk sB HB scope ce fp) rfl rfl rfl hc i [] s5 _ H5 (fun _ _ => False) I5 (aside I5 n5) t5 stop) fun r s6 ⟨er, I6⟩ => ?_
    subst er
    have I7 : Inv X pins τ H5 s6 := IB.call' (ch := fp) I6.os I6.base I6.hok I6.bare fun b hb => ⟨(fB b hb).1.2.2.2.1, (fB b hb).1.2.1, (fB b hb).1.2.2.2.2.1, (fB b hb).1.2.2.2.2.2⟩
    have nC : H5 sB.heap.objs.size = none := cL ▸ (I6.free : H5 ce.locals = none)
    obtain ⟨m, hn, _⟩ := I6.loc
    have hn : s6.heap.Ns sB.heap.objs.size m := cL ▸ (hn : s6.heap.Ns ce.locals m)
    obtain ⟨_, f0, f1, f3, f4, f5⟩ := IB.fpOk (H' := H5) (Nat.le_refl _) nC
    exact ⟨m, hn, fun h'' sb => ⟨.ref D, H5, I7.turned (t' := s6.toks) (fun b o hb e => (sb.2 b hb).trans e) nC f0 f3 f4 f5, rfl, qq⟩⟩
  · refine thnF (T.item (X.blk sB HB scope ce fp) rfl rfl rfl hc i [] s5 _ H5 (fun _ _ => False) I5 (aside I5 n5) t5 go) fun r s6 ⟨u, er, h6⟩ => ?_
    subst er
    refine thnF h6 fun _ s7 ⟨x, H7, I7, r7, y7, t7, n7⟩ => ?_
    refine thnF (xG.run _ s7 _ H7 x u _ (I7.pinned (aside I7 n7) (T.obj _ _ t7)) r7 (turn x H7 y7)) fun _ s8 ⟨τ8, H8, I8, ew, q8⟩ => ?_
    refine thnF (xT.run _ s8 τ8 H8 _ I8 q8) fun b s9 ⟨H9, I9, q9⟩ => ?_
    have fin : ∀ {s' : Shared} {H' : Hp}, Inv (X.blk sB HB scope ce fp) ([] ++ pinsAt fp s7.heap) τ8 H' s' → Nx H' → ∃ m, m < n ∧ ∃ i H', Inv (X.blk sB HB scope ce fp) [] (L2.wipe τ (own.map (·.2))) H' s' ∧ tn i s'.heap ∧ (∀ b ∈ fp, H' b = none) ∧ W i m H' := fun {s' H'} I' nx => by
      obtain ⟨m', lt, w'⟩ := hNx H' nx
      have pin : ∀ b ∈ fp, ∀ o, s7.heap.get? b = some o → s'.heap.get? b = some o ∧ H' b = none := fun b hb o e => ⟨(I'.pin (b, o) (List.mem_append_right _ (List.mem_append_right _ (mem_pinsAt hb e)))).1, (I'.pin (b, o) (List.mem_append_right _ (List.mem_append_right _ (mem_pinsAt hb e)))).2.1⟩
      refine ⟨m', lt, i + 1, H', (I'.unpinned (pins := [])).weak (by rw [← ew, wipe_length]) (fun j v e => (wipe_some (ew ▸ e)).1), T.keep _ _ _ t7 fun b hb o e => (pin b hb o e).1, fun b hb => ?_, w'⟩
      obtain ⟨o, e, _⟩ := T.obj _ _ t7 b hb
      exact (pin b hb o e).2
    cases b with
    | false => exact fin I9 (by rw [if_neg Bool.false_ne_true] at q9; exact q9)
    | true =>
      rw [if_pos rfl] at q9
      refine thnF (xE.run _ s9 τ8 H9 _ I9 q9) fun z s10 ⟨yv, H10, I10, r10, k, S0, n0, ey, hD, hz, nx⟩ => ?_
      subst ey
      refine thnF (mt_sadd (X := X.blk sB HB scope ce fp) _ s10 τ8 H10 (.ref D) [.int k] (.ref D) [z] (fun v H' => v = .non ∧ Nx H') I10 rfl (.cons r10 .nil) ⟨D, k, S0, n0, rfl, rfl, hD, hz, rfl, nx⟩) fun _ s11 ⟨_, H11, I11, _, _, nx⟩ => fin I11 nx
end
end Mo
end
section
set_option maxHeartbeats 4000000
namespace Mo
open PySem PySem.Spec L2 PyProof.Rows He
section
variable {P : Program} {w : World} {A : Around} {E : Value → Shared → Prop} {s : Shared}
theorem set_of_list {l : Addr} {its : List Value} {n : Nat} (ns : List Int) {Q : Value → Shared → Prop} (hh : A.handled = none) (hl : s.heap.get? l = some { cls := .type "list", data := .seq its.toArray n }) (hi : IntsAre its ns) (hb : ns.length + 1 < scanBound)
    (go : ∀ (h' : Heap) (tk c : Nat), SetR w h' s.heap.objs.size (fun j => decide (j ∈ ns)) c → (∀ b o, s.heap.get? b = some o → h'.get? b = some o) → Q (.ref s.heap.objs.size) { s with heap := h', toks := tk }) :
    wpAny (model P w) A (call (.type "set") [.ref l]) Q E s := by
  have len : its.length = ns.length := hi.length
  have ⟨c, tl, hmro⟩ := F.called_set.mro
  have a1 := F.called_set.made
  have a2 := F.called_set.sub
  have a3 := F.called_set.notType
  have a4 := F.called_set.canCreate
  have a5 := F.typeCall_set_1 (.ref l)
  refine wpAny_call (codeAny_of_tree (show wpAny _ _ (callAny (.type "set") _) _ _ _ from wpAny_pure ⟨Code.quiet_builtin _ (by decide +kernel), codeAny_builtin F.entry_type_call ?_⟩))
  rw [Around.under_plain (weight_type_call_type "set" [.ref l] []) rfl]
  repeat (any_goals (first | assumption | wp_step))
  have kp : ∀ b o, s.heap.get? b = some o → (s.heap.push (frS w)).get? b = some o := fun b o e => Heap.get?_push_of_some _ e
  refine codeAny_mono (code_set_led1 (.ref l) (E := E) (Q₁ := fun obj s₁ => obj = .ref s.heap.objs.size ∧ s₁ = { s with heap := s.heap.push (frS w) }) ⟨rfl, rfl⟩) fun r s₁ hr => ?_
  rcases r with e | (_ | _ | _ | obj) <;> first | exact hr | exact hr.elim | skip
  obtain ⟨rfl, rfl⟩ := hr
  have at' : (s.heap.push (frS w)).get? s.heap.objs.size = some (frS w) := Heap.get?_push_size _ rfl
  have b1 : Shared.TypeIs { s with heap := s.heap.push (frS w) } (.ref s.heap.objs.size) "set" := ⟨_, at', rfl⟩
  have b2 := F.called_set.init.lookup
  have b3 := F.called_set.init.bind (.ref s.heap.objs.size)
  repeat (any_goals (first | assumption | wp_step))
  refine codeAny_mono (codeAny_call_builtin (R := wants (fun r s₂ => r = .none ∧ ∃ h' tk c, s₂ = { s with heap := h', toks := tk } ∧ SetR w h' s.heap.objs.size (fun j => decide (j ∈ ns)) c ∧ ∀ b o, s.heap.get? b = some o → h'.get? b = some o) E) F.called_set.init.plain F.entry_set_init (check_set_init_1 b1 ?_)) fun r₂ s₂ hr₂ => ?_
  · have hl' := kp l _ hl
    have c1 := F.sub_list_set
    have c2 := F.sub_list_frozenset
    have c3 : (Value.type "list" == Value.type "dict") = false := by decide
    have isl : (s.heap.push (frS w)).IsList l its.toArray := ⟨_, hl', rfl, n, rfl⟩
    unfold Builtin.«set.__init__» noKeywords Builtin.Frozenset.updateFrom
    generalize ePI : pyIter = PI
    wp_walk
    subst ePI
    refine wpAny_pyIter_list isl (wpAny_bind (wpAny_runValue ?_))
    have lt := Heap.lt_size hl
    have h3 : A.in1.in1.in1.handled = none := by simp [hh]
    have sz : (s.heap.push (frS w)).objs.size = s.heap.objs.size + 1 := Heap.size_push ..
    refine set_update_ints ((Walks.list h3 _ l (by rw [sz]; exact Nat.ne_of_lt (Nat.lt_succ_of_lt lt)) its.toArray).toS) s.heap.objs.size (by rw [sz]; simp only [List.mem_cons, List.not_mem_nil, or_false, not_or]; exact ⟨Nat.ne_of_lt (Nat.lt_succ_self _), Nat.ne_of_gt lt⟩) ns (by simpa using len) hb (fun i v hv => ?_) (its.toArray.size - 0) 0 _ (by omega) (Nat.zero_le _)
      ⟨⟨_, Heap.get?_push_size _ rfl, rfl, rfl⟩, (isl.push _)⟩ ⟨0, Nat.le_refl 0, setR_new_at (Heap.get?_push_of_some _ at')⟩ fun s' c' hm hc' hS' => ?_
    · have hv' : its[i]? = some v := by simpa using hv
      have hi' : i < ns.length := by rw [← len]; exact (List.getElem?_eq_some_iff.mp hv').1
      obtain ⟨t, e⟩ := hi.int_at i v hv'
      exact ⟨ns[i], t, List.getElem?_eq_getElem hi', by rw [e, List.getD_eq_getElem?_getD, List.getElem?_eq_getElem hi'] <;> rfl⟩
    · obtain ⟨h', g2, d', tk', os'⟩ := s'
      obtain rfl : g2 = s.gens := hm.gens
      obtain rfl : d' = s.drawn := hm.drawn
      obtain rfl : os' = s.os := hm.os
      refine wpAny_pure (show wpAny _ _ (ret Value.none) _ _ _ from wpAny_pure ⟨rfl, h', tk', c', rfl, hS', fun b o e => ?_⟩)
      have lb := Heap.lt_size e
      exact hm.heap b o (by rw [sz]; simp only [List.mem_cons, List.not_mem_nil, or_false, not_or]; exact ⟨Nat.ne_of_lt lb, Nat.ne_of_lt (Nat.lt_succ_of_lt lb)⟩) (Heap.get?_push_of_some _ (kp b o e))
  · rcases r₂ with e | (_ | _ | _ | r) <;> first | exact hr₂ | exact hr₂.elim | skip
    obtain ⟨rfl, h', tk, c', rfl, hS', hk'⟩ := hr₂
    repeat (any_goals (first | assumption | wp_step))
    exact go _ _ _ hS' hk'
end
end Mo
end
section
set_option maxHeartbeats 4000000
namespace Mo
open PySem L2 PyProof.Rows He
section
variable {G : Gm} {E : WM} {X : Cx}
theorem ints_rel {ρ : List Addr} {H : Hp} : ∀ {ks : List Int} {vs : List V}, VRels G ρ H vs (ks.map .int) → vs = ks.map V.int
  | [], _, .nil => rfl
  | k :: ks, _, .cons q qs => by
    cases q
    rw [ints_rel qs]
    rfl
theorem rel_ints {ρ : List Addr} {H : Hp} : ∀ ks : List Int, VRels G ρ H (ks.map V.int) (ks.map .int)
  | [] => .nil
  | k :: ks => .cons (.int k) (rel_ints ks)
theorem call_setI (hc : X.calm = true) : CallR X (.type "set") (fun xs H Q => ∃ (l : Addr) (ns : List Int), xs = [V.ref l] ∧ LX X.K H l (ns.map V.int) ∧ ns.length < MSET ∧ ∀ (a : Addr) (c : Nat), H a = none → Q (.ref a) (upd H a (SetO X.w a (fun j => decide (j ∈ ns)) c))) := by
  intro pins s σ H xs us Q I r h
  obtain ⟨l, ns, rfl, hl, hn, q⟩ := h
  rw [Vals.ref1 r]
  obtain ⟨_, its, n, rv, len, e⟩ := lx_at I hl
  refine set_of_list ns (I.ok.hd hc) e (ints_of_vals rv) (by unfold MSET at hn; unfold scanBound; omega) fun h' tk c R k => ?_
  refine ⟨.ref s.heap.objs.size, upd H s.heap.objs.size (SetO X.w s.heap.objs.size (fun j => decide (j ∈ ns)) c), ?_, rfl, q _ _ I.fresh⟩
  exact I.laid (t' := tk) k (Nat.le_refl _) (setO_new R)
theorem setO_len {w : World} {h : Heap} {a : Addr} {S : Int → Bool} {n : Nat} {ks : List Int} (R : SetR w h a S n) (m : ∀ k, S k = true ↔ k ∈ ks) : n = (sortU ks).length := by
  obtain ⟨o, es, ep, t, _, _, _, _, nd, mm, _, _, hn, _⟩ := R
  have nd2 : (sortU ks).Nodup := (sortU_pw ks).imp fun h => Int.ne_of_lt h
  have p : (es.toList.map L2.keyOf).Perm (sortU ks) := (List.perm_ext_iff_of_nodup nd nd2).mpr fun k => by rw [← mm k, m k, sortU_mem]
  have := p.length_eq
  rw [List.length_map] at this
  rw [← this, ← hn]
  simp
theorem cr_sortedSetM (hc : X.calm = true) : CallR X (.builtin "sorted") (fun vs H Q => ∃ (a : Addr) (S : Int → Bool) (n : Nat) (ks : List Int), vs = [V.ref a] ∧ H a = some (SetO X.w a S n) ∧ (∀ k, S k = true ↔ k ∈ ks) ∧ (sortU ks).length < 64 ∧ ∀ p, H p = none → Q (.ref p) (upd H p (.lst ((sortU ks).map V.int)))) := by
  intro pins s σ H xs us Q I r h
  obtain ⟨a, S, n, ks, rfl, ha, m, l, q⟩ := h
  refine cr_sortedSet hc pins s σ H _ us Q I r ⟨a, S, n, rfl, ha, by rw [setO_len (setO_get I ha) m]; exact l, fun ns p pw mm _ hp => ?_⟩
  rw [sortU_eq (fun j => (mm j).trans (m j)) pw]
  exact q p hp
section
variable {a : Expr} {ma : ME} {x y : Str} {p p2 pos pos2 : Pos}
theorem me_sortSet (hc : X.calm = true) (hK : X.K = G.K) (hg : Gl X x) (hm : X.mg x = none) (hv : bootBuiltins x = some (.builtin "sorted")) (hg2 : Gl X y) (hm2 : X.mg y = none) (hv2 : bootBuiltins y = some (.type "set")) (ha : PE X a (rd G E ma)) (hn : x ≠ "__name__" := by decide) (hdb : (x == ("__debug__" : Str)) = false := by decide) (hn2 : y ≠ "__name__" := by decide) (hdb2 : (y == ("__debug__" : Str)) = false := by decide)
    (hs : starEach [a] X.env = (false, eval a X.env) :: starEach [] X.env := by rfl) (hpl : (backTo pos2 (starEach [] X.env)).any (·.1) = false := by rfl)
    (hs2 : starEach [.Call (.Name y p2) [a] [] pos2] X.env = (false, eval (.Call (.Name y p2) [a] [] pos2) X.env) :: starEach [] X.env := by rfl) (hpl2 : (backTo pos (starEach [] X.env)).any (·.1) = false := by rfl) :
    PE X (.Call (.Name x p) [.Call (.Name y p2) [a] [] pos2] [] pos) (rd G E (eSortSet ma)) :=
  pe_w (pe_frz (pe_callB (cr_sortedSetM hc) hg hm hv (pa_cons (pe_callTy (call_setI hc) hg2 hm2 hv2 (pa_cons ha pa_nil hs) hn2 hdb2 hs hpl) pa_nil hs2) hn hdb hs2 hpl2)) fun σ H Q ⟨ρ, env, h, hs, hr, w⟩ => ⟨ρ, env, h, hs, hr, w.seq fun d h1 ρ1 H1 v g1 r1 q1 w1 => by
    unfold sortSetR at w1
    split at w1 <;> first | exact False.elim w1 | skip
    rename_i xs e
    split at w1 <;> first | exact False.elim w1 | skip
    rename_i ks e2
    obtain ⟨c, w1⟩ := Wp.ifR w1
    obtain ⟨c1, c2⟩ := Bool.and_eq_true_iff.mp c
    obtain ⟨l, us, rfl, hl, qs⟩ := seq_lx r1 e q1
    rw [intsOf_eq e2] at qs
    rw [ints_rel qs] at hl
    rw [hK]
    refine ⟨l, ks, rfl, hl, of_decide_eq_true c1, fun a n ha => ?_⟩
    refine ⟨a, _, n, ks, rfl, upd_same, fun k => by simp, of_decide_eq_true c2, fun p hp => ?_⟩
    have g := Grow.tmp (ρ := ρ1) ha (SetO X.w a (fun j => decide (j ∈ ks)) n)
    exact Leave.new (Wp.grow g w1) (r1.tmp ha _) (rel_ints _) hp⟩
end
end
end Mo
end
section
set_option maxHeartbeats 4000000
namespace Mo
open PySem L2 PyProof.Rows He
section
variable {G : Gm} {E : WM} {X : Cx} {ma : ME}
theorem rd_setC {w0 : World} {mi : MI} {own : List Nat} {one : Bool} {is : List Nat} {t : MT} {g : TG} (fin : List Int → Hm → R D) (hb : BdOk G (bindC one is) g own) (σ : L2.St) (H : Hp) (Q Q' : VK)
    (hf : ∀ ρ1 H1 ρ2 H2 h2 S n ks L, H1 L = none → Grow ρ1 H1 ρ2 H2 → HRel G ρ2 H2 h2 → L ∉ ρ2 → H2 L = some (SetO w0 L S n) → (∀ k, S k = true ↔ k ∈ ks) → Wp G (atW E σ) (VRel G) (fin ks h2) ρ1 H1 Q → Q' (.ref L) H2)
    (w : rd G E (fun σ h => (mi σ h).bind fun J h1 => (setGo (bindC one is) t ma J.ok (wipe σ own) J.xs [] h1).bind fin) σ H Q) : tScI w0 (rdI G E mi) g (rdT G EW t) (rd G EW ma) own σ H Q' := by
  obtain ⟨ρ, env, h, hs, hr, w⟩ := w
  refine ⟨ρ, env, h, hs, hr, Wp.seq w fun J h1 ρ1 H1 JJ g1 r1 y w1 => ?_⟩
  intro L hL
  have s1 := hs.grow g1
  have gL := Grow.tmp (ρ := ρ1) hL (SetO w0 L (fun _ => false) 0)
  let Wn : Nat → Hp → Prop := fun i H2 => i ≤ J.xs.length ∧ ∃ ρ2 h2 ks S n, Grow ρ1 H1 ρ2 H2 ∧ HRel G ρ2 H2 h2 ∧ L ∉ ρ2 ∧ H2 L = some (SetO w0 L S n) ∧ (∀ k, S k = true ↔ k ∈ ks) ∧ n ≤ ks.length ∧
    Wp G (atW E σ) (VRel G) ((setGo (bindC one is) t ma J.ok (wipe env own) (J.xs.drop i) ks h2).bind fin) ρ1 H1 Q
  refine ⟨fun i m H2 => m = J.xs.length - i ∧ Wn i H2, ⟨_, rfl, Nat.zero_le _, ρ1, h1, [], _, 0, gL, r1.tmp hL _, r1.fresh hL, upd_same, fun k => by simp, Nat.le_refl _, w1⟩, ?_⟩
  rintro i m H2 ⟨rfl, hle, ρ2, h2, ks, S, n, g2, r2, n2, e2, mem, nle, w2⟩
  by_cases hlt : i < J.xs.length
  · rw [List.drop_eq_getElem_cons hlt] at w2
    unfold setGo at w2
    split at w2 <;> first | exact False.elim w2 | skip
    rename_i env3 ok eb
    refine .inr ⟨y.go ρ2 H2 h2 i g2 r2 ok hlt, Wn (i + 1), fun H' q => ⟨J.xs.length - (i + 1), by omega, rfl, q⟩, fun x H3 yl => ?_⟩
    obtain ⟨ρ3, g3, r3, q3⟩ := y.yld ρ2 H2 h2 i x H3 g2 r2 ok yl J.xs[i] (by simp [hlt])
    refine hb ρ3 H3 J.xs[i] x _ env3 _ q3 (((s1.grow g2).grow g3).wipe own) eb _ fun σ4 s4 ew => ⟨by rw [ew, wipe_wipe], ρ3, env3, h2, s4, r3, ?_⟩
    obtain ⟨e3, n3⟩ := g3.out L _ e2 n2
    let P : R (List Int) → Prop := fun r => Wp G (atW E σ) (VRel G) (r.bind fin) ρ1 H1 Q
    refine Wp.seqQ P (fun z => z) w2 fun k h4 ρ4 H4 b g4 r4 q4 w4 => ?_
    obtain rfl : b = k := q4
    obtain ⟨e4, n4⟩ := g4.out L _ e3 n3
    have gg := (g2.trans g3).trans g4
    cases b with
    | false => exact ⟨hlt, ρ4, h4, ks, S, n, gg, r4, n4, e4, mem, nle, w4⟩
    | true =>
      show rd G EW ma σ4 H4 _
      refine ⟨ρ4, env3, h4, s4.grow g4, r4, Wp.seqQ P (fun z => z) w4 fun d h5 ρ5 H5 v g5 r5 q5 w5 => ?_⟩
      obtain ⟨e5, n5⟩ := g5.out L _ e4 n4
      cases q5 with
      | int k =>
        have w5 : P (ifR (decide (ks.length < MSET)) (setGo (bindC one is) t ma J.ok (wipe env own) (J.xs.drop (i + 1)) (ks ++ [k]) h5)) := w5
        cases c : decide (ks.length < MSET) with
        | false => rw [c] at w5; exact False.elim w5
        | true =>
          rw [c] at w5
          have c := of_decide_eq_true c
          obtain ⟨r6, x6⟩ := r5.aside (u' := SetO w0 L (fun j => S j || decide (j = k)) (if S k = true then n else n + 1)) n5 e5 trivial
          have g6 := gg.trans g5
          refine ⟨k, S, n, rfl, e5, by unfold MSET at c; unfold scanBound; omega, hlt, ρ5, h5, ks ++ [k], _, _, ⟨g6.pre, fun b xs e => ?_, fun b o u e => ?_, fun b o e nn kt => ?_⟩, r6, n5, upd_same, fun j => ?_, ?_, w5⟩
          · rw [upd_ne (ne_of_none e hL)]; exact g6.tup b xs e
          · rw [upd_ne (ne_of_none e hL)]; exact g6.frz b o u e
          · rw [upd_ne (ne_of_none e hL)]; exact g6.out b o e nn kt
          · rw [Bool.or_eq_true, mem j, decide_eq_true_eq, List.mem_append, List.mem_singleton]
          · rw [List.length_append, List.length_singleton]
            split <;> omega
      | _ => exact False.elim w5
  · have e : i = J.xs.length := by omega
    subst e
    rw [List.drop_length] at w2
    unfold setGo at w2
    cases ok : J.ok h2 with
    | false => rw [ok] at w2; exact False.elim w2
    | true =>
      rw [ok] at w2
      exact .inl ⟨y.stop ρ2 H2 h2 _ g2 r2 ok (Nat.le_refl _), hf ρ1 H1 ρ2 H2 h2 S n ks L hL g2 r2 n2 e2 mem w2⟩
variable {tg it elt : Expr} {ifs : List Expr} {scope : Scope} {own : List (Str × Nat)} {mi : MI} {t : MT} {one : Bool} {is : List Nat} {g : TG} {x : Str} {p pos pos2 : Pos}
end
end Mo
end
section
namespace Mo
open PySem L2 PyProof.Rows He
section
variable {G : Gm} {E : WM} {X : Cx}
abbrev E0x : XK := fun _ _ _ => False
def CallsIn (X : Cx) (G : Gm) (A : Around) (f : Addr) (n : Nat) (F : Fn) : Prop := ∀ (pins : List (Addr × Obj)) (s : Shared) (σ : L2.St) (H : Hp) (us : List Value) (vs : List V) (ρ : List Addr) (h : Hm) (ds : List D) (Q : VK), Inv X pins σ H s → Vals vs us → HRel G ρ H h → VRels G ρ H vs ds → ds.length = n →
  Wp G E0x (VRel G) (F ds h) ρ H Q → wpAny (model X.prog X.w) A (call (.ref f) us) (EP X pins σ Q) X.xe s
theorem OkD.callsIn {A : Around} {j k n : Nat} {d : DefD} {ps : List Str} {F : Fn} (O : OkD X.prog X.w X.K X.mg X.base k d ps F G) (B : Form X.K G d ps n [] (fun ds _ => ds)) (rg : RG j A) (he : ∀ {pins : List (Addr × Obj)} {σ : L2.St} {H : Hp} {s : Shared}, Inv X pins σ H s → Env0 X.prog X.w X.K X.mg X.base A X.stack s H) (hkj : k ≤ j := by decide) : CallsIn X G A (fAd X.K d.at_) n F := by
  obtain ⟨fd, FD, FG⟩ := O
  obtain ⟨gV, b1, b2, b3⟩ := B
  obtain ⟨g, kb⟩ := b1 fd FD
  intro pins s σ H us vs ρ h ds Q I rv hr qv hn w
  have l1 : us.length = n := by rw [← rv.length, qv.length, hn]
  obtain ⟨k1, k2⟩ := b2 ρ H vs ds [] [] qv .nil hn rfl
  have kb1 := kb.to s us [] I.kIn l1 rfl
  refine wpAny_call (codeAny_mono (FG.go A (rg.mono hkj) X.stack s H ⟨us, []⟩ (g us []) (gV vs []) Q E0x (he I) kb1 (kb.rel rv .nil) ⟨ρ, ds, h, hr, k1, by rw [k2]; exact b3 ds [] hn rfl, w⟩) fun r s' hq => ?_)
  cases r with
  | error e => exact (passEW pins σ H s e s' I hq)
  | ok fl =>
    cases fl with
    | ret u => exact I.after hq
    | _ => exact (hq : False).elim
def SlotF (X : Cx) (G : Gm) (A : Around) (m : Str) (n : Nat) (ms : List (Nat × Fn)) : Prop := ∀ c F, pickF c ms = some F → ∃ f, Meth X.K (G.cA c) m f ∧ CallsIn X G A f n F
theorem slotF_nil {A : Around} {m : Str} {n : Nat} : SlotF X G A m n [] := fun c F e => nomatch e
theorem slotF_cons {A : Around} {m : Str} {n c : Nat} {f : Addr} {F : Fn} {ms : List (Nat × Fn)} (h2 : Meth X.K (G.cA c) m f) (h3 : CallsIn X G A f n F) (hr : SlotF X G A m n ms) : SlotF X G A m n ((c, F) :: ms) := fun d F' e => by
  have e : (if c = d then some F else pickF d ms) = some F' := e
  by_cases k : c = d
  · rw [if_pos k] at e
    cases e
    subst k
    exact ⟨f, h2, h3⟩
  · rw [if_neg k] at e
    exact hr d F' e
def rOwn1 (G : Gm) (ms : List (Nat × Fn)) (chk : D → Hm → R D) : List V → Hp → VK → Prop := fun xs H Q => ∃ ρ h l a F, xs = [.ref a] ∧ HRel G ρ H h ∧ ρ[l]? = some a ∧ ownM ms h (.loc l) = some F ∧ Wp G E0x (VRel G) ((F [.loc l] h).quiet.bind chk) ρ H Q
theorem quiet_wp {E' : XK} {ρ : List Addr} {H : Hp} {r : R D} {chk : D → Hm → R D} {Q Q1 : VK} (w : Wp G E' (VRel G) (r.quiet.bind chk) ρ H Q) (k : ∀ d h' ρ' H' v, Grow ρ H ρ' H' → HRel G ρ' H' h' → VRel G ρ' H' v d → Wp G E' (VRel G) (chk d h') ρ' H' Q → Q1 v H') : Wp G E0x (VRel G) r ρ H Q1 := by
  cases r with
  | ok d h' => exact fun ρ' H' v g hr q => k d h' ρ' H' v g hr q (Wp.grow g w)
  | exc c l h' => exact False.elim w
  | bad => exact w
theorem own_at {ρ : List Addr} {H : Hp} {h : Hm} {l : Nat} {a : Addr} {ms : List (Nat × Fn)} {F : Fn} (r : HRel G ρ H h) (hl : ρ[l]? = some a) (e : ownM ms h (.loc l) = some F) : ∃ c dx fvs, H a = some (.ins (G.cA c) dx fvs) ∧ pickF c ms = some F := by
  simp only [ownM] at e
  split at e <;> first | (cases e; done) | skip
  rename_i c fs e1
  obtain ⟨dx, fvs, e2, _⟩ := r.at e1 hl
  exact ⟨c, dx, fvs, e2, e⟩
theorem call_lenOwn {ms : List (Nat × Fn)} (hM : SlotF X G X.A.in1 "__len__" 1 ms) : CallR X (.builtin "len") (rOwn1 G ms chkLen) := by
  intro pins s σ H xs us Q I r hh
  obtain ⟨ρ, h, l, a, F, rfl, hr, hl, e, w⟩ := hh
  rw [Vals.ref1 r]
  obtain ⟨c, dx, fvs, ea, ep⟩ := own_at hr hl e
  obtain ⟨f, M, cf⟩ := hM c F ep
  obtain ⟨mA, O, _⟩ := ins_get I.hok ea
  obtain ⟨od, J, _⟩ := O.look
  obtain ⟨m, hF⟩ := I.fr
  refine PySem.W.len_K hF I.ok.mod.kin J M.at_ M.fn (wpAny_mono (cf pins s σ H [.ref a] [.ref a] ρ h [.loc l] (fun v H' => ∃ i : Int, v = .int i ∧ (0 ≤ i ∧ i < 2 ^ 63) ∧ Q (.int i) H') I (.cons rfl .nil) hr (.cons (.loc hl) .nil) rfl (quiet_wp w fun d h' ρ' H' v g r' q w' => ?_)) (fun u s' hu => ?_) fun _ _ x => x)
  · unfold chkLen at w'
    split at w' <;> first | exact False.elim w' | skip
    cases q
    obtain ⟨c, w'⟩ := Wp.ifR w'
    exact ⟨_, rfl, of_decide_eq_true c, w'.val r' (.int _)⟩
  · obtain ⟨v, H', I', rv, i, rfl, hi, q⟩ := hu
    obtain ⟨t, rfl⟩ := rv
    exact ⟨hi, .int i, H', I'.tok _, ⟨_, rfl⟩, q⟩
theorem call_reprOwn {ms : List (Nat × Fn)} (hu : X.A.in1.units < cLine) (hM : SlotF X G X.A.in1 "__repr__" 1 ms) : CallR X (.builtin "repr") (rOwn1 G ms chkStr) := by
  intro pins s σ H xs us Q I r hh
  obtain ⟨ρ, h, l, a, F, rfl, hr, hl, e, w⟩ := hh
  rw [Vals.ref1 r]
  obtain ⟨c, dx, fvs, ea, ep⟩ := own_at hr hl e
  obtain ⟨f, M, cf⟩ := hM c F ep
  obtain ⟨mA, O, _⟩ := ins_get I.hok ea
  obtain ⟨od, J, _⟩ := O.look
  obtain ⟨m, hF⟩ := I.fr
  refine PySem.W.repr_K hu hF I.ok.mod.kin J M.at_ M.fn (wpAny_mono (cf pins s σ H [.ref a] [.ref a] ρ h [.loc l] (fun v H' => ∃ i : Str, v = .str i ∧ Q (.str i) H') I (.cons rfl .nil) hr (.cons (.loc hl) .nil) rfl (quiet_wp w fun d h' ρ' H' v g r' q w' => ?_)) (fun u s' hu => ?_) fun _ _ x => x)
  · unfold chkStr at w'
    split at w' <;> first | exact False.elim w' | skip
    cases q
    exact ⟨_, rfl, w'.val r' (.str _)⟩
  · obtain ⟨v, H', I', rv, i, rfl, q⟩ := hu
    obtain ⟨t, rfl⟩ := rv
    exact ⟨.str i, H', I', ⟨_, rfl⟩, q⟩
theorem rg_in1 {A : Around} {k : Nat} (rg : RG (k + 1) A) : RG k A.in1 := ⟨rg.r.in1, rg.g⟩
theorem bs_own1 {ms : List (Nat × Fn)} {chk : D → Hm → R D} {b : Bi} {r : List V → Hp → VK → Prop} (hb : BiS G E r b) (hq : ∀ (x : D) (h : Hm) (E1 E2 : XK) ρ H Q, Wp G E1 (VRel G) (chk x h) ρ H Q → Wp G E2 (VRel G) (chk x h) ρ H Q) : BiS G E (fun xs H Q => r xs H Q ∨ rOwn1 G ms chk xs H Q) (bOwn1 ms chk b) := by
  intro τ ρ H h ds vs Q hr q w
  unfold bOwn1 at w
  split at w
  · rename_i x
    split at w
    · rename_i F e
      obtain ⟨v, rfl, k⟩ := vs1 q
      cases k with
      | @loc a l hl =>
        refine .inr ⟨ρ, h, l, a, F, rfl, hr, hl, e, ?_⟩
        cases e2 : F [.loc l] h with
        | ok d h' => rw [e2] at w; exact hq d h' _ _ ρ H Q w
        | exc c l h' => rw [e2] at w; exact False.elim w
        | bad => rw [e2] at w; exact False.elim w
      | _ => cases e
    · exact .inl (hb τ ρ H h _ vs Q hr q w)
  · exact .inl (hb τ ρ H h _ vs Q hr q w)
theorem bs_lenU {ms : List (Nat × Fn)} : BiS G E (fun xs H Q => rLen G.K xs H Q ∨ rOwn1 G ms chkLen xs H Q) (bLenU ms) := bs_own1 bs_len fun x h E1 E2 ρ H Q w => by
  unfold chkLen ifR at w ⊢
  split at w <;> first | exact False.elim w | skip
  split at w
  · exact w
  · exact False.elim w
theorem bs_reprU {ms : List (Nat × Fn)} : BiS G E (fun xs H Q => rRepr G.K xs H Q ∨ rOwn1 G ms chkStr xs H Q) (bReprU ms) := bs_own1 bs_repr fun x h E1 E2 ρ H Q w => by
  unfold chkStr at w ⊢
  split at w
  · exact w
  · exact False.elim w
theorem cl_lenU {ms : List (Nat × Fn)} (hK : X.K = G.K) (hM : SlotF X G X.A.in1 "__len__" 1 ms) : CallR X (.builtin "len") (fun xs H Q => rLen G.K xs H Q ∨ rOwn1 G ms chkLen xs H Q) := by
  rw [← hK]
  exact cl_len.or (call_lenOwn hM)
theorem cl_reprU {ms : List (Nat × Fn)} {k : Nat} (hK : X.K = G.K) (rg : RG (k + 1) X.A) (hM : SlotF X G X.A.in1 "__repr__" 1 ms) : CallR X (.builtin "repr") (fun xs H Q => rRepr G.K xs H Q ∨ rOwn1 G ms chkStr xs H Q) := by
  rw [← hK]
  exact (cl_repr rg).or (call_reprOwn (rg_in1 rg).r.units0 hM)
theorem cl_str : CallR X (.type "str") (fun xs H Q => (∃ i, xs = [.int i] ∧ i.natAbs.log2 < 1920 ∧ Q (.str (toString i)) H) ∨ ∃ a, xs = [.str a] ∧ Q (.str a) H) := call_str_int.or SkE.call_str_str
theorem bs_str : BiS G E (fun xs H Q => (∃ i, xs = [.int i] ∧ i.natAbs.log2 < 1920 ∧ Q (.str (toString i)) H) ∨ ∃ a, xs = [.str a] ∧ Q (.str a) H) bStr := by
  intro τ ρ H h ds vs Q r q w
  unfold bStr at w
  split at w <;> first | exact False.elim w | skip
  · obtain ⟨v, rfl, k⟩ := vs1 q
    cases k
    obtain ⟨c, w⟩ := Wp.ifR w
    exact .inl ⟨_, rfl, of_decide_eq_true c, w.val r (.str _)⟩
  · obtain ⟨v, rfl, k⟩ := vs1 q
    cases k
    exact .inr ⟨_, rfl, w.val r (.str _)⟩
theorem me_fmt {a : Expr} {ma : ME} {pos : Pos} (ha : PE X a (rd G E ma)) : PE X (.FormattedValue a (-1) none pos) (rd G E (eFmt ma)) :=
  pe_w (pe_fmt ha) fun σ H Q ⟨ρ, env, h, hs, hr, w⟩ => ⟨ρ, env, h, hs, hr, w.seq fun x h1 ρ1 H1 v g1 r1 q1 w1 => by
    unfold fmtR at w1
    split at w1 <;> first | exact False.elim w1 | skip
    · cases q1
      obtain ⟨c, w1⟩ := Wp.ifR w1
      exact .inr ⟨_, rfl, of_decide_eq_true c, w1.val r1 (.str _)⟩
    · cases q1
      obtain ⟨c, w1⟩ := Wp.ifR w1
      exact .inl ⟨_, rfl, sl_le (of_decide_eq_true c), w1.val r1 (.str _)⟩⟩
inductive PJm (X : Cx) (G : Gm) (E : WM) : List Expr → List ME → Prop
  | nil : PJm X G E [] []
  | cons {e : Expr} {m : ME} {es : List Expr} {ms : List ME} (h : PE X e (rd G E m)) (r : PJm X G E es ms) : PJm X G E (e :: es) (m :: ms)
theorem PJm.pj {es : List Expr} {ms : List ME} (h : PJm X G E es ms) : PJ X es (ms.map (rd G E)) := by
  induction h with
  | nil => exact .nil
  | cons h _ ih => exact .cons h ih
theorem join_rd : ∀ {ms : List ME} {acc : Str} {ρ : List Addr} {σ : L2.St} {env : Env} {H : Hp} {h : Hm} {Q : VK}, SRel G ρ H σ env → HRel G ρ H h → Wp G (atW E σ) (VRel G) (joinGo ms acc env h) ρ H Q → tJs (ms.map (rd G E)) acc σ H fun out H1 => Q (.str out) H1
  | [], acc, ρ, σ, env, H, h, Q, hs, hr, w => Wp.val w hr (.str acc)
  | m :: ms, acc, ρ, σ, env, H, h, Q, hs, hr, w => by
    have w : Wp G (atW E σ) (VRel G) ((m env h).bind fun x h1 => match x with | .str y => ifR (decide ((acc ++ y).length ≤ SL)) (joinGo ms (acc ++ y) env h1) | _ => .bad) ρ H Q := w
    refine ⟨ρ, env, h, hs, hr, w.seq fun x h1 ρ1 H1 v g1 r1 q1 w1 => ?_⟩
    split at w1 <;> first | exact False.elim w1 | skip
    cases q1
    obtain ⟨c, w1⟩ := Wp.ifR w1
    exact ⟨_, rfl, sl_le (of_decide_eq_true c), join_rd (hs.grow g1) r1 w1⟩
theorem me_fs {e1 e2 : Expr} {es : List Expr} {ms : List ME} {pos : Pos} (h : PJm X G E (e1 :: e2 :: es) ms) : PE X (.JoinedStr (e1 :: e2 :: es) pos) (rd G E (eFs ms)) :=
  pe_w (pe_joined h.pj) fun σ H Q ⟨ρ, env, hh, hs, hr, w⟩ => join_rd hs hr w
end
end Mo
end
section
namespace Mo
open PySem L2 PyProof.Rows He
theorem valB_ok {o : Option PySem.W.CFound} {id : String} (h : valB o id = true) : o = some (.val (.builtin id)) := by
  unfold valB at h
  split at h
  · rw [of_decide_eq_true h]
  · cases h
section
variable {X : Cx} {B newId initId : String} {tl : List Value} {x f g : Str} {ts : TS}
structure BIn (X : Cx) (tl : List Value) (newId : String) (x : Str) : Prop where
  go : ∀ {e : Expr} {es : List Expr} {ta : TA} {p1 p2 pos : Pos} {pl : Sem Bool}, PA X (e :: es) ta → (x == ("__debug__" : Str)) = false →
    (eval (.Call (.Attribute (.Name x p1) "__init__" p2) (e :: es) [] pos) X.env = (do
      let ov ← eval (.Name x p1) X.env
      standAt p2.atName
      let (f, first) ← holding [ov] (getMethod ov "__init__" pl)
      callWith pos f first (backTo pos (starEach (e :: es) X.env)) (backToKw pos (keywordEach [] X.env)))) →
    starEach (e :: es) X.env = (false, eval e X.env) :: starEach es X.env → (backTo pos (starEach es X.env)).any (·.1) = false → PE X (.Call (.Attribute (.Name x p1) "__init__" p2) (e :: es) [] pos) (tXI X.K tl newId ta)
theorem bin_b (Fb : BaF B newId initId tl) (hg : Gl X x) (hm : X.mg x = none) (hv : bootBuiltins x = some (.type B)) (vV : biB X.K B initId = true) (hty : PySem.W.kitMeta B = true := by decide +kernel) (hst : Manifest.isStub B = false := by decide +kernel) (hh : PySem.W.handedIn (.builtin initId) = true := by decide +kernel)
    (hn : x ≠ "__name__" := by decide) : BIn X tl newId x := ⟨fun ha hdb hc he hpl => pe_binit Fb hg hm hv (PySem.W.kitMeta_of hty) hst hh (valB_ok vV) ha hn hdb hc he hpl⟩
theorem bin_c (Fb : BaF B newId initId tl) (hg : Gl X x) (hm : X.mg x = some (.ref (ga X.K x))) (vV : ciB X.K x initId = true) (hh : PySem.W.handedIn (.builtin initId) = true := by decide +kernel) : BIn X tl newId x := ⟨fun ha hdb hc he hpl => by
  obtain ⟨a, b⟩ := ba vV
  obtain ⟨b, c⟩ := ba b
  exact pe_cinit Fb hg hm (eqO_ok a) b hh (valB_ok c) ha hdb hc he hpl⟩
end
theorem tryB1_ok {K : PySem.W.Frag} {cA : Nat → Addr} {u : Value} {ks cs : List Nat} (h : tryB1 K cA u ks cs = true) : ∀ c, ks.contains c = true → PySem.W.exmOne K (.ref (cA c)) u = some (cs.contains c) := fun c k => of_decide_eq_true (List.all_eq_true.mp h c (by simpa using k))
theorem names_own {X : Cx} {x : Str} (hg : Gl X x) (hm : X.mg x = some (.ref (ga X.K x))) (hd : (x == ("__debug__" : Str)) = false := by decide) : Names X x (.ref (ga X.K x)) := ⟨hg, hd, .inl hm⟩
end Mo
end
section
namespace Mo
open PySem
def slX (x : D) (l u : Option Int) (h : Hm) : R D := match x with
  | .tup xs => .ok (.tup (cutL xs l u)) h
  | x => match h.seq x with
    | some xs => .ok (.kl (cutL xs l u)) h
    | none => .bad
def eSlX (a : ME) (lo hi : MO) : ME := fun σ h => (a σ h).bind fun x h1 => (lo σ h1).bind fun l h2 => (hi σ h2).bind fun u h3 => slX x l u h3
section
variable {E : XE} {σ : Env} {h : Hm} {Q : D → Hm → Prop} {a : ME}
theorem ev_slX {lo hi : MO} (q : Ev E (a σ h) fun x h1 => Ev E (lo σ h1) fun l h2 => Ev E (hi σ h2) fun u h3 => Ev E (slX x l u h3) Q) : Ev E (eSlX a lo hi σ h) Q := ev_bind (q.mono fun x h1 w => ev_bind (w.mono fun l h2 w => ev_bind w))
theorem ev_slXT {xs : List D} {l u : Option Int} (q : Q (.tup (cutL xs l u)) h) : Ev E (slX (.tup xs) l u h) Q := q
theorem ev_slXK {xs : List D} {l u : Option Int} (q : Q (.kl (cutL xs l u)) h) : Ev E (slX (.kl xs) l u h) Q := q
end
end Mo
end
section
namespace Mo
open PySem
def mReverse : Mb
  | .loc l, [], h => match h.g l with
    | some (.lst xs) => .ok .non (h.put l (.lst xs.reverse))
    | _ => .bad
  | _, _, _ => .bad
def mClear : Mb
  | .loc l, [], h => match h.g l with
    | some (.lst _) => .ok .non (h.put l (.lst []))
    | _ => .bad
  | _, _, _ => .bad
section
variable {E : XE} {h : Hm} {Q : D → Hm → Prop}
theorem ev_reverse {l : Nat} {xs : List D} (e : h.g l = some (.lst xs)) (q : Q .non (h.put l (.lst xs.reverse))) : Ev E (mReverse (.loc l) [] h) Q := by
  unfold mReverse
  simp only [e]
  exact q
theorem ev_clear {l : Nat} {xs : List D} (e : h.g l = some (.lst xs)) (q : Q .non (h.put l (.lst []))) : Ev E (mClear (.loc l) [] h) Q := by
  unfold mClear
  simp only [e]
  exact q
end
end Mo
end
section
namespace Mo
open PySem L2 PyProof.Rows He
section
variable {G : Gm} {E : WM} {X : Cx} {a : Expr} {ma : ME} {pos : Pos}
theorem sIx_eq (n d : Nat) (o : Option Int) : HT.sIx n d o = sIx n d o := by cases o <;> rfl
theorem cut_all {xs : List D} {y z : Option Int} (c1 : sIx xs.length 0 y = 0) (c2 : sIx xs.length xs.length z = xs.length) : cutL xs y z = xs := by
  unfold cutL
  rw [c1, c2]
  simp
theorem me_slX {lo hi : Option Expr} {ml mh : MO} {p2 : Pos} (hK : X.K = G.K) (ha : PE X a (rd G E ma)) (hl : PO X lo (rdO G E ml)) (hh : PO X hi (rdO G E mh)) : PE X (.Subscript a (.Slice lo hi none p2) pos) (rd G E (eSlX ma ml mh)) :=
  pe_w (pe_frzO (pe_slice (sl_list.or sl_tupA) ha hl hh)) fun σ H Q ⟨ρ, env, h, hs, hr, w⟩ => ⟨ρ, env, h, hs, hr, w.seq fun x h1 ρ1 H1 v g1 r1 q1 w1 => ⟨ρ1, env, h1, hs.grow g1, r1, w1.seq fun y h2 ρ2 H2 u g2 r2 q2 w2 =>
    ⟨ρ2, env, h2, (hs.grow g1).grow g2, r2, w2.seq fun z h3 ρ3 H3 t g3 r3 q3 w3 => by
      cases q2
      cases q3
      have q1 := (q1.grow g2).grow g3
      unfold slX at w3
      split at w3
      · cases q1 with
        | tup h1 h2 =>
          rw [hK]
          refine .inr ⟨_, _, rfl, h1, fun ⟨c1, c2⟩ => .inr ?_, fun _ p' hp => .inr ?_⟩
          · rw [sIx_eq, h2.length] at c1 c2
            rw [cut_all c1 c2] at w3
            exact w3.val r3 (.tup h1 h2)
          · exact w3 ρ3 _ _ (Grow.tmp hp _) (r3.tmp hp _) (.tup (SqT.of upd_same) ((cut_rel h2 _ _).grow (Grow.tmp hp _)))
      · split at w3
        · rename_i xs e
          obtain ⟨p, vs, rfl, hl, qs⟩ := r3.seqL e q1
          rw [hK]
          exact .inl ⟨p, vs, rfl, hl, fun p' hp => .inl (Leave.new w3 r3 (cut_rel qs _ _) hp)⟩
        · exact False.elim w3⟩⟩⟩
end
section
variable {X : Cx} {B newId initId : String} {tl : List Value} {x f f' n0 n1 n2 : Str} {p1 p2 pos pos2 p3 p4 p5 p6 p7 p8 pa pb pc : Pos}
theorem xb1 (Fb : BaF B newId initId tl) (b : BIn X tl newId x) (h0 : X.N[0]? = some n0) (h1 : X.N[1]? = some n1) (v0 : Vis X.env.scope n0) (v1 : Vis X.env.scope n1) (hf : f = f') (hd0 : (n0 == ("__debug__" : Str)) = false := by decide) (hd1 : (n1 == ("__debug__" : Str)) = false := by decide) (hc0 : (n0 == ("__classdict__" : Str)) = false := by decide) (hc1 : (n1 == ("__classdict__" : Str)) = false := by decide) (hdb : (x == ("__debug__" : Str)) = false := by decide)
    {pl : Sem Bool} (hc : eval (.Call (.Attribute (.Name x p1) "__init__" p2) [.Name n0 p3, .Name n1 p4] [] pos) X.env = (do
      let ov ← eval (.Name x p1) X.env
      standAt p2.atName
      let (f, first) ← holding [ov] (getMethod ov "__init__" pl)
      callWith pos f first (backTo pos (starEach [.Name n0 p3, .Name n1 p4] X.env)) (backToKw pos (keywordEach [] X.env))) := by rfl)
    (hs0 : swapsWith (.Call (.Attribute (.Name x p1) "__init__" p2) [.Name n0 p3, .Name n1 p4] [] pos) none pos2.line X.env = pure false := by rfl) (hs : swapsWith (.Name n1 p6) (some (.Attribute (.Name n0 p5) f pb)) pa.line X.env = pure false := by rfl) :
    PSs X [.Expr (.Call (.Attribute (.Name x p1) "__init__" p2) [.Name n0 p3, .Name n1 p4] [] pos) pos2, .Assign [.Attribute (.Name n0 p5) f pb] (.Name n1 p6) pa] (xB1 X.K tl newId f') := by
  subst hf
  have e0 : ∀ {p : Pos}, PE X (.Name n0 p) (tVar 0) := pe_var h0 v0 hd0 hc0
  have e1 : ∀ {p : Pos}, PE X (.Name n1 p) (tVar 1) := pe_var h1 v1 hd1 hc1
  exact pss_cons (ps_expr (b.go (pa_cons e0 (pa_cons e1 pa_nil)) hdb hc rfl rfl) hs0) (pss_one (ps_xst Fb e0 e1 hs))
theorem hX_nil {K : PySem.W.Frag} {cA : Nat → Addr} {f : Str} : ∀ c, ([] : List Nat).contains c = true → XfC K (cA c) ∧ PySem.W.findIn K (.ref (cA c)) f = some none := fun c z => nomatch z
theorem hX_cons {K : PySem.W.Frag} {cA : Nat → Addr} {f : Str} {c0 : Nat} {cs : List Nat} {x : Str} {tl : List Value} {newId : String} {fsn : List Str} (e : ga K x = cA c0) (h1 : excB K x tl newId fsn = true) (hf : f ∈ fsn) (hr : ∀ c, cs.contains c = true → XfC K (cA c) ∧ PySem.W.findIn K (.ref (cA c)) f = some none) : ∀ c, (c0 :: cs).contains c = true → XfC K (cA c) ∧ PySem.W.findIn K (.ref (cA c)) f = some none := fun c z => by
  rw [List.contains_cons, Bool.or_eq_true] at z
  rcases z with z | z
  · rw [beq_iff_eq.mp z, ← e]
    exact ⟨(excB_ok h1).xf, (excB_ok h1).n f hf⟩
  · exact hr c z
theorem xc1 {P : Program} {w : World} {K : PySem.W.Frag} {mg : Str → Option Value} {base : Heap} {C : Str} {d : DefD} {N ps : List Str} {f : Str} (Fb : BaF B newId initId tl) (h : excB K C tl newId [f] = true) (fd : ∃ fd, FunD K d.name d.qual d.params d.body d.scope [] (d.kws K) (ma K (ga K C) "__init__") fd) (S : FnScope N ps d.scope) (hN : N.length = 2) (hps : ps.length = 2) (hk : d.kws K = [])
    (hb : ∀ (cdv : Value) (A : Around) (outer : List PySem.Env) (s : Shared) (H : Hp) (E : XK), PSs (cxOf (L2.CX P w) P w K mg base N d.qual d.scope (ma K (ga K C) "__init__") cdv A outer s H E) d.body (xB1 K tl newId f))
    (hbd : ∀ (kV doc pm : Value) (an : Option Addr) (cdv ct : Value) (us : List Value), us.length = ps.length → bindArgs (PySem.W.fnOf d.name d.qual d.params d.body d.scope .none kV doc pm an cdv ct) ⟨us, []⟩ = pure (ps.zip us)) : XC P w K mg base (ga K C) [f] := by
  obtain ⟨fd, FD⟩ := fd
  have x := excB_ok h
  rw [hk] at FD
  exact ⟨B, newId, initId, tl, _, fd, ps, Fb, x.t, x.i, x.f, xok1 x.t (x.n f (by simp)) FD hN hps S hb, FD.bindsN hbd⟩
end
theorem isC_nil {K : PySem.W.Frag} {cA : Nat → Addr} : ∀ (c : Nat) (b : Bool), (c, b) ∈ ([] : List (Nat × Bool)) → Cls K (cA c) := fun c b h => nomatch h
theorem isC_cons {K : PySem.W.Frag} {cA : Nat → Addr} {c0 : Nat} {b0 : Bool} {l : List (Nat × Bool)} (h : Cls K (cA c0)) (r : ∀ (c : Nat) (b : Bool), (c, b) ∈ l → Cls K (cA c)) : ∀ (c : Nat) (b : Bool), (c, b) ∈ (c0, b0) :: l → Cls K (cA c) := fun c b m => by
  rcases List.mem_cons.mp m with e | m
  · cases e
    exact h
  · exact r c b m
end Mo
end
section
namespace Mo
open PySem L2 PyProof.Rows He
section
variable {G : Gm} {E : WM}
theorem vrels_rev {ρ : List Addr} {H : Hp} : ∀ {vs : List V} {ds : List D}, VRels G ρ H vs ds → VRels G ρ H vs.reverse ds.reverse
  | _, _, .nil => .nil
  | _, _, .cons q qs => by
    rw [show ∀ (x : V) xs, (x :: xs).reverse = xs.reverse ++ [x] from fun _ _ => List.reverse_cons, show ∀ (x : D) xs, (x :: xs).reverse = xs.reverse ++ [x] from fun _ _ => List.reverse_cons]
    exact (vrels_rev qs).append (.cons q .nil)
theorem bs_reverse : MbS G E rReverse mReverse := by
  intro τ ρ H h x v ds vs Q r q qs w
  unfold mReverse at w
  split at w
  · cases qs
    cases q with
    | @loc a l ha =>
      split at w <;> first | exact False.elim w | skip
      rename_i xs e
      obtain ⟨ws, e2, k2⟩ := r.at e ha
      exact ⟨a, ws, rfl, rfl, e2, w.putL r ha e2 (vrels_rev k2) .non⟩
  · exact False.elim w
theorem bs_clear : MbS G E rClear mClear := by
  intro τ ρ H h x v ds vs Q r q qs w
  unfold mClear at w
  split at w
  · cases qs
    cases q with
    | @loc a l ha =>
      split at w <;> first | exact False.elim w | skip
      rename_i xs e
      obtain ⟨ws, e2, k2⟩ := r.at e ha
      exact ⟨a, ws, rfl, rfl, e2, w.putL r ha e2 .nil .non⟩
  · exact False.elim w
end
end Mo
end
section
namespace Mo
open PySem
def chkB (neg : Bool) (v : D) (h : Hm) : R D := match v with
  | .bl b => .ok (.bl (if neg then !b else b)) h
  | _ => .bad
def okTy (c : Nat) (y : D) (h : Hm) : Bool := match tyD h y with
  | some _ => true
  | none => match y with
    | .loc m => match h.g m with
      | some (.ins c2 _) => decide (c2 = c)
      | _ => false
    | _ => false
def opEqN (neg : Bool) (x y : D) (h : Hm) : R D := if neg then opNe x y h else opEq x y h
def clsM (h : Hm) : D → Option Nat
  | .loc l => match h.g l with
    | some (.ins c _) => some c
    | _ => none
  | _ => none
def opEqO (neg : Bool) (ms : List (Nat × Fn)) (x y : D) (h : Hm) : R D := match clsM h x with
  | some c => match pickF c ms with
    | some F => ifR (okTy c y h) ((F [x, y] h).quiet.bind (chkB neg))
    | none => .bad
  | none => opEqN neg x y h
section
variable {E : XE} {h : Hm} {Q : D → Hm → Prop} {neg : Bool} {ms : List (Nat × Fn)} {x y : D}
theorem clsM_ins {l c : Nat} {fs : List (Str × D)} (e : h.g l = some (.ins c fs)) : clsM h (.loc l) = some c := by
  unfold clsM
  simp only [e]
theorem ev_eqO {l c : Nat} {fs : List (Str × D)} {F : Fn} (e : h.g l = some (.ins c fs)) (k : pickF c ms = some F) (t : okTy c y h = true) (q : Ev (fun _ _ _ => False) (F [.loc l, y] h) fun v h1 => NB v fun b => Q (.bl (if neg then !b else b)) h1) : Ev E (opEqO neg ms (.loc l) y h) Q := by
  unfold opEqO
  simp only [clsM_ins e, k]
  exact ev_ifR t (ev_bind (ev_quiet0 (q.mono fun v h1 ⟨b, eb, w⟩ => by subst eb; exact w)))
end
end Mo
end
section
set_option maxHeartbeats 4000000
namespace Mo
open PySem PySem.Spec L2 PyProof.Rows He
theorem neB_ne {K : PySem.W.Frag} {C : Addr} (h : neB K C = true) : PySem.W.findIn K (.ref C) "__ne__" = some (some (.builtin "object.__ne__")) := by
  have h := (Bool.and_eq_true_iff.mp h).1
  split at h
  · rename_i n e
    rw [e, of_decide_eq_true h]
  · cases h
theorem neB_mro {K : PySem.W.Frag} {C : Addr} (h : neB K C = true) : PySem.W.mroIn K C (.type "object") = some true := of_decide_eq_true (Bool.and_eq_true_iff.mp (Bool.and_eq_true_iff.mp h).2).1
theorem neB_sub {K : PySem.W.Frag} {C : Addr} (h : neB K C = true) {t : String} (m : t ∈ ["NoneType", "bool", "int", "str", "tuple", "list", "dict"]) : PySem.W.subIn K (.type t) (.ref C) = some false :=
  of_decide_eq_true (List.all_eq_true.mp (Bool.and_eq_true_iff.mp (Bool.and_eq_true_iff.mp h).2).2 t m)
section
variable {prog : Program} {w : World} {A : Around} {E : Value → Shared → Prop} {s : Shared} {K : PySem.W.Frag} {x C L f : Addr} {h₀ : Heap} {m : Str → Option Value} {ox : Obj} {od : Option Obj} {b tb : Value}
theorem call_objNe {Q : Value → Shared → Prop} (X : K.In s.heap) (I : PySem.W.InstAt s.heap x ox C od) (hm : PySem.W.mroIn K C (.type "object") = some true) (hu : A.in1.units < cLine)
    (hs : PySem.W.findIn K (.ref C) "__eq__" = some (some (.ref f))) (hf : PySem.W.isFn K (.ref f) = true)
    (h : wpAny (model prog w) A.in1 (call (.ref f) [.ref x, b]) (fun v s' => ∃ r, v = .bool r ∧ Q (.bool (!r)) s') E s) : wpAny (model prog w) A (call (.builtin "object.__ne__") [.ref x, b]) Q E s := by
  refine wpAny_call (codeAny_call_builtin F.cmp_object.ne.plain F.cmpEntry_ne (PySem.W.check_slot F.cmpKind_ne F.cmpSplit_ne (I.type.andThen (PySem.W.looks_mroIn X hm)) (F.cmpArgs_ne _ _) ?_))
  unfold Builtin.«object.__ne__»
  repeat (first
    | with_reducible refine wpAny_cRoomFor hu ?_
    | (refine wpAny_bind (m := callSpecialIfBound? (.ref x) (Str.ofString "__eq__") [b])
        (PySem.W.ifBound_K X I hs hf (wpAny_mono h (fun r s' hr => by
          obtain ⟨b, rfl, hq⟩ := hr
          repeat (first | exact hq | exact wpAny_pure hq | exact wpAny_truthy_bool hq | (refine wpAny_bind (m := truthy (.bool _)) (wpAny_truthy_bool ?_)) | wp_step)) fun _ _ e => e)))
    | wp_step)
theorem ifBound_objNe {M : Model} {args : List Value} {Q : Option Value → Shared → Prop} (X : K.In s.heap) (I : PySem.W.InstAt s.heap x ox C od) (hs : PySem.W.findIn K (.ref C) "__ne__" = some (some (.builtin "object.__ne__")))
    (h : wpAny M A (call (.builtin "object.__ne__") (.ref x :: args)) (fun v => Q (some v)) E s) : wpAny M A (callSpecialIfBound? (.ref x) "__ne__" args) Q E s := by
  simp only [callSpecialIfBound?, bindSpecialIfBound?]
  refine wpAny_holding (wpAny_bind (wpAny_bind (wpAny_bind (I.type.here ((PySem.W.looks_findIn X hs).here ?_)))))
  refine wpAny_bind (wpAny_askSetting (wpAny_ite ?_))
  have fin : wpAny M A (call (.builtin "object.__ne__") ([.ref x] ++ args) >>= fun v => pure (some v)) Q E s := wpAny_bind (wpAny_mono h (fun v s' h' => wpAny_pure h') fun _ _ h' => h')
  split
  · exact wpAny_bind (wpAny_of_eq (F.cmp_object.ne.bind _) (wpAny_pure (by exact fin)))
  · exact wpAny_tryCatch (wpAny_bind (wpAny_of_eq (F.cmp_object.ne.bind _) (wpAny_pure (by exact fin))))
theorem ne_K {Q : Value → Shared → Prop} (hu : A.units < cLine) (hu1 : A.in1.units < cLine) (X : K.In s.heap) (I : PySem.W.InstAt s.heap x ox C od) (hb : PySem.W.Looks (model prog w) s.heap (typeOf b) tb) (hn : PySem.W.notFirst K C tb = true)
    (hne : PySem.W.findIn K (.ref C) "__ne__" = some (some (.builtin "object.__ne__"))) (hm : PySem.W.mroIn K C (.type "object") = some true) (hs : PySem.W.findIn K (.ref C) "__eq__" = some (some (.ref f))) (hf : PySem.W.isFn K (.ref f) = true)
    (h : wpAny (model prog w) A.in1 (call (.ref f) [.ref x, b]) (fun v s' => ∃ r, v = .bool r ∧ Q (.bool (!r)) s') E s) : wpAny (model prog w) A (richCompare .NotEq (.ref x) b) Q E s := by
  have one : wpAny (model prog w) A (tryCompare (.ref x) "__ne__" b) (fun r s' => ∃ v, r = some v ∧ Q v s') E s := by
    unfold tryCompare
    refine wpAny_bind (ifBound_objNe X I hne (wpAny_mono (call_objNe (Q := fun v s' => ∃ r, v = .bool r ∧ Q v s') X I hm hu1 hs hf (wpAny_mono h (fun v s' hv => ?_) fun _ _ e => e)) (fun v s' hv => ?_) fun _ _ e => e))
    · obtain ⟨r, rfl, q⟩ := hv
      exact ⟨r, rfl, _, rfl, q⟩
    · obtain ⟨r, rfl, q⟩ := hv
      exact wpAny_pure ⟨_, rfl, q⟩
  simp only [richCompare, cmpInfo_NotEq, oneThing_ref]
  refine wpAny_holding (wpAny_bind (wpAny_cRoomFor hu ?_))
  refine wpAny_bind (I.type.here (wpAny_bind (hb.here ?_)))
  split
  · rename_i q
    have e : PySem.W.subIn K tb (.ref C) = some false := by
      rcases Bool.or_eq_true_iff.mp hn with e | e
      · rw [beq_iff_eq.mp e] at q; simp at q
      · exact beq_iff_eq.mp e
    refine wpAny_bind ((PySem.W.looks_subIn X e).here ?_)
    simp only [Bool.false_eq_true, if_false]
    refine wpAny_bind (wpAny_mono one (fun r s' z => ?_) fun _ _ e => e)
    obtain ⟨v, rfl, hq⟩ := z
    exact wpAny_pure hq
  · refine wpAny_bind (wpAny_pure ?_)
    simp only [Bool.false_eq_true, if_false]
    refine wpAny_bind (wpAny_mono one (fun r s' z => ?_) fun _ _ e => e)
    obtain ⟨v, rfl, hq⟩ := z
    exact wpAny_pure hq
end
section
variable {G : Gm} {E : WM} {X : Cx}
def SlotE (X : Cx) (G : Gm) (A : Around) (ms : List (Nat × Fn)) : Prop := ∀ c F, pickF c ms = some F → ∃ f, Meth X.K (G.cA c) "__eq__" f ∧ neB X.K (G.cA c) = true ∧ CallsIn X G A f 2 F
theorem slotE_nil {A : Around} : SlotE X G A [] := fun c F e => nomatch e
theorem slotE_cons {A : Around} {c : Nat} {f : Addr} {F : Fn} {ms : List (Nat × Fn)} (h2 : Meth X.K (G.cA c) "__eq__" f) (h4 : neB X.K (G.cA c) = true) (h3 : CallsIn X G A f 2 F) (hr : SlotE X G A ms) : SlotE X G A ((c, F) :: ms) := fun d F' e => by
  have e : (if c = d then some F else pickF d ms) = some F' := e
  by_cases k : c = d
  · rw [if_pos k] at e
    cases e
    subst k
    exact ⟨f, h2, h4, h3⟩
  · rw [if_neg k] at e
    exact hr d F' e
def rOwnE (G : Gm) (neg : Bool) (ms : List (Nat × Fn)) : R2 := fun x y H Q => ∃ ρ h l a c dy F, x = .ref a ∧ HRel G ρ H h ∧ ρ[l]? = some a ∧ clsM h (.loc l) = some c ∧ pickF c ms = some F ∧ VRel G ρ H y dy ∧ okTy c dy h = true ∧ Wp G E0x (VRel G) ((F [.loc l, dy] h).quiet.bind (chkB neg)) ρ H Q
theorem looks_of {pins : List (Addr × Obj)} {σ : L2.St} {H : Hp} {s : Shared} {ρ : List Addr} {h : Hm} {c : Nat} {dy : D} {y : V} {u : Value} (hK : X.K = G.K) (I : Inv X pins σ H s) (hr : HRel G ρ H h) (q : VRel G ρ H y dy) (ry : RelV y u) (t : okTy c dy h = true) (hn : neB X.K (G.cA c) = true) :
    ∃ tb, PySem.W.Looks (model X.prog X.w) s.heap (typeOf u) tb ∧ PySem.W.notFirst X.K (G.cA c) tb = true := by
  unfold okTy at t
  split at t
  · rename_i ty e
    obtain ⟨k1, k2⟩ := tyD_x hr q e
    rw [← hK] at k1
    obtain ⟨P, Z, p, _⟩ := kit_of I ry k1
    refine ⟨.type ty, Z.ty _ _ I.kIn p, ?_⟩
    unfold PySem.W.notFirst
    rw [neB_sub hn k2]
    simp
  · split at t
    · rename_i m e
      split at t
      · rename_i c2 fs e2
        have t := of_decide_eq_true t
        subst t
        cases q with
        | @loc p l hl =>
          obtain ⟨dx, fvs, e3, _⟩ := hr.at e2 hl
          cases (show u = Value.ref p from ry)
          obtain ⟨mA, O, _⟩ := ins_get I.hok e3
          obtain ⟨od, J, _⟩ := O.look
          exact ⟨.ref (G.cA c2), J.type, by unfold PySem.W.notFirst; simp⟩
      · cases t
    · cases t
theorem op_eqOwn {ms : List (Nat × Fn)} (hK : X.K = G.K) (hu : X.A.units < cLine) (hM : SlotE X G X.A ms) : OpR X (compareOp .Eq) (rOwnE G false ms) := by
  intro pins s σ H x y v u Q I rx ry hh
  obtain ⟨ρ, h, l, a, c, dy, F, rfl, hr, hl, ec, ep, qy, ty, w⟩ := hh
  cases (show v = Value.ref a from rx)
  obtain ⟨f, M, nb, cf⟩ := hM c F ep
  unfold clsM at ec
  simp only at ec
  split at ec <;> first | (cases ec; done) | skip
  rename_i c' fs e1
  cases ec
  obtain ⟨dx, fvs, ea, _⟩ := hr.at e1 hl
  obtain ⟨mA, O, _⟩ := ins_get I.hok ea
  obtain ⟨od, J, _⟩ := O.look
  obtain ⟨m, hF⟩ := I.fr
  obtain ⟨tb, hb, hn⟩ := looks_of hK I hr qy ry ty nb
  show wpAny (model X.prog X.w) X.A (richCompare .Eq (.ref a) u) (EP X pins σ Q) X.xe s
  refine PySem.W.cmp_K (op := .Eq) (tb := tb) hu hF I.ok.mod.kin J hb hn M.at_ M.fn (wpAny_mono (cf pins s σ H [.ref a, u] [.ref a, y] ρ h [.loc l, dy] (fun v H' => ∃ b : Bool, v = .bl b ∧ Q (.bl b) H') I (.cons rfl (.cons ry .nil)) hr (.cons (.loc hl) (.cons qy .nil)) rfl (quiet_wp w fun d h' ρ' H' v g r' q w' => ?_)) (fun u s' hu => ?_) fun _ _ x => x)
  · unfold chkB at w'
    split at w' <;> first | exact False.elim w' | skip
    cases q
    exact ⟨_, rfl, w'.val r' (.bl _)⟩
  · obtain ⟨v, H', I', rv, b, rfl, q⟩ := hu
    cases (show u = Value.bool b from rv)
    exact ⟨.bl b, H', I', rfl, q⟩
theorem op_neOwn {ms : List (Nat × Fn)} (hK : X.K = G.K) (hu : X.A.units < cLine) (hu1 : X.A.in1.units < cLine) (hM : SlotE X G X.A.in1 ms) : OpR X (compareOp .NotEq) (rOwnE G true ms) := by
  intro pins s σ H x y v u Q I rx ry hh
  obtain ⟨ρ, h, l, a, c, dy, F, rfl, hr, hl, ec, ep, qy, ty, w⟩ := hh
  cases (show v = Value.ref a from rx)
  obtain ⟨f, M, nb, cf⟩ := hM c F ep
  unfold clsM at ec
  simp only at ec
  split at ec <;> first | (cases ec; done) | skip
  rename_i c' fs e1
  cases ec
  obtain ⟨dx, fvs, ea, _⟩ := hr.at e1 hl
  obtain ⟨mA, O, _⟩ := ins_get I.hok ea
  obtain ⟨od, J, _⟩ := O.look
  obtain ⟨m, hF⟩ := I.fr
  obtain ⟨tb, hb, hn⟩ := looks_of hK I hr qy ry ty nb
  show wpAny (model X.prog X.w) X.A (richCompare .NotEq (.ref a) u) (EP X pins σ Q) X.xe s
  refine ne_K (tb := tb) hu hu1 I.kIn J hb hn (neB_ne nb) (neB_mro nb) M.at_ M.fn (wpAny_mono (cf pins s σ H [.ref a, u] [.ref a, y] ρ h [.loc l, dy] (fun v H' => ∃ b : Bool, v = .bl b ∧ Q (.bl (!b)) H') I (.cons rfl (.cons ry .nil)) hr (.cons (.loc hl) (.cons qy .nil)) rfl (quiet_wp w fun d h' ρ' H' v g r' q w' => ?_)) (fun u s' hu => ?_) fun _ _ x => x)
  · unfold chkB at w'
    split at w' <;> first | exact False.elim w' | skip
    cases q
    exact ⟨_, rfl, w'.val r' (.bl _)⟩
  · obtain ⟨v, H', I', rv, b, rfl, q⟩ := hu
    cases (show u = Value.bool b from rv)
    exact ⟨b, rfl, .bl (!b), H', I', rfl, q⟩
theorem os_eqO {neg : Bool} {ms : List (Nat × Fn)} {r : R2} (hr0 : OpS G E r (opEqN neg)) : OpS G E (fun x y H Q => r x y H Q ∨ rOwnE G neg ms x y H Q) (opEqO neg ms) := by
  intro τ ρ H h x y v u Q hr q1 q2 w
  unfold opEqO at w
  split at w
  · rename_i c ec
    split at w <;> first | exact False.elim w | skip
    rename_i F ep
    obtain ⟨t, w⟩ := Wp.ifR w
    have ex : ∃ l, x = .loc l := by
      unfold clsM at ec
      split at ec
      · exact ⟨_, rfl⟩
      · cases ec
    obtain ⟨l, rfl⟩ := ex
    cases q1 with
    | @loc a l hl =>
      refine .inr ⟨ρ, h, l, a, c, y, F, rfl, hr, hl, ec, ep, q2, t, ?_⟩
      cases e2 : F [.loc l, y] h with
      | ok d h' =>
        rw [e2] at w
        have w : Wp G (atW E τ) (VRel G) (chkB neg d h') ρ H Q := w
        show Wp G E0x (VRel G) (chkB neg d h') ρ H Q
        unfold chkB at w ⊢
        split at w
        · exact w
        · exact False.elim w
      | exc c l h' => rw [e2] at w; exact False.elim w
      | bad => rw [e2] at w; exact False.elim w
  · exact .inl (hr0 τ ρ H h x y v u Q hr q1 q2 w)
theorem os_eqOf {ms : List (Nat × Fn)} : OpS G E (fun x y H Q => (rEq x y H Q ∨ rEqD G.K x y H Q) ∨ rOwnE G false ms x y H Q) (opEqO false ms) := os_eqO os_eq
theorem os_neOf {ms : List (Nat × Fn)} : OpS G E (fun x y H Q => (rNe x y H Q ∨ rNeD G.K x y H Q) ∨ rOwnE G true ms x y H Q) (opEqO true ms) := os_eqO os_ne
theorem op_eqA {ms : List (Nat × Fn)} {k : Nat} (hK : X.K = G.K) (rg : RG (k + 1) X.A) (hM : SlotE X G X.A ms) : OpR X (compareOp .Eq) (fun x y H Q => (rEq x y H Q ∨ rEqD G.K x y H Q) ∨ rOwnE G false ms x y H Q) := by
  rw [← hK]
  exact (op_eqU rg.r.units).or (op_eqOwn hK rg.r.units0 hM)
theorem op_neA {ms : List (Nat × Fn)} {k : Nat} (hK : X.K = G.K) (rg : RG (k + 1) X.A) (hM : SlotE X G X.A.in1 ms) : OpR X (compareOp .NotEq) (fun x y H Q => (rNe x y H Q ∨ rNeD G.K x y H Q) ∨ rOwnE G true ms x y H Q) := by
  rw [← hK]
  exact (op_neU rg.r.units).or (op_neOwn hK rg.r.units0 (rg_in1 rg).r.units0 hM)
end
section
variable {G : Gm} {E : WM} {X : Cx} {a : Expr} {es : List Expr} {as : MA} {x : Str} {p pos : Pos}
end
end Mo
end
section
namespace Mo
open PySem
def stepOf (x y : D) (h : Hm) : R D := match h.seq x, y with
  | some xs, .int i => if i = 1 then .ok (.kl xs) h else if i = -1 then .ok (.kl xs.reverse) h else .bad
  | _, _ => .bad
def eStep (a b : ME) : ME := fun σ h => (a σ h).bind fun x h1 => (b σ h1).bind fun y h2 => stepOf x y h2
section
variable {E : XE} {σ : Env} {h : Hm} {a b : ME} {Q : D → Hm → Prop}
theorem ev_eStep (q : Ev E (a σ h) fun x h1 => Ev E (b σ h1) fun y h2 => Ev E (stepOf x y h2) Q) : Ev E (eStep a b σ h) Q := ev_bind (q.mono fun x h1 w => ev_bind w)
theorem ev_step1 {x : D} {xs : List D} (e : h.seq x = some xs) (q : Q (.kl xs) h) : Ev E (stepOf x (.int 1) h) Q := by
  unfold stepOf
  simp only [e]
  exact q
theorem ev_stepR {x : D} {xs : List D} (e : h.seq x = some xs) (q : Q (.kl xs.reverse) h) : Ev E (stepOf x (.int (-1)) h) Q := by
  unfold stepOf
  simp only [e]
  exact q
end
end Mo
end
section
set_option maxHeartbeats 4000000
namespace Mo
open PySem PySem.Spec L2 PyProof.Rows He
theorem pick_one (items : Array Value) : slicePick items none none (some 1) = items := by
  have e : slicePick items none none (some 1) = slicePick items none none none := rfl
  rw [e, PySem.W.kmk_pick_nat items (a := 0) (b := items.size) rfl, List.drop_zero, Nat.sub_zero, ← Array.length_toList, List.take_length]
section
variable {X : Cx}
def stepQ (K : PySem.W.Frag) (x : V) (Q : VK) (i : Int) (H2 : Hp) : Prop := ∃ a xs, x = .ref a ∧ SqL K H2 a xs ∧ ((i = 1 ∧ ∀ p, H2 p = none → Q (.ref p) (upd H2 p (.lst xs))) ∨ (i = -1 ∧ ∀ p, H2 p = none → Q (.ref p) (upd H2 p (.lst xs.reverse))))
def tStepL (K : PySem.W.Frag) (te ts : TE) : TE := fun σ H Q => te σ H fun x H1 => ts σ H1 fun y H2 => ∃ i, y = .int i ∧ stepQ K x Q i H2
theorem pe_stepL {e b : Expr} {te ts : TE} {p3 pos : Pos} (he : PE X e te) (hb : PE X b ts) : PE X (.Subscript e (.Slice none none (some b) p3) pos) (tStepL X.K te ts) := by
  refine ⟨fun pins s σ H Q I h => ?_⟩
  refine Subscript_ (thn (he.run pins s σ H _ I h) fun v s1 ⟨x, H1, I1, r1, q1⟩ => ?_)
  refine wpAny_Slice (thn (po_none.run pins s1 σ H1 (fun o H2 => o = none ∧ H2 = H1) I1 ⟨rfl, rfl⟩) fun vl s2 ⟨l, H2, I2, pl, el, e2⟩ => ?_)
  subst el e2
  refine thn (po_none.run pins s2 σ H2 (fun o H3 => o = none ∧ H3 = H2) I2 ⟨rfl, rfl⟩) fun vu s3 ⟨u, H3, I3, pu, eu, e3⟩ => ?_
  subst eu e3
  refine thn ((po_some hb).run pins s3 σ H3 (fun o H4 => match o with | some i => stepQ X.K x Q i H4 | none => False) I3 q1) fun vs s4 ⟨o, H4, I4, ps, q4⟩ => ?_
  cases o with
  | none => exact q4.elim
  | some i =>
    obtain ⟨a, xs, ex, hx, q⟩ := (q4 : stepQ X.K x Q i H4)
    subst ex
    cases (show v = Value.ref a from r1)
    have I5 : Inv X pins σ H4 { s4 with heap := s4.heap.push { cls := .type "slice", data := .fields #[vl, vu, vs] } } := I4.kept (t' := s4.toks) fun b ob q => Heap.get?_push_of_some _ q
    obtain ⟨its, r, ht, hz⟩ := I5.list hx
    have hlen := r.length
    show wpAny (model X.prog X.w) X.A (subscriptTail e (.Slice none none (some b) p3) (.ref a) (.ref s4.heap.objs.size)) (EP X pins σ Q) X.xe { s4 with heap := s4.heap.push { cls := .type "slice", data := .fields #[vl, vu, vs] } }
    refine tail_any (ops := [.ref a, .ref s4.heap.objs.size]) ht.isList.typeIs (PySem.slot_list_getitem.lookup) ?_ (by with_unfolding_all rfl)
    rcases q with ⟨ei, q⟩ | ⟨ei, q⟩
    · subst ei
      refine wpAny_getItem_list_slice ht.isList (Heap.IsSliceOf.new _ vl vu vs) pl pu ps (by decide) ?_ (by rw [List.size_toArray]; omega)
      rw [pick_one]
      refine ⟨.ref _, _, I5.laid (t' := s4.toks) (o := .lst xs) (fun b ob q => Heap.get?_push_of_some _ q) (Nat.le_refl _) ?_, rfl, q _ (I5.hok.fresh (Nat.le_refl _))⟩
      exact ⟨hz, _, 0, r, Heap.get?_push_size _ rfl⟩
    · subst ei
      refine wpAny_getItem_list_slice ht.isList (Heap.IsSliceOf.new _ vl vu vs) pl pu ps (by decide) ?_ (by rw [List.size_toArray]; omega)
      rw [PySem.W.krv_pick]
      refine ⟨.ref _, _, I5.laid (t' := s4.toks) (o := .lst xs.reverse) (fun b ob q => Heap.get?_push_of_some _ q) (Nat.le_refl _) ?_, rfl, q _ (I5.hok.fresh (Nat.le_refl _))⟩
      exact ⟨by rw [List.length_reverse]; exact hz, _, 0, r.reverse, Heap.get?_push_size _ rfl⟩
variable {G : Gm} {E : WM} {a b : Expr} {ma mb : ME}
theorem me_step {p3 pos : Pos} (hK : X.K = G.K) (ha : PE X a (rd G E ma)) (hb : PE X b (rd G E mb)) : PE X (.Subscript a (.Slice none none (some b) p3) pos) (rd G E (eStep ma mb)) :=
  pe_w (pe_frz (pe_stepL ha hb)) fun σ H Q ⟨ρ, env, h, hs, hr, w⟩ => ⟨ρ, env, h, hs, hr, w.seq fun x h1 ρ1 H1 v g1 r1 q1 w1 => ⟨ρ1, env, h1, hs.grow g1, r1, w1.seq fun y h2 ρ2 H2 u g2 r2 q2 w2 => by
    unfold stepOf at w2
    split at w2 <;> first | exact False.elim w2 | skip
    rename_i xs i e
    obtain ⟨a, vs, ea, s1, k1⟩ := r2.seqL e (q1.grow g2)
    subst ea
    cases q2 with
    | int =>
      refine ⟨i, rfl, a, vs, rfl, by rw [hK]; exact s1, ?_⟩
      by_cases c1 : i = 1
      · rw [if_pos c1] at w2
        exact .inl ⟨c1, fun p hp => Leave.new w2 r2 k1 hp⟩
      · rw [if_neg c1] at w2
        by_cases c2 : i = -1
        · rw [if_pos c2] at w2
          exact .inr ⟨c2, fun p hp => Leave.new w2 r2 (vrels_rev k1) hp⟩
        · rw [if_neg c2] at w2
          exact False.elim w2⟩⟩
variable {o i : Expr} {mo mi mc : ME} {c : Expr}
end
end Mo
end
section
namespace Mo
open PySem
def Hm.skip (h : Hm) : Hm := (h.new (.lst [])).del h.n
section
variable {E : XE} {σ : Env} {h : Hm} {Q : D → Hm → Prop}
end
end Mo
end
section
set_option maxHeartbeats 1000000
namespace Mo
open PySem L2 PyProof.Rows He
section
variable {X : Cx} {pins : List (Addr × Obj)} {σ : L2.St} {H : Hp} {s : Shared} {T : List (Addr × Str)}
end
section
variable {G G' : Gm} {ρ : List Addr} {H : Hp}
mutual
theorem VRel.re (hK : G.K = G'.K) (ho : G.oA = G'.oA) : ∀ {v : V} {d : D}, VRel G ρ H v d → VRel G' ρ H v d
  | _, _, .non => .non
  | _, _, .bl b => .bl b
  | _, _, .int i => .int i
  | _, _, .str x => .str x
  | _, _, .tup h hs => .tup (by rw [← hK]; exact h) (VRels.re hK ho hs)
  | _, _, .kl h hs => .kl (by rw [← hK]; exact h) (VRels.re hK ho hs)
  | _, _, .loc h => .loc h
  | _, _, .ty n => .ty n
  | _, _, .ob k => by rw [ho]; exact .ob k
theorem VRels.re (hK : G.K = G'.K) (ho : G.oA = G'.oA) : ∀ {vs : List V} {ds : List D}, VRels G ρ H vs ds → VRels G' ρ H vs ds
  | _, _, .nil => .nil
  | _, _, .cons h hs => .cons (VRel.re hK ho h) (VRels.re hK ho hs)
end
theorem NRel.re {κ : Type} (hK : G.K = G'.K) (ho : G.oA = G'.oA) {kvs : List (κ × V)} {kds : List (κ × D)} (h : NRel G ρ H kvs kds) : NRel G' ρ H kvs kds := Paired.mapP h fun _ _ q => ⟨q.1, q.2.re hK ho⟩
theorem ORel.re (hK : G.K = G'.K) (ho : G.oA = G'.oA) (hc : G.cA = G'.cA) {a : Addr} {o : O} (h : ORel G ρ H a o) : ORel G' ρ H a o := by
  cases o with
  | lst ds => obtain ⟨vs, e1, r⟩ := h; exact ⟨vs, e1, r.re hK ho⟩
  | dic ds => obtain ⟨vs, e1, r⟩ := h; exact ⟨vs, e1, r.re hK ho⟩
  | ins c fs => obtain ⟨dx, fvs, e1, r⟩ := h; exact ⟨dx, fvs, by rw [← hc]; exact e1, r.re hK ho⟩
  | xd fs => obtain ⟨fvs, e1, r⟩ := h; exact ⟨fvs, e1, r.re hK ho⟩
  | xc c m => obtain ⟨d, e1, e2⟩ := h; exact ⟨d, e1, by rw [← hc]; exact e2⟩
  | odd => exact h
  | xn c => exact (by rw [← hc]; exact h : H a = Option.some (exn a (G'.cA c)))
  | dt ds => obtain ⟨L, e1, r1, r2⟩ := h; exact ⟨L, e1, r1, fun p hp => by rw [← hK]; exact r2 p hp⟩
  | dv kvs => obtain ⟨L, e1, r⟩ := h; exact ⟨L, e1, Paired.mapP r fun _ _ q => ⟨q.1, by rw [← hK]; exact q.2.1, q.2.2.re hK ho⟩⟩
  | dl kvs => obtain ⟨L, o, e1, r⟩ := h; exact ⟨L, o, e1, Paired.mapP r fun _ _ q => ⟨q.1, by rw [← hK]; exact q.2.1, q.2.2.re hK ho⟩⟩
  | dn kds => obtain ⟨L, e1, r⟩ := h; exact ⟨L, e1, r.re hK ho⟩
  | dm kds => obtain ⟨L, o, e1, r⟩ := h; exact ⟨L, o, e1, r.re hK ho⟩
theorem SRel.re (hK : G.K = G'.K) (ho : G.oA = G'.oA) {σ : L2.St} {env : Env} (h : SRel G ρ H σ env) : SRel G' ρ H σ env := ⟨h.1, fun i d e => let ⟨v, e1, q⟩ := h.2 i d e; ⟨v, e1, q.re hK ho⟩⟩
theorem HRel.re (hK : G.K = G'.K) (ho : G.oA = G'.oA) (hc : G.cA = G'.cA) (hT : G.T = G'.T) {h : Hm} (r : HRel G ρ H h) (hr : ∀ p ∈ G'.rt, Ext p.1 p.2 ρ H) : HRel G' ρ H h :=
  ⟨r.len, r.inj, r.has, fun l o e => let ⟨a, e1, q⟩ := r.obj l o e; ⟨a, e1, q.re hK ho hc⟩, by rw [← hT]; exact r.tabs, hr⟩
end
end Mo
end
section
set_option maxHeartbeats 1000000
namespace Mo
open PySem L2 PyProof.Rows He
section
variable {G G' : Gm} {ρ : List Addr} {H : Hp} {E : XK}
theorem Wp.re (hK : G.K = G'.K) (ho : G.oA = G'.oA) (hc : G.cA = G'.cA) (hT : G.T = G'.T) (hr : ∀ p ∈ G.rt, p ∈ G'.rt) {r : R D} {Q : VK} (w : Wp G E (VRel G) r ρ H Q) : Wp G' E (VRel G') r ρ H Q := by
  cases r with
  | ok a h' => exact fun ρ' H' b g r q => w ρ' H' b g (r.re hK.symm ho.symm hc.symm hT.symm fun p hp => r.root p (hr p hp)) (q.re hK.symm ho.symm)
  | exc c l h' =>
    intro ρ' H' d g r e
    rw [← hc]
    exact w ρ' H' d g (r.re hK.symm ho.symm hc.symm hT.symm fun p hp => r.root p (hr p hp)) e
  | bad => exact w
end
section
variable {P : Program} {w : World} {K : PySem.W.Frag} {mg : Str → Option Value} {base : Heap} {fa : List Fa} {fn : List DefD} {ex : PySem.W.Frag → Bool} {k : Nat} {N : List Str} {a : Str} {Gf : List (List Addr × Hp) → Gm} {m : Nat → (Hm → R D) → MS} {d : DefD}
end
section
variable {X : Cx} {E : WM} {Gf : List (List Addr × Hp) → Gm} {params : Arguments} {body : Expr} {scope : Scope} {mb : ME} {a : Str} {N : List Str} {d : DefD} {k : Nat}
end
end Mo
end
section
set_option maxHeartbeats 1000000
namespace Mo
open PySem
def kyP : Key → Option PyData
  | .inl i => some (.int i)
  | .inr x => match PyData.strOk x with
    | true => some (.str x)
    | false => none
def datK (f : D → Option PyData) : List (Key × D) → Option (List (PyData × PyData))
  | [] => some []
  | (k, d) :: r => match kyP k, f d, datK f r with
    | some a, some b, some ps => some ((a, b) :: ps)
    | _, _, _ => none
def datR : Nat → Hm → D → Option PyData
  | 0, _, _ => none
  | n + 1, h, d => match d with
    | .non => some .none
    | .bl b => some (.bool b)
    | .int i => some (.int i)
    | .str x => match PyData.strOk x with
      | true => some (.str x)
      | false => none
    | .tup ds => (datL (datR n h) ds).map .tuple
    | .kl xs => (datL (datR n h) xs).map .list
    | .loc l => match h.g l with
      | some (.lst xs) => (datL (datR n h) xs).map .list
      | some (.dic kvs) => (datK (datR n h) kvs).map .dict
      | _ => none
    | _ => none
mutual
def tameR : PyData → Bool
  | .none | .bool _ => true
  | .int i => decide (i.natAbs < 2 ^ 140)
  | .str x => PyData.strOk x
  | .list xs | .tuple xs => tameRL xs
  | .dict kvs => tameRK kvs
def tameRL : List PyData → Bool
  | [] => true
  | x :: xs => tameR x && tameRL xs
def tameRK : List (PyData × PyData) → Bool
  | [] => true
  | (a, b) :: r => tameR a && (tameR b && tameRK r)
end
def fitsR (p : PyData) : Bool := tameR p && decide (p.bulk ≤ 90000)
def bReprR : Bi
  | [x], h => match datR DEP h x with
    | some p => ifR (fitsR p) (.ok (.str p.shown) h)
    | none => .bad
  | _, _ => .bad
section
variable {E : XE} {Q : D → Hm → Prop} {h : Hm} {σ : List (Option D)}
theorem ev_reprR {x : D} {p : PyData} (e : datR DEP h x = some p) (k : fitsR p = true) (q : Q (.str p.shown) h) : Ev E (bReprR [x] h) Q := by
  unfold bReprR
  show Ev E (match datR DEP h x with | some p => ifR (fitsR p) (.ok (.str p.shown) h) | none => .bad) Q
  rw [e]
  exact ev_ifR k q
end
mutual
theorem tameR_of : ∀ p : PyData, tame p = true → tameR p = true
  | .none, _ => rfl
  | .bool _, _ => rfl
  | .int i, h => by simp only [tame] at h; simp only [tameR]; exact h
  | .str x, h => by simp only [tame] at h; simp only [tameR]; exact h
  | .list xs, h => by simp only [tame] at h; simp only [tameR]; exact tameRL_of xs h
  | .tuple xs, h => by simp only [tame] at h; simp only [tameR]; exact tameRL_of xs h
  | .dict _, h => by simp only [tame] at h; cases h
theorem tameRL_of : ∀ ps : List PyData, tameL ps = true → tameRL ps = true
  | [], _ => rfl
  | p :: ps, h => by
    simp only [tameL, Bool.and_eq_true] at h
    simp only [tameRL, Bool.and_eq_true]
    exact ⟨tameR_of p h.1, tameRL_of ps h.2⟩
end
end Mo
end
section
set_option maxHeartbeats 1000000
namespace Mo
open PySem L2 PyProof.Rows PyProof.V He
mutual
inductive DpR (K : PySem.W.Frag) (H : Hp) : V → PyData → Prop
  | non : DpR K H .non .none
  | bl (b : Bool) : DpR K H (.bl b) (.bool b)
  | int (i : Int) : DpR K H (.int i) (.int i)
  | str (x : Str) : DpR K H (.str x) (.str x)
  | lst {a : Addr} {xs : List V} {ds : List PyData} : SqL K H a xs → DpRAll K H xs ds → DpR K H (.ref a) (.list ds)
  | tup {a : Addr} {xs : List V} {ds : List PyData} : SqT K H a xs → DpRAll K H xs ds → DpR K H (.ref a) (.tuple ds)
  | dic {a : Addr} {kvs : List (L2.Key × V)} {ps : List (PyData × PyData)} : H a = some (.dK kvs) → DpRKv K H kvs ps → DpR K H (.ref a) (.dict ps)
inductive DpRAll (K : PySem.W.Frag) (H : Hp) : List V → List PyData → Prop
  | nil : DpRAll K H [] []
  | cons {v : V} {vs : List V} {d : PyData} {ds : List PyData} : DpR K H v d → DpRAll K H vs ds → DpRAll K H (v :: vs) (d :: ds)
inductive DpRKv (K : PySem.W.Frag) (H : Hp) : List (L2.Key × V) → List (PyData × PyData) → Prop
  | nil : DpRKv K H [] []
  | cons {k : L2.Key} {v : V} {a b : PyData} {kvs : List (L2.Key × V)} {ps : List (PyData × PyData)} : kyP k = some a → DpR K H v b → DpRKv K H kvs ps → DpRKv K H ((k, v) :: kvs) ((a, b) :: ps)
end
section
variable {X : Cx} {pins : List (Addr × Obj)} {σ : L2.St} {H : Hp} {s : Shared}
theorem list_sys (I : Inv X pins σ H s) (hS : ∃ o, H sysModules = some (fix1 o)) {a : Addr} {xs : List V} (h : SqL X.K H a xs) : a ≠ sysModules := by
  rintro rfl
  obtain ⟨o, hS⟩ := hS
  rcases h with (h | ⟨o', h⟩) | ⟨o', its, n, h, _⟩
  · rw [hS] at h
    unfold fix1 at h
    cases h
  · rw [hS] at h
    unfold fix1 at h
    cases h
  · have h2 := (I.bs _ _ (I.mod.kin _ _ h)).2
    rw [hS] at h2
    cases h2
theorem ky_reads {h : Heap} {k : L2.Key} {a : PyData} {u : Value} (e : kyP k = some a) (r : L2.keyIs k u = true) : Reads h u a [] := by
  rcases L2.keyIs_shape r with ⟨i, t, rfl, rfl⟩ | ⟨x, t, rfl, rfl⟩
  · cases (show some (PyData.int i) = some a from e)
    exact Reads.int i t
  · have e' : (match PyData.strOk x with | true => some (PyData.str x) | false => none) = some a := e
    split at e'
    · cases e'
      exact Reads.str x t
    · cases e'
theorem dk_ne (I : Inv X pins σ H s) {a : Addr} {kvs : List (L2.Key × V)} (h : H a = some (.dK kvs)) : a ≠ sysModules := fun z2 => by
  obtain ⟨_, z, _⟩ := dk_of I.hok h
  rw [z2, show (sysModules == sysModules) = true from rfl] at z
  cases z
mutual
theorem DpR.reads (I : Inv X pins σ H s) (hS : ∃ o, H sysModules = some (fix1 o)) : ∀ (d : PyData) (v : V) (u : Value), DpR X.K H v d → RelV v u → ∃ as, Reads s.heap u d as ∧ sysModules ∉ as
  | .none, _, _, h, r => by
    cases h
    cases r
    exact ⟨_, Reads.none, fun z => nomatch z⟩
  | .bool b, _, _, h, r => by
    cases h
    cases r
    exact ⟨_, Reads.bool b, fun z => nomatch z⟩
  | .int i, _, _, h, r => by
    cases h
    obtain ⟨t, rfl⟩ := r
    exact ⟨_, Reads.int i t, fun z => nomatch z⟩
  | .str x, _, _, h, r => by
    cases h
    obtain ⟨t, rfl⟩ := r
    exact ⟨_, Reads.str x t, fun z => nomatch z⟩
  | .list ds, _, _, h, r => by
    cases h with
    | lst hs ha =>
      cases r
      have na := list_sys I hS hs
      obtain ⟨its, rv, ⟨o, n, ho, hc, _, hd⟩, _⟩ := I.list hs
      obtain ⟨as, hr, ns⟩ := DpR.readsAll I hS ds _ its ha rv
      refine ⟨_, Reads.list ho hc hd hr, fun z => ?_⟩
      rcases List.mem_cons.mp z with z | z
      · exact na z.symm
      · exact ns z
  | .tuple ds, _, _, h, r => by
    cases h with
    | tup hs ha =>
      cases r
      obtain ⟨its, rv, ⟨o, ho, hc, n, hd⟩, _⟩ := I.tuple hs
      obtain ⟨as, hr, ns⟩ := DpR.readsAll I hS ds _ its ha rv
      exact ⟨_, Reads.tuple ho hc hd hr, ns⟩
  | .dict ps, _, _, h, r => by
    cases h with
    | dic e hk =>
      cases r
      have na := dk_ne I e
      obtain ⟨_, _, vs, kv, o, es, ep, e1, ex, hd, _, pr, _⟩ := dk_of I.hok e
      obtain ⟨as, bs, q1, q2, n1, n2⟩ := DpR.readsKv I hS ps _ vs es.toList hk kv pr
      refine ⟨_, Reads.dict e1 ex.1 hd q1 q2, fun z => ?_⟩
      rcases List.mem_append.mp z with z | z
      · rcases List.mem_cons.mp z with z | z
        · exact na z.symm
        · exact n1 z
      · exact n2 z
theorem DpR.readsAll (I : Inv X pins σ H s) (hS : ∃ o, H sysModules = some (fix1 o)) : ∀ (ds : List PyData) (vs : List V) (us : List Value), DpRAll X.K H vs ds → Vals vs us → ∃ as, ReadsAll s.heap us ds as ∧ sysModules ∉ as
  | [], _, _, h, r => by
    cases h
    cases r
    exact ⟨_, ReadsAll.nil, fun z => nomatch z⟩
  | d :: ds, _, _, h, r => by
    cases h with
    | cons h1 h2 =>
      cases r with
      | cons r1 r2 =>
        obtain ⟨as, q1, n1⟩ := DpR.reads I hS d _ _ h1 r1
        obtain ⟨bs, q2, n2⟩ := DpR.readsAll I hS ds _ _ h2 r2
        exact ⟨_, ReadsAll.cons q1 q2, fun z => (List.mem_append.mp z).elim n1 n2⟩
theorem DpR.readsKv (I : Inv X pins σ H s) (hS : ∃ o, H sysModules = some (fix1 o)) : ∀ (ps : List (PyData × PyData)) (kvs : List (L2.Key × V)) (vs : List (L2.Key × Value)) (es : List DictEntry), DpRKv X.K H kvs ps → KV kvs vs → Pairs (mixKind X.prog X.w) es vs →
    ∃ as bs, ReadsAll s.heap (es.map (·.key)) (ps.map (·.1)) as ∧ ReadsAll s.heap (es.map (·.val)) (ps.map (·.2)) bs ∧ sysModules ∉ as ∧ sysModules ∉ bs
  | [], _, _, _, h, kv, pr => by
    cases h
    cases kv
    cases pr
    exact ⟨_, _, ReadsAll.nil, ReadsAll.nil, (fun z => nomatch z), fun z => nomatch z⟩
  | (a, b) :: ps, _, _, _, h, kv, pr => by
    cases h with
    | cons hk hv hr =>
      cases kv with
      | @cons p q _ _ r1 rr =>
        cases pr with
        | @cons e kv' es' kvs' i1 i2 pr' =>
          obtain ⟨r1k, r1v⟩ := r1
          obtain ⟨bs1, q2, m2⟩ := DpR.reads I hS b _ q.2 hv r1v
          obtain ⟨as, bs, q3, q4, m3, m4⟩ := DpR.readsKv I hS ps _ _ _ hr rr pr'
          have q1 : Reads s.heap e.key a [] := ky_reads hk (by have z := r1k; dsimp only at z; rw [z]; exact i1)
          refine ⟨[] ++ as, bs1 ++ bs, ReadsAll.cons q1 q3, ?_, m3, fun z => (List.mem_append.mp z).elim m2 m4⟩
          have q2' : Reads s.heap e.val b bs1 := by rw [i2]; exact q2
          exact ReadsAll.cons q2' q4
end
end
section
variable {G : Gm} {E : WM} {ρ : List Addr} {H : Hp} {h : Hm}
theorem datL_dpR {f : D → Option PyData} (hf : ∀ d v p, f d = some p → VRel G ρ H v d → DpR G.K H v p) : ∀ {ds : List D} {vs : List V} {ps : List PyData}, datL f ds = some ps → VRels G ρ H vs ds → DpRAll G.K H vs ps
  | [], _, ps, e, .nil => by
    cases (show some [] = some ps from e)
    exact .nil
  | d :: ds, _, ps, e, .cons q qs => by
    unfold datL at e
    split at e
    · rename_i p ps' e1 e2
      cases e
      exact .cons (hf d _ p e1 q) (datL_dpR hf e2 qs)
    · cases e
theorem datK_dpR {f : D → Option PyData} (hf : ∀ d v p, f d = some p → VRel G ρ H v d → DpR G.K H v p) : ∀ {kds : List (Key × D)} {kvs : List (L2.Key × V)} {ps : List (PyData × PyData)}, datK f kds = some ps → NRel G ρ H kvs kds → DpRKv G.K H kvs ps
  | [], _, ps, e, .nil => by
    cases (show some [] = some ps from e)
    exact .nil
  | (k, d) :: r, _, ps, e, .cons q qs => by
    unfold datK at e
    split at e
    · rename_i a b ps' e1 e2 e3
      cases e
      refine .cons ?_ (hf _ _ _ e2 q.2) (datK_dpR hf e3 qs)
      rw [show _ = k from q.1]
      exact e1
    · cases e
theorem datR_dp (r : HRel G ρ H h) : ∀ (n : Nat) (d : D) (v : V) (p : PyData), datR n h d = some p → VRel G ρ H v d → DpR G.K H v p
  | 0, _, _, _, e, _ => nomatch e
  | n + 1, .non, _, p, e, .non => by cases (show some _ = some p from e); exact .non
  | n + 1, .bl b, _, p, e, .bl _ => by cases (show some _ = some p from e); exact .bl b
  | n + 1, .int i, _, p, e, .int _ => by cases (show some _ = some p from e); exact .int i
  | n + 1, .str x, _, p, e, .str _ => by
    have e' : (match PyData.strOk x with | true => some (PyData.str x) | false => none) = some p := e
    split at e'
    · cases e'
      exact .str x
    · cases e'
  | n + 1, .tup ds, _, p, e, .tup h1 h2 => by
    obtain ⟨ps, e1, rfl⟩ := Option.map_eq_some_iff.mp (show (datL (datR n h) ds).map .tuple = some p from e)
    exact .tup h1 (datL_dpR (datR_dp r n) e1 h2)
  | n + 1, .kl ds, _, p, e, .kl h1 h2 => by
    obtain ⟨ps, e1, rfl⟩ := Option.map_eq_some_iff.mp (show (datL (datR n h) ds).map .list = some p from e)
    exact .lst h1.l (datL_dpR (datR_dp r n) e1 h2)
  | n + 1, .loc l, _, p, e, .loc ha => by
    have e' : (match h.g l with | some (.lst xs) => (datL (datR n h) xs).map .list | some (.dic kvs) => (datK (datR n h) kvs).map .dict | _ => none) = some p := e
    split at e'
    · rename_i xs e2
      obtain ⟨ps, e1, rfl⟩ := Option.map_eq_some_iff.mp e'
      obtain ⟨vs, e3, q⟩ := r.at e2 ha
      exact .lst (SqL.of e3) (datL_dpR (datR_dp r n) e1 q)
    · rename_i kds e2
      obtain ⟨ps, e1, rfl⟩ := Option.map_eq_some_iff.mp e'
      obtain ⟨kvs, e3, q⟩ := r.at e2 ha
      exact .dic e3 (datK_dpR (datR_dp r n) e1 q)
    · cases e'
  | n + 1, .ty m, _, p, e, .ty _ => nomatch e
  | n + 1, .ob k, _, p, e, .ob _ => nomatch e
theorem datL_dep {f : D → Option PyData} {m : Nat} (hf : ∀ d p, f d = some p → p.depth ≤ m) : ∀ {ds : List D} {ps : List PyData}, datL f ds = some ps → PyData.depthAll ps ≤ m
  | [], ps, e => by
    cases (show some [] = some ps from e)
    simp only [PyData.depthAll]
    omega
  | d :: ds, ps, e => by
    unfold datL at e
    split at e
    · rename_i p ps' e1 e2
      cases e
      have a := hf d p e1
      have b := datL_dep hf e2
      simp only [PyData.depthAll]
      omega
    · cases e
theorem kyP_dep {k : Key} {p : PyData} (e : kyP k = some p) : p.depth = 0 := by
  cases k with
  | inl i => cases (show some _ = some p from e); simp only [PyData.depth]
  | inr x =>
    have e' : (match PyData.strOk x with | true => some (PyData.str x) | false => none) = some p := e
    split at e'
    · cases e'
      simp only [PyData.depth]
    · cases e'
theorem datK_dep {f : D → Option PyData} {m : Nat} (hf : ∀ d p, f d = some p → p.depth ≤ m) : ∀ {kds : List (Key × D)} {ps : List (PyData × PyData)}, datK f kds = some ps → PyData.depthKv ps ≤ m
  | [], ps, e => by
    cases (show some [] = some ps from e)
    simp only [PyData.depthKv]
    omega
  | (k, d) :: r, ps, e => by
    unfold datK at e
    split at e
    · rename_i a b ps' e1 e2 e3
      cases e
      have c1 := kyP_dep e1
      have c2 := hf d _ e2
      have c3 := datK_dep hf e3
      simp only [PyData.depthKv]
      omega
    · cases e
theorem datR_dep : ∀ (n : Nat) (d : D) (p : PyData), datR n h d = some p → p.depth ≤ n
  | 0, _, _, e => nomatch e
  | n + 1, d, p, e => by
    have up : ∀ {xs : List D} {ps : List PyData}, datL (datR n h) xs = some ps → PyData.depthAll ps ≤ n := fun e1 => datL_dep (datR_dep n) e1
    cases d with
    | non => cases (show some _ = some p from e); simp only [PyData.depth]; omega
    | bl b => cases (show some _ = some p from e); simp only [PyData.depth]; omega
    | int b => cases (show some _ = some p from e); simp only [PyData.depth]; omega
    | str b =>
      have e' : (match PyData.strOk b with | true => some (PyData.str b) | false => none) = some p := e
      split at e'
      · cases e'
        simp only [PyData.depth]
        omega
      · cases e'
    | tup ds =>
      obtain ⟨ps, e1, rfl⟩ := Option.map_eq_some_iff.mp (show (datL (datR n h) ds).map .tuple = some p from e)
      have := up e1
      simp only [PyData.depth]
      omega
    | kl ds =>
      obtain ⟨ps, e1, rfl⟩ := Option.map_eq_some_iff.mp (show (datL (datR n h) ds).map .list = some p from e)
      have := up e1
      simp only [PyData.depth]
      omega
    | loc l =>
      have e' : (match h.g l with | some (.lst xs) => (datL (datR n h) xs).map .list | some (.dic kvs) => (datK (datR n h) kvs).map .dict | _ => none) = some p := e
      split at e'
      · obtain ⟨ps, e1, rfl⟩ := Option.map_eq_some_iff.mp e'
        have := up e1
        simp only [PyData.depth]
        omega
      · obtain ⟨ps, e1, rfl⟩ := Option.map_eq_some_iff.mp e'
        have := datK_dep (datR_dep n) e1
        simp only [PyData.depth]
        omega
      · cases e'
    | ty m => cases e
    | ob k => cases e
end
mutual
theorem tameR_short : ∀ (p : PyData), tameR p = true → p.leavesShort 150 = true ∧ p.showable = true
  | .none, _ => ⟨by simp only [PyData.leavesShort], by simp only [PyData.showable]⟩
  | .bool b, _ => ⟨by simp only [PyData.leavesShort], by simp only [PyData.showable]⟩
  | .int i, h => tame_short (.int i) (by simp only [tameR] at h; simp only [tame]; exact h)
  | .str x, h => tame_short (.str x) (by simp only [tameR] at h; simp only [tame]; exact h)
  | .list xs, h => by
    simp only [tameR] at h
    obtain ⟨a, b⟩ := tameR_shorts xs h
    exact ⟨by simp only [PyData.leavesShort]; exact a, by simp only [PyData.showable]; exact b⟩
  | .tuple xs, h => by
    simp only [tameR] at h
    obtain ⟨a, b⟩ := tameR_shorts xs h
    exact ⟨by simp only [PyData.leavesShort]; exact a, by simp only [PyData.showable]; exact b⟩
  | .dict kvs, h => by
    simp only [tameR] at h
    obtain ⟨a, b⟩ := tameR_shortK kvs h
    exact ⟨by simp only [PyData.leavesShort]; exact a, by simp only [PyData.showable]; exact b⟩
theorem tameR_shorts : ∀ (ps : List PyData), tameRL ps = true → PyData.leavesShortAll 150 ps = true ∧ PyData.showableAll ps = true
  | [], _ => ⟨by simp only [PyData.leavesShortAll], by simp only [PyData.showableAll]⟩
  | p :: ps, h => by
    simp only [tameRL, Bool.and_eq_true] at h
    obtain ⟨a, b⟩ := tameR_short p h.1
    obtain ⟨c, d⟩ := tameR_shorts ps h.2
    exact ⟨by simp only [PyData.leavesShortAll, a, c, Bool.and_self], by simp only [PyData.showableAll, b, d, Bool.and_self]⟩
theorem tameR_shortK : ∀ (ps : List (PyData × PyData)), tameRK ps = true → PyData.leavesShortKv 150 ps = true ∧ PyData.showableKv ps = true
  | [], _ => ⟨by simp only [PyData.leavesShortKv], by simp only [PyData.showableKv]⟩
  | (p, q) :: ps, h => by
    simp only [tameRK, Bool.and_eq_true] at h
    obtain ⟨a, b⟩ := tameR_short p h.1
    obtain ⟨a2, b2⟩ := tameR_short q h.2.1
    obtain ⟨c, d⟩ := tameR_shortK ps h.2.2
    exact ⟨by simp only [PyData.leavesShortKv, a, a2, c, Bool.and_self], by simp only [PyData.showableKv, b, b2, d, Bool.and_self]⟩
end
theorem fitsR_ok {p : PyData} (h : fitsR p = true) : p.showable = true ∧ p.shown.length ≤ sizeLine := by
  unfold fitsR at h
  simp only [Bool.and_eq_true, decide_eq_true_eq] at h
  obtain ⟨a, b⟩ := tameR_short p h.1
  have c := PyData.shown_le_bulk 150 (by decide) p a
  refine ⟨b, Nat.le_trans c ?_⟩
  have d := h.2
  unfold sizeLine
  omega
def rReprR (K : PySem.W.Frag) : List V → Hp → VK → Prop := fun xs H Q => ∃ x d, xs = [x] ∧ DpR K H x d ∧ (∃ o, H sysModules = some (fix1 o)) ∧ d.showable = true ∧ d.shown.length ≤ sizeLine ∧ d.depth ≤ 64 ∧ Q (.str d.shown) H
theorem cl_reprR {X : Cx} {k : Nat} (rg : RG k X.A) : CallR X (.builtin "repr") (rReprR X.K) := by
  intro pins s σ H xs us Q I r h
  obtain ⟨x, d, rfl, hd, hS, h1, h2, h4, q⟩ := h
  obtain ⟨u, rfl, ru⟩ := vals1 r
  have hu := rg.r.un
  have fin : ∀ (h' : Heap) (t : Tok) (tk : Nat), (∀ b o, s.heap.get? b = some o → h'.get? b = some o) → EP X pins σ Q (.str d.shown t) { s with heap := h', toks := tk } := fun h' t tk hk => ⟨.str d.shown, H, I.kept (t' := tk) hk, ⟨t, rfl⟩, q⟩
  cases hd with
  | non =>
    cases (show u = Value.none from ru)
    exact PySem.P.repr_of_none (fin s.heap _ _ fun _ _ e => e)
  | bl b =>
    cases (show u = Value.bool b from ru)
    exact PySem.P.repr_of_bool (fin s.heap _ _ fun _ _ e => e)
  | int i =>
    obtain ⟨t, rfl⟩ := ru
    simp only [PyData.showable, decide_eq_true_eq] at h1
    exact PySem.P.repr_of_int h1 (fin s.heap _ _ fun _ _ e => e)
  | str z =>
    obtain ⟨t, rfl⟩ := ru
    exact PySem.P.repr_of_str (fin s.heap _ _ fun _ _ e => e) h2
  | @lst a xs ds k1 k2 =>
    cases (show u = Value.ref a from ru)
    obtain ⟨as, rr, ns⟩ := DpR.reads I hS _ _ _ (.lst k1 k2) rfl
    exact repr_of_reads' (h₀ := s.heap) rr h1 (fun _ => ns) rg.g (by omega) (fun _ _ e => e) (fun h' t tk hk => fin h' t tk hk) h2
  | @tup a xs ds k1 k2 =>
    cases (show u = Value.ref a from ru)
    obtain ⟨as, rr, ns⟩ := DpR.reads I hS _ _ _ (.tup k1 k2) rfl
    exact repr_of_reads' (h₀ := s.heap) rr h1 (fun _ => ns) rg.g (by omega) (fun _ _ e => e) (fun h' t tk hk => fin h' t tk hk) h2
  | @dic a kvs ps k1 k2 =>
    cases (show u = Value.ref a from ru)
    obtain ⟨as, rr, ns⟩ := DpR.reads I hS _ _ _ (.dic k1 k2) rfl
    exact repr_of_reads' (h₀ := s.heap) rr h1 (fun _ => ns) rg.g (by omega) (fun _ _ e => e) (fun h' t tk hk => fin h' t tk hk) h2
section
variable {G : Gm} {E : WM}
theorem bs_reprR : BiS G E (rReprR G.K) bReprR := by
  intro τ ρ H h ds vs Q r q w
  unfold bReprR at w
  split at w
  · obtain ⟨v, rfl, k⟩ := vs1 q
    split at w
    · rename_i p e
      obtain ⟨c, w⟩ := Wp.ifR w
      obtain ⟨a, b⟩ := fitsR_ok c
      have c2 := datR_dep _ _ _ e
      exact ⟨v, p, rfl, datR_dp r _ _ _ _ e k, r.tabs.2, a, b, Nat.le_trans c2 (by decide), w.val r (.str _)⟩
    · exact False.elim w
  · exact False.elim w
variable {X : Cx} {a : Expr} {ma : ME} {p pos p2 pos2 : Pos}
end
end Mo
end
section
namespace Mo
open PySem
def strsD : List D → Option (List Str)
  | [] => some []
  | .str x :: ds => (strsD ds).map (x :: ·)
  | _ :: _ => none
def mJoin : Mb := fun x as h => match x, as with
  | .str a, [y] => match h.seq y with
    | some ds => match strsD ds with
      | some ys => ifR (decide ((ys.map (·.length)).sum + ys.length * a.length ≤ SL)) (.ok (.str (Txt.join a ys)) h)
      | none => .bad
    | none => .bad
  | _, _ => .bad
section
variable {E : XE} {σ : Env} {h : Hm} {Q : D → Hm → Prop}
theorem ev_join {a : Str} {y : D} {ds : List D} {ys : List Str} (e1 : h.seq y = some ds) (e2 : strsD ds = some ys) (k : (ys.map (·.length)).sum + ys.length * a.length ≤ SL) (q : Q (.str (Txt.join a ys)) h) : Ev E (mJoin (.str a) [y] h) Q := by
  unfold mJoin
  simp only [e1, e2]
  exact ev_ifR (decide_eq_true k) q
end
end Mo
end
section
set_option maxHeartbeats 1000000
namespace Mo
open PySem L2 PyProof.Rows He
section
variable {G : Gm} {E : WM} {X : Cx} {ρ : List Addr} {H : Hp} {a b c o tg : Expr} {ma mb mc : ME} {pos : Pos} {as ks : MA} {es : List Expr}
def dicB (K : PySem.W.Frag) (x : Str) (kvs : List (Str × Dv)) : Bool := valsB K (ga K x) kvs && (match K.lookup (ga K x) with
  | some ⟨_, _, .dict es _, _⟩ => es.toList.all (fun e => !e.refKey && kvs.any fun q => e.key.isStr q.1)
  | _ => false)
structure DcG (K : PySem.W.Frag) (w : World) (x : Str) (kvs : List (Str × Dv)) : Prop where
  d : ∃ es n, KDict K w (ga K x) es n
  b : dicB K x kvs = true
variable {fa : List Fa} {fn : List DefD} {ex : PySem.W.Frag → Bool}
end
end Mo
end
section
set_option maxHeartbeats 1000000
namespace Mo
open PySem L2 PyProof.Rows He
abbrev TsL := List (Str × List (Str × Dv))
def TbD (ts : TsL) (K : PySem.W.Frag) (w : World) : Prop := ∀ t ∈ ts, ∃ es n, KDict K w (ga K t.1) es n
theorem TbD.dc {ts : TsL} {K : PySem.W.Frag} {w : World} (U : TbD ts K w) (i : Nat) {x : Str} {kvs : List (Str × Dv)} (b : dicB K x kvs = true) (h : ts[i]? = some (x, kvs) := by rfl) : DcG K w x kvs := ⟨U _ (List.mem_of_getElem? h), b⟩
end Mo
end
section
set_option maxHeartbeats 4000000
namespace Mo
open PySem PySem.Spec L2 PyProof.Rows He
section
variable {X : Cx}
variable {P : Program} {w : World} {h : Heap}
theorem PrH.kv {ps : List (Addr × L2.Key × V)} {rs : List (Value × L2.Key × Value)} (x : PrH P w h ps rs) : KV (ps.map fun p => (p.2.1, p.2.2)) (rs.map fun q => (q.2.1, q.2.2)) := by
  induction x with
  | nil => exact .nil
  | cons _ _ h3 _ ih => exact .cons ⟨rfl, h3⟩ ih
end
section
variable {G : Gm} {E : WM}
end
end Mo
end
section
set_option maxHeartbeats 4000000
namespace Mo
open PySem PySem.Spec L2 PyProof.Rows He
abbrev Lv := List (List Int × Addr × V)
section
variable {X : Cx} {pins : List (Addr × Obj)} {σ : L2.St} {H : Hp} {s : Shared} {a b : Addr} {L : Lv} {k : List Int}
variable {ex ox value : Expr} {pos pos' apos cpos : Pos} {td ty tx tv : TE}
end
end Mo
end
section
set_option maxHeartbeats 4000000
namespace Mo
open PySem PySem.Spec L2 PyProof.Rows He
abbrev Ln := List (Option Int × V)
section
variable {X : Cx} {pins : List (Addr × Obj)} {σ : L2.St} {H : Hp} {s : Shared} {a b : Addr} {L : Ln} {k : Option Int}
variable {ex ox value : Expr} {pos pos' apos cpos : Pos} {td ty tx tv : TE}
end
section
variable {G : Gm} {E : WM} {ρ : List Addr} {H : Hp}
variable {X : Cx} {a b o e f : Expr} {ma mb mc : ME} {pos apos cpos dpos : Pos}
end
end Mo
end
section
set_option maxHeartbeats 1000000
namespace Mo
open PySem L2 PyProof.Rows He
theorem obsMA_eq {A : (Addr → Option Obj) → List Addr} {fa : List Fa} {fn : List DefD} {tq : TqL} {ex : PySem.W.Frag → Bool} {g : Addr → Option Obj} {s : Shared} (h : ∀ a, g a = s.heap.get? a) : obsMA A fa fn tq ex g = (hookMA A fa fn tq ex).obs s := by
  have e : g = s.heap.get? := funext h
  rw [e] <;> rfl
end Mo
end
section
namespace Mo
open PySem
def plainK (h : Hm) (x : D) : Bool := match tyD h x with
  | some t => ["NoneType", "int", "str", "tuple", "list"].contains t
  | none => false
def opEqR (ms : List (Nat × Fn)) (x y : D) (h : Hm) : R D := match clsM h y with
  | some c => match pickF c ms with
    | some F => ifR (plainK h x) ((F [y, x] h).quiet.bind (chkB false))
    | none => .bad
  | none => opEq x y h
def eSortCM (it : MI) (own : List Nat) (one : Bool) (is : List Nat) (t : MT) (e : ME) : ME := fun σ h => (it σ h).bind fun J h1 =>
  (setGo (bindC one is) t e J.ok (wipe σ own) J.xs [] h1).bind fun ks h2 => ifR (decide ((sortU ks).length < 64)) (.ok (.loc h2.n) (h2.new (.lst ((sortU ks).map .int))))
theorem ev_sortCM {E : XE} {σ : Env} {h : Hm} {Q : D → Hm → Prop} {a : ME} {t : MT} {it : MI} {own is : List Nat} {one : Bool} (q : Ev E (it σ h) fun J h1 => Ev E (setGo (bindC one is) t a J.ok (wipe σ own) J.xs [] h1) fun ks h2 => (sortU ks).length < 64 ∧ Q (.loc h2.n) (h2.new (.lst ((sortU ks).map .int)))) : Ev E (eSortCM it own one is t a σ h) Q :=
  ev_bind (q.mono fun J h1 w => ev_bind (w.mono fun ks h2 ⟨l, w⟩ => ev_ifR (decide_eq_true l) w))
section
variable {E : XE} {h : Hm} {Q : D → Hm → Prop} {ms : List (Nat × Fn)} {x y : D}
theorem ev_eqR {l c : Nat} {fs : List (Str × D)} {F : Fn} (e : h.g l = some (.ins c fs)) (k : pickF c ms = some F) (t : plainK h x = true) (q : Ev (fun _ _ _ => False) (F [.loc l, x] h) fun v h1 => NB v fun b => Q (.bl b) h1) : Ev E (opEqR ms x (.loc l) h) Q := by
  unfold opEqR
  simp only [clsM_ins e, k]
  exact ev_ifR t (ev_bind (ev_quiet0 (q.mono fun v h1 ⟨b, eb, w⟩ => by subst eb; exact w)))
end
end Mo
end
section
set_option maxHeartbeats 4000000
namespace Mo
open PySem PySem.Spec L2 PyProof.Rows He
theorem m_eqList (l b : Addr) (dt : Data) (dd : Option Addr) (sl : Array (Option Value)) (K : PySem.W.Frag) (C dx : Addr) (hs : PySem.W.subIn K (.ref C) (.type "list") = some false) :
    Meets (Builtin.«list.__eq__» ⟨[.ref l, .ref b], []⟩) (fun _ R s => s.heap.get? l = some { cls := .type "list", dict := dd, data := dt, slots := sl } ∧ s.heap.get? b = some (PySem.W.instObj C dx) ∧ K.In s.heap ∧ R (.ok (.ret .notImplemented)) s) :=
  .of_wp fun prog w A R s h => by
    obtain ⟨hp, g, d, tk, os⟩ := s; obtain ⟨hl, hb, hK, h⟩ := h; have f1 := PySem.W.looks_subIn (M := model prog w) hK hs
    wp_walk using wpAny_loadPart' hl, wpAny_loadPart' hb, wpAny_load hb
    refine PySem.W.Looks.here (t := isSubtype (.ref C) (.type "list")) f1 ?_
    simp only [Bool.not_false, if_true]
    wp_walk
    exact ⟨_, rfl, h⟩
theorem m_eqTuple (l b : Addr) (dt : Data) (dd : Option Addr) (sl : Array (Option Value)) (K : PySem.W.Frag) (C dx : Addr) (hs : PySem.W.subIn K (.ref C) (.type "tuple") = some false) :
    Meets (Builtin.«tuple.__eq__» ⟨[.ref l, .ref b], []⟩) (fun _ R s => s.heap.get? l = some { cls := .type "tuple", dict := dd, data := dt, slots := sl } ∧ s.heap.get? b = some (PySem.W.instObj C dx) ∧ K.In s.heap ∧ R (.ok (.ret .notImplemented)) s) :=
  .of_wp fun prog w A R s h => by
    obtain ⟨hp, g, d, tk, os⟩ := s; obtain ⟨hl, hb, hK, h⟩ := h; have f1 := PySem.W.looks_subIn (M := model prog w) hK hs
    wp_walk using wpAny_loadPart' hl, wpAny_loadPart' hb, wpAny_load hb
    refine PySem.W.Looks.here (t := isSubtype (.ref C) (.type "tuple")) f1 ?_
    simp only [Bool.not_false, if_true]
    wp_walk
    exact ⟨_, rfl, h⟩
theorem m_eqInt (b : Int) (u : Tok) (l : Addr) (c : Value) (dd : Option Addr) (sl : Array (Option Value)) :
    Meets (Builtin.«int.__eq__» ⟨[.int b u, .ref l], []⟩) (fun _ R s => s.heap.get? l = some { cls := c, dict := dd, data := .plain, slots := sl } ∧ R (.ok (.ret .notImplemented)) s) :=
  .of_wp fun prog w A R s h => by obtain ⟨hp, g, d, tk, os⟩ := s; obtain ⟨hl, h⟩ := h; wp_walk using wpAny_loadPart' hl, wpAny_load hl; exact ⟨_, rfl, h⟩
theorem m_eqStr (b : Str) (u : Tok) (l : Addr) (c : Value) (dd : Option Addr) (sl : Array (Option Value)) :
    Meets (Builtin.«str.__eq__» ⟨[.str b u, .ref l], []⟩) (fun _ R s => s.heap.get? l = some { cls := c, dict := dd, data := .plain, slots := sl } ∧ R (.ok (.ret .notImplemented)) s) :=
  .of_wp fun prog w A R s h => by obtain ⟨hp, g, d, tk, os⟩ := s; obtain ⟨hl, h⟩ := h; wp_walk using wpAny_loadPart' hl, wpAny_load hl; exact ⟨_, rfl, h⟩
structure Decl (prog : Program) (w : World) (s : Shared) (a : Value) (x : Addr) (T id : String) : Prop where
  ty : s.TypeIs a T
  sl : Slot T "__eq__" id
  c : ∀ (A : Around) (E : Value → Shared → Prop) (Q : Value → Shared → Prop), Q .notImplemented s → wpAny (model prog w) A (call (.builtin id) [a, .ref x]) Q E s
  on : oneThing? .Eq a (.ref x) = none
section
variable {prog : Program} {w : World} {s : Shared} {K : PySem.W.Frag} {x C dx : Addr}
theorem decl_none : Decl prog w s .none x "NoneType" "NoneType.__eq__" := ⟨rfl, F.slot_NoneType_eq, fun A E Q h => call_gives F.slot_NoneType_eq rfl F.entry_NoneType_eq (F.args_NoneType_eq_2 _ _) (PySem.SeqAt.NoneType___eq___none_ref_0 x) h, rfl⟩
theorem decl_int (i : Int) (t : Tok) (hx : s.heap.get? x = some (PySem.W.instObj C dx)) : Decl prog w s (.int i t) x "int" "int.__eq__" := ⟨typeIs_int s i t, F.slot_int_eq, fun A E Q h => call_meets F.slot_int_eq (typeIs_int s i t) F.entry_int_eq (F.args_int_eq_2 _ _) (m_eqInt i t x _ _ _) ⟨hx, h⟩, rfl⟩
theorem decl_str (i : Str) (t : Tok) (hx : s.heap.get? x = some (PySem.W.instObj C dx)) : Decl prog w s (.str i t) x "str" "str.__eq__" := ⟨typeIs_str s i t, F.slot_str_eq, fun A E Q h => call_meets F.slot_str_eq (typeIs_str s i t) F.entry_str_eq (F.args_str_eq_2 _ _) (m_eqStr i t x _ _ _) ⟨hx, h⟩, rfl⟩
theorem decl_list {l : Addr} (hl : s.TypeIs (.ref l) "list") (hK : K.In s.heap) (hs : PySem.W.subIn K (.ref C) (.type "list") = some false) (hx : s.heap.get? x = some (PySem.W.instObj C dx)) : Decl prog w s (.ref l) x "list" "list.__eq__" := by
  obtain ⟨⟨cls, dd, data, sl⟩, ho, hc⟩ := id hl
  simp only at hc
  subst hc
  exact ⟨⟨_, ho, rfl⟩, F.slot_list_eq, fun A E Q h => call_meets F.slot_list_eq ⟨_, ho, rfl⟩ F.entry_list_eq (F.args_list_eq_2 _ _) (m_eqList l x data dd sl K C dx hs) ⟨ho, hx, hK, h⟩, rfl⟩
theorem decl_tuple {l : Addr} (hl : s.TypeIs (.ref l) "tuple") (hK : K.In s.heap) (hs : PySem.W.subIn K (.ref C) (.type "tuple") = some false) (hx : s.heap.get? x = some (PySem.W.instObj C dx)) : Decl prog w s (.ref l) x "tuple" "tuple.__eq__" := by
  obtain ⟨⟨cls, dd, data, sl⟩, ho, hc⟩ := id hl
  simp only at hc
  subst hc
  exact ⟨⟨_, ho, rfl⟩, F.slot_tuple_eq, fun A E Q h => call_meets F.slot_tuple_eq ⟨_, ho, rfl⟩ F.entry_tuple_eq (F.args_tuple_eq_2 _ _) (m_eqTuple l x data dd sl K C dx hs) ⟨ho, hx, hK, h⟩, rfl⟩
theorem eqRef_K {A : Around} {E : Value → Shared → Prop} {f : Addr} {a : Value} {T id : String} {od : Option Obj} {Q : Value → Shared → Prop} (D : Decl prog w s a x T id) (hu : A.units < cLine) (hK : K.In s.heap) (I : PySem.W.InstAt s.heap x (PySem.W.instObj C dx) C od) (hn : PySem.W.subIn K (.ref C) (.type T) = some false)
    (hs : PySem.W.findIn K (.ref C) "__eq__" = some (some (.ref f))) (hf : PySem.W.isFn K (.ref f) = true)
    (h : wpAny (model prog w) A (call (.ref f) [.ref x, a]) (PySem.W.CmpBack Q) E s) : wpAny (model prog w) A (richCompare .Eq a (.ref x)) Q E s := by
  have one : wpAny (model prog w) A (tryCompare (.ref x) "__eq__" a) (fun r s' => ∃ v, r = some v ∧ Q v s') E s := by
    unfold tryCompare
    refine wpAny_bind (PySem.W.ifBound_K hK I hs hf (wpAny_mono h (fun v s' hv => ?_) fun _ _ e => e))
    cases v <;> first | exact hv.elim | exact wpAny_pure ⟨_, rfl, hv⟩
  have ho := D.on
  simp only [richCompare, cmpInfo, ho]
  refine wpAny_holding (wpAny_bind (wpAny_cRoomFor hu ?_))
  refine wpAny_bind (wpAny_typeOf D.ty (wpAny_bind (I.type.here ?_)))
  have ne : (Value.type T != Value.ref C) = true := by simp
  simp only [ne, if_true]
  refine wpAny_bind ((PySem.W.looks_subIn hK hn).here ?_)
  simp only [Bool.false_eq_true, if_false, Bool.not_false, if_true]
  refine wpAny_bind (m := tryCompare a _ (.ref x)) (wpAny_tryCompare_declines D.ty D.sl (D.c _ _ _ ⟨rfl, ?_⟩))
  refine wpAny_bind (m := tryCompare (.ref x) _ a) (wpAny_mono one (fun r s' z => ?_) fun _ _ e => e)
  obtain ⟨v, rfl, hq⟩ := z
  exact wpAny_pure hq
end
theorem eqRB_sub {K : PySem.W.Frag} {C : Addr} (h : eqRB K C = true) {t : String} (m : t ∈ ["NoneType", "int", "str", "tuple", "list"]) : PySem.W.subIn K (.ref C) (.type t) = some false := of_decide_eq_true (List.all_eq_true.mp h t m)
section
variable {G : Gm} {E : WM} {X : Cx}
def SlotR (X : Cx) (G : Gm) (A : Around) (ms : List (Nat × Fn)) : Prop := ∀ c F, pickF c ms = some F → ∃ f, Meth X.K (G.cA c) "__eq__" f ∧ eqRB X.K (G.cA c) = true ∧ CallsIn X G A f 2 F
theorem slotR_nil {A : Around} : SlotR X G A [] := fun c F e => nomatch e
theorem slotR_cons {A : Around} {c : Nat} {f : Addr} {F : Fn} {ms : List (Nat × Fn)} (h2 : Meth X.K (G.cA c) "__eq__" f) (h4 : eqRB X.K (G.cA c) = true) (h3 : CallsIn X G A f 2 F) (hr : SlotR X G A ms) : SlotR X G A ((c, F) :: ms) := fun d F' e => by
  have e : (if c = d then some F else pickF d ms) = some F' := e
  by_cases k : c = d
  · rw [if_pos k] at e
    cases e
    subst k
    exact ⟨f, h2, h4, h3⟩
  · rw [if_neg k] at e
    exact hr d F' e
def rOwnR (G : Gm) (ms : List (Nat × Fn)) : R2 := fun x y H Q => ∃ ρ h l a c dx F, y = .ref a ∧ HRel G ρ H h ∧ ρ[l]? = some a ∧ clsM h (.loc l) = some c ∧ pickF c ms = some F ∧ VRel G ρ H x dx ∧ plainK h dx = true ∧ Wp G E0x (VRel G) ((F [.loc l, dx] h).quiet.bind (chkB false)) ρ H Q
theorem typeIs_list {pins : List (Addr × Obj)} {σ : L2.St} {H : Hp} {s : Shared} {a : Addr} {t : String} (I : Inv X pins σ H s) (k : TyX X.K H (.ref a) (.type t)) (ht : t ∈ ["tuple", "list"]) : s.TypeIs (.ref a) t := by
  cases k with
  | base b =>
    cases b with
    | lst ea =>
      obtain ⟨_, _, n, _, h1⟩ := (show ObjOk X.prog X.w H s.heap a (.lst _) from I.hok a _ ea)
      exact ⟨_, h1, rfl⟩
    | frz ea =>
      obtain ⟨_, _, _, n, _, h1⟩ := (show ObjOk X.prog X.w H s.heap a (.frz _ (.lst _)) from I.hok a _ ea)
      exact ⟨_, h1, rfl⟩
    | tup ea =>
      obtain ⟨_, _, _, o, h1, h2, _⟩ := (show ObjOk X.prog X.w H s.heap a (.tup _) from I.hok a _ ea)
      exact ⟨_, h1, h2⟩
    | _ => simp at ht
  | kList e c => exact ⟨_, I.kIn _ _ e, c⟩
  | kTuple e c => exact ⟨_, I.kIn _ _ e, c⟩
  | fTuple e =>
    obtain ⟨_, _, _, _, o, h1, h2, _⟩ := (show ObjOk X.prog X.w H s.heap a (.frz _ (.tup _)) from I.hok a _ e)
    exact ⟨_, h1, h2⟩
  | _ => simp at ht
theorem decl_of {pins : List (Addr × Obj)} {σ : L2.St} {H : Hp} {s : Shared} {ρ : List Addr} {h : Hm} {dx : D} {x : V} {v : Value} {a C od : Addr} (hK : X.K = G.K) (I : Inv X pins σ H s) (hr : HRel G ρ H h) (q : VRel G ρ H x dx) (rx : RelV x v) (ty : plainK h dx = true) (hx : s.heap.get? a = some (PySem.W.instObj C od)) (nb : eqRB X.K C = true) :
    ∃ T id, Decl X.prog X.w s v a T id ∧ PySem.W.subIn X.K (.ref C) (.type T) = some false := by
  unfold plainK at ty
  split at ty
  · rename_i t et
    obtain ⟨k1, _⟩ := tyD_x hr q et
    rw [← hK] at k1
    have mt : t ∈ ["NoneType", "int", "str", "tuple", "list"] := by simpa using ty
    cases q with
    | non =>
      cases (show v = Value.none from rx)
      exact ⟨_, _, decl_none, eqRB_sub nb (by decide)⟩
    | bl b =>
      cases (show some "bool" = some t from et)
      simp at mt
    | int i =>
      obtain ⟨t, q⟩ := (show ∃ t, v = Value.int i t from rx)
      cases q
      exact ⟨_, _, decl_int i t hx, eqRB_sub nb (by decide)⟩
    | str i =>
      obtain ⟨t, q⟩ := (show ∃ t, v = Value.str i t from rx)
      cases q
      exact ⟨_, _, decl_str i t hx, eqRB_sub nb (by decide)⟩
    | @tup a' vs ds h1 h2 =>
      cases (show v = Value.ref a' from rx)
      cases (show some "tuple" = some t from et)
      exact ⟨_, _, decl_tuple (typeIs_list I k1 (by decide)) I.kIn (eqRB_sub nb (by decide)) hx, eqRB_sub nb (by decide)⟩
    | @kl a' vs ds h1 h2 =>
      cases (show v = Value.ref a' from rx)
      cases (show some "list" = some t from et)
      exact ⟨_, _, decl_list (typeIs_list I k1 (by decide)) I.kIn (eqRB_sub nb (by decide)) hx, eqRB_sub nb (by decide)⟩
    | @loc a' l hl =>
      cases (show v = Value.ref a' from rx)
      have et : (match h.g l with
        | some (.lst _) => some "list"
        | some (.dic _) => some "dict"
        | _ => none) = some t := et
      split at et
      · cases et
        exact ⟨_, _, decl_list (typeIs_list I k1 (by decide)) I.kIn (eqRB_sub nb (by decide)) hx, eqRB_sub nb (by decide)⟩
      · cases et
        simp at mt
      · cases et
    | ty n => cases et
    | ob k => cases et
  · cases ty
theorem op_eqR {ms : List (Nat × Fn)} (hK : X.K = G.K) (hu : X.A.units < cLine) (hM : SlotR X G X.A ms) : OpR X (compareOp .Eq) (rOwnR G ms) := by
  intro pins s σ H x y v u Q I rx ry hh
  obtain ⟨ρ, h, l, a, c, dx, F, rfl, hr, hl, ec, ep, qx, ty, w⟩ := hh
  cases (show u = Value.ref a from ry)
  obtain ⟨f, M, nb, cf⟩ := hM c F ep
  unfold clsM at ec
  simp only at ec
  split at ec <;> first | (cases ec; done) | skip
  rename_i c' fs e1
  cases ec
  obtain ⟨dd, fvs, ea, _⟩ := hr.at e1 hl
  obtain ⟨mA, O, _⟩ := ins_get I.hok ea
  obtain ⟨od, J, _⟩ := O.look
  obtain ⟨T, id, dc, hn⟩ := decl_of hK I hr qx rx ty O.obj nb
  show wpAny (model X.prog X.w) X.A (richCompare .Eq v (.ref a)) (EP X pins σ Q) X.xe s
  refine eqRef_K dc hu I.kIn J hn M.at_ M.fn (wpAny_mono (cf pins s σ H [.ref a, v] [.ref a, x] ρ h [.loc l, dx] (fun v H' => ∃ b : Bool, v = .bl b ∧ Q (.bl b) H') I (.cons rfl (.cons rx .nil)) hr (.cons (.loc hl) (.cons qx .nil)) rfl (quiet_wp w fun d h' ρ' H' v g r' q w' => ?_)) (fun u s' hu => ?_) fun _ _ x => x)
  · unfold chkB at w'
    split at w' <;> first | exact False.elim w' | skip
    cases q
    exact ⟨_, rfl, w'.val r' (.bl _)⟩
  · obtain ⟨v, H', I', rv, b, rfl, q⟩ := hu
    cases (show u = Value.bool b from rv)
    exact ⟨.bl b, H', I', rfl, q⟩
theorem os_eqR {ms : List (Nat × Fn)} : OpS G E (fun x y H Q => (rEq x y H Q ∨ rEqD G.K x y H Q) ∨ rOwnR G ms x y H Q) (opEqR ms) := by
  intro τ ρ H h x y v u Q hr q1 q2 w
  unfold opEqR at w
  split at w
  · rename_i c ec
    split at w <;> first | exact False.elim w | skip
    rename_i F ep
    obtain ⟨t, w⟩ := Wp.ifR w
    have ex : ∃ l, y = .loc l := by
      unfold clsM at ec
      split at ec
      · exact ⟨_, rfl⟩
      · cases ec
    obtain ⟨l, rfl⟩ := ex
    cases q2 with
    | @loc a l hl =>
      refine .inr ⟨ρ, h, l, a, c, x, F, rfl, hr, hl, ec, ep, q1, t, ?_⟩
      cases e2 : F [.loc l, x] h with
      | ok d h' =>
        rw [e2] at w
        have w : Wp G (atW E τ) (VRel G) (chkB false d h') ρ H Q := w
        show Wp G E0x (VRel G) (chkB false d h') ρ H Q
        unfold chkB at w ⊢
        split at w
        · exact w
        · exact False.elim w
      | exc c l h' => rw [e2] at w; exact False.elim w
      | bad => rw [e2] at w; exact False.elim w
  · exact .inl (os_eq τ ρ H h x y v u Q hr q1 q2 w)
theorem op_eqRA {ms : List (Nat × Fn)} {k : Nat} (hK : X.K = G.K) (rg : RG (k + 1) X.A) (hM : SlotR X G X.A ms) : OpR X (compareOp .Eq) (fun x y H Q => (rEq x y H Q ∨ rEqD G.K x y H Q) ∨ rOwnR G ms x y H Q) := by
  rw [← hK]
  exact (op_eqU rg.r.units).or (op_eqR hK rg.r.units0 hM)
end
section
variable {G : Gm} {E : WM} {X : Cx} {ma : ME}
variable {tg it elt : Expr} {ifs : List Expr} {scope : Scope} {own : List (Str × Nat)} {mi : MI} {t : MT} {one : Bool} {is : List Nat} {g : TG} {x : Str} {p pos pos2 : Pos}
theorem me_sortCM (hc : X.calm = true) (hN : X.N.Nodup) (hg0 : Gl X x) (hm : X.mg x = none) (hv : bootBuiltins x = some (.builtin "sorted")) (hi : PI X tg it (rdI G E mi)) (ok : BlkOk X.N X.env.scope scope own) (hbd : BdOk G (bindC one is) g (own.map (·.2)))
    (hg : ∀ (s : Shared) (H : Hp) (C : Addr) (cl : List (Str × Addr)) (fp : List Addr), PG (X.blk s H scope (compEnvC scope cl C X.env) fp) tg g) (ht : ∀ (s : Shared) (H : Hp) (C : Addr) (cl : List (Str × Addr)) (fp : List Addr), PTs (X.blk s H scope (compEnvC scope cl C X.env) fp) ifs (rdT G EW t))
    (he : ∀ (s : Shared) (H : Hp) (C : Addr) (cl : List (Str × Addr)) (fp : List Addr), PE (X.blk s H scope (compEnvC scope cl C X.env) fp) elt (rd G EW ma)) (hs : ∀ x, foldedSetIterable it X.env x = pure x := by intro _; rfl) (hn : x ≠ "__name__" := by decide) (hdb : (x == ("__debug__" : Str)) = false := by decide)
    (hs2 : starEach [.SetComp elt [⟨tg, it, ifs, 0⟩] scope pos2] X.env = (false, eval (.SetComp elt [⟨tg, it, ifs, 0⟩] scope pos2) X.env) :: starEach [] X.env := by rfl) (hpl2 : (backTo pos (starEach [] X.env)).any (·.1) = false := by rfl) :
    PE X (.Call (.Name x p) [.SetComp elt [⟨tg, it, ifs, 0⟩] scope pos2] [] pos) (rd G E (eSortCM mi (own.map (·.2)) one is t ma)) :=
  pe_w (pe_callB (cr_sortedSetM hc) hg0 hm hv (pa_cons (pe_scI hc hN hi ok hg ht he hs) pa_nil hs2) hn hdb hs2 hpl2) fun σ H Q w =>
    rd_setC (w0 := X.w) (fun ks h2 => ifR (decide ((sortU ks).length < 64)) (.ok (.loc h2.n) (h2.new (.lst ((sortU ks).map .int))))) hbd σ H Q (fun v H1 => ∃ a S n ks, [v] = [V.ref a] ∧ H1 a = some (SetO X.w a S n) ∧ (∀ k, S k = true ↔ k ∈ ks) ∧ (sortU ks).length < 64 ∧ ∀ p, H1 p = none → Q (.ref p) (upd H1 p (.lst ((sortU ks).map V.int)))) (fun ρ1 H1 ρ2 H2 h2 S n ks L hL g2 r2 n2 e2 mem w2 => by
      obtain ⟨c, w2⟩ := Wp.ifR w2
      exact ⟨L, S, n, ks, rfl, e2, mem, of_decide_eq_true c, fun p hp => (Wp.grow g2 w2).newL r2 (rel_ints _) hp⟩) w
end
end Mo
end
section
namespace Lw
open PySem Mo
def q_num : Str := ⟨#[110, 117, 109]⟩
theorem ok_q_num : PyData.strOk q_num = true := by decide +kernel
def q_kind : Str := ⟨#[107, 105, 110, 100]⟩
theorem ok_q_kind : PyData.strOk q_kind = true := by decide +kernel
def q_size : Str := ⟨#[115, 105, 122, 101]⟩
theorem ok_q_size : PyData.strOk q_size = true := by decide +kernel
def q_full : Str := ⟨#[102, 117, 108, 108]⟩
theorem ok_q_full : PyData.strOk q_full = true := by decide +kernel
def q_room : Str := ⟨#[114, 111, 111, 109]⟩
theorem ok_q_room : PyData.strOk q_room = true := by decide +kernel
def q_make_room : Str := ⟨#[109, 97, 107, 101, 95, 114, 111, 111, 109]⟩
def q_gone : Str := ⟨#[103, 111, 110, 101]⟩
theorem ok_q_gone : PyData.strOk q_gone = true := by decide +kernel
def q_bounds : Str := ⟨#[98, 111, 117, 110, 100, 115]⟩
theorem ok_q_bounds : PyData.strOk q_bounds = true := by decide +kernel
def q_need_there : Str := ⟨#[110, 101, 101, 100, 95, 116, 104, 101, 114, 101]⟩
def q_place_of : Str := ⟨#[112, 108, 97, 99, 101, 95, 111, 102]⟩
def q_put_at : Str := ⟨#[112, 117, 116, 95, 97, 116]⟩
def q_word_at : Str := ⟨#[119, 111, 114, 100, 95, 97, 116]⟩
def q_there : Str := ⟨#[116, 104, 101, 114, 101]⟩
def q_owners : Str := ⟨#[111, 119, 110, 101, 114, 115]⟩
def q_end_rooms : Str := ⟨#[101, 110, 100, 95, 114, 111, 111, 109, 115]⟩
def q_all_kept : Str := ⟨#[97, 108, 108, 95, 107, 101, 112, 116]⟩
def q_rooms_twin : Str := ⟨#[114, 111, 111, 109, 115, 95, 116, 119, 105, 110]⟩
def q_cells : Str := ⟨#[99, 101, 108, 108, 115]⟩
def q_at : Str := ⟨#[97, 116]⟩
def q_left : Str := ⟨#[108, 101, 102, 116]⟩
def q_most : Str := ⟨#[109, 111, 115, 116]⟩
def q_rows : Str := ⟨#[114, 111, 119, 115]⟩
def q_words : Str := ⟨#[119, 111, 114, 100, 115]⟩
def q_owner : Str := ⟨#[111, 119, 110, 101, 114]⟩
theorem ok_q_owner : PyData.strOk q_owner = true := by decide +kernel
def q_places : Str := ⟨#[112, 108, 97, 99, 101, 115]⟩
theorem ok_q_places : PyData.strOk q_places = true := by decide +kernel
def q_proc : Str := ⟨#[112, 114, 111, 99]⟩
theorem ok_q_proc : PyData.strOk q_proc = true := by decide +kernel
def q_make : Str := ⟨#[109, 97, 107, 101]⟩
def q_look : Str := ⟨#[108, 111, 111, 107]⟩
def q_put : Str := ⟨#[112, 117, 116]⟩
def q_part : Str := ⟨#[112, 97, 114, 116]⟩
def q_trap : Str := ⟨#[116, 114, 97, 112]⟩
theorem ok_q_trap : PyData.strOk q_trap = true := by decide +kernel
def q_told : Str := ⟨#[116, 111, 108, 100]⟩
theorem ok_q_told : PyData.strOk q_told = true := by decide +kernel
def q_part_of : Str := ⟨#[112, 97, 114, 116, 95, 111, 102]⟩
def q_size_of : Str := ⟨#[115, 105, 122, 101, 95, 111, 102]⟩
def q_need_made : Str := ⟨#[110, 101, 101, 100, 95, 109, 97, 100, 101]⟩
def q_places_of : Str := ⟨#[112, 108, 97, 99, 101, 115, 95, 111, 102]⟩
def q_touches : Str := ⟨#[116, 111, 117, 99, 104, 101, 115]⟩
def q_Rooms_ : Str := ⟨#[82, 111, 111, 109, 115, 40]⟩
def q__ : Str := ⟨#[41]⟩
def q_owner_of : Str := ⟨#[111, 119, 110, 101, 114, 95, 111, 102]⟩
def q_is_gone : Str := ⟨#[105, 115, 95, 103, 111, 110, 101]⟩
def q_Rooms_0_ : Str := ⟨#[82, 111, 111, 109, 115, 40, 48, 41]⟩
def b_is_whole : MS := sRet (eAnd (eBi (bIsi "int") (aCons (eV 0) (aCons (eC (.ty "int")) aNil))) (eAnd (eNot (eBi (bIsi "bool") (aCons (eV 0) (aCons (eC (.ty "bool")) aNil)))) (eChain opLe opLe (eV 1) (eV 0) (eV 2))))
def f_is_whole : Fn := fnOf 3 (b_is_whole)
theorem u_is_whole {E : XE} {Q : D → Hm → Prop} {h : Hm} {d0 d1 d2 : D} (w : EvS (fun c l _ h => E c l h) (b_is_whole [some d0, some d1, some d2] h) (poF Q)) : Ev E (f_is_whole [d0, d1, d2] h) Q := ev_fn w
def b_Rooms_init : MS := sSeq (sIf (tNot (tB (eCall (callP 1 1 (fun ds es => ds ++ (([.int 0].drop 0).take 1 ++ ((es.drop 0).take 1))) f_is_whole) (aCons (eV 1) (aNil)) (aCons (eC (.int 1000)) (aNil))))) (sBad) (sNext))
  (sSeq (sFld (eV 0) [0] q_most_here (eV 1))
  (sAsg (eTup (aCons (eLst (aNil)) (aCons (eLst (aNil)) (aCons (eLst (aNil)) (aNil))))) (gT 3 [gFld (eV 0) [0] q_all_owners, gFld (eV 0) [0] q_all_places, gFld (eV 0) [0] q_touched])))
def f_Rooms_init : Fn := fnOf 2 (b_Rooms_init)
theorem u_Rooms_init {E : XE} {Q : D → Hm → Prop} {h : Hm} {d0 d1 : D} (w : EvS (fun c l _ h => E c l h) (b_Rooms_init [some d0, some d1] h) (poF Q)) : Ev E (f_Rooms_init [d0, d1] h) Q := ev_fn w
def b_number_of : MS := sSeq (sIf (tB (eOp opNe (eOp opIx (eV 0) (eC (.int 0))) (eC (.str q_num)))) (sRaise 2 [q_word] (aCons (eC (.str q_kind)) (aNil))) (sNext))
  (sRet (eOp opIx (eV 0) (eC (.int 1))))
def f_number_of : Fn := fnOf 1 (b_number_of)
theorem u_number_of {E : XE} {Q : D → Hm → Prop} {h : Hm} {d0 : D} (w : EvS (fun c l _ h => E c l h) (b_number_of [some d0] h) (poF Q)) : Ev E (f_number_of [d0] h) Q := ev_fn w
def b_Rooms_make_room : MS := sSeq (sAsg (eCall (callP 1 0 (fun ds _ => ds) f_number_of) (aCons (eV 1) (aNil)) (aNil)) (gN 3))
  (sSeq (sIf (tNot (tB (eChain opLe opLe (eC (.int 0)) (eV 3) (eC (.int 64))))) (sRaise 2 [q_word] (aCons (eC (.str q_size)) (aNil))) (sNext))
  (sSeq (sAsg (eBi bLen (aCons (eFld (eV 0) [0] q_all_owners) (aNil))) (gN 4))
  (sSeq (sIf (tB (eOp opGe (eV 4) (eFld (eV 0) [0] q_most_here))) (sRaise 2 [q_word] (aCons (eC (.str q_full)) (aNil))) (sNext))
  (sSeq (sExpr (eBM "list" mAppend (eFld (eV 0) [0] q_all_owners) (aCons (eV 2) (aNil))))
  (sSeq (sExpr (eBM "list" mAppend (eFld (eV 0) [0] q_all_places) (aCons (eOp opMul (eLst (aCons (eC (.tup [.str q_num, .int 0])) (aNil))) (eV 3)) (aNil))))
  (sSeq (sExpr (eBM "list" mAppend (eFld (eV 0) [0] q_touched) (aCons (eV 4) (aNil))))
  (sRet (eTup (aCons (eC (.str q_room)) (aCons (eV 4) (aCons (eC (.int 0)) (aCons (eV 3) (aNil)))))))))))))
def f_Rooms_make_room : Fn := fnOf 5 (b_Rooms_make_room)
theorem u_Rooms_make_room {E : XE} {Q : D → Hm → Prop} {h : Hm} {d0 d1 d2 : D} (w : EvS (fun c l _ h => E c l h) (b_Rooms_make_room [some d0, some d1, some d2, none, none] h) (poF Q)) : Ev E (f_Rooms_make_room [d0, d1, d2] h) Q := ev_fn w
def b_Rooms_need_there : MS := sSeq (sAsg (eV 1) (gT 4 [gN 2, gN 3, gN 4, gN 5]))
  (sSeq (sIf (tOr (tB (eOp opGe (eV 3) (eBi bLen (aCons (eFld (eV 0) [0] q_all_places) (aNil))))) (tB (eUn opIsN (eOp opIx (eFld (eV 0) [0] q_all_places) (eV 3))))) (sRaise 2 [q_word] (aCons (eC (.str q_gone)) (aNil))) (sNext))
  (sIf (tB (eOp opGt (eOp opAddK (eV 4) (eV 5)) (eBi bLen (aCons (eOp opIx (eFld (eV 0) [0] q_all_places) (eV 3)) (aNil))))) (sRaise 2 [q_word] (aCons (eC (.str q_bounds)) (aNil))) (sNext)))
def f_Rooms_need_there : Fn := fnOf 6 (b_Rooms_need_there)
theorem u_Rooms_need_there {E : XE} {Q : D → Hm → Prop} {h : Hm} {d0 d1 : D} (w : EvS (fun c l _ h => E c l h) (b_Rooms_need_there [some d0, some d1, none, none, none, none] h) (poF Q)) : Ev E (f_Rooms_need_there [d0, d1] h) Q := ev_fn w
def b_Rooms_place_of : MS := sSeq (sIf (tB (eOp opNe (eOp opIx (eV 1) (eC (.int 0))) (eC (.str q_room)))) (sRaise 2 [q_word] (aCons (eC (.str q_kind)) (aNil))) (sNext))
  (sSeq (sAsg (eCall (callP 1 0 (fun ds _ => ds) f_number_of) (aCons (eV 2) (aNil)) (aNil)) (gN 3))
  (sSeq (sExpr (eMeth (eV 0) q_need_there [(0, callP 2 0 (fun ds _ => ds) f_Rooms_need_there)] (aCons (eV 1) (aNil)) (aNil)))
  (sSeq (sIf (tNot (tB (eChain opLe opLt (eC (.int 0)) (eV 3) (eOp opIx (eV 1) (eC (.int 3)))))) (sRaise 2 [q_word] (aCons (eC (.str q_bounds)) (aNil))) (sNext))
  (sRet (eOp opAddK (eOp opIx (eV 1) (eC (.int 2))) (eV 3))))))
def f_Rooms_place_of : Fn := fnOf 4 (b_Rooms_place_of)
theorem u_Rooms_place_of {E : XE} {Q : D → Hm → Prop} {h : Hm} {d0 d1 d2 : D} (w : EvS (fun c l _ h => E c l h) (b_Rooms_place_of [some d0, some d1, some d2, none] h) (poF Q)) : Ev E (f_Rooms_place_of [d0, d1, d2] h) Q := ev_fn w
def b_Rooms_put_at : MS := sSeq (sAsg (eMeth (eV 0) q_place_of [(0, callP 3 0 (fun ds _ => ds) f_Rooms_place_of)] (aCons (eV 1) (aCons (eV 2) (aNil))) (aNil)) (gN 4))
  (sSeq (sExpr (eBM "list" mAppend (eFld (eV 0) [0] q_touched) (aCons (eOp opIx (eV 1) (eC (.int 1))) (aNil))))
  (sAsg (eV 3) (gIx (eOp opIx (eFld (eV 0) [0] q_all_places) (eOp opIx (eV 1) (eC (.int 1)))) (eV 4))))
def f_Rooms_put_at : Fn := fnOf 5 (b_Rooms_put_at)
theorem u_Rooms_put_at {E : XE} {Q : D → Hm → Prop} {h : Hm} {d0 d1 d2 d3 : D} (w : EvS (fun c l _ h => E c l h) (b_Rooms_put_at [some d0, some d1, some d2, some d3, none] h) (poF Q)) : Ev E (f_Rooms_put_at [d0, d1, d2, d3] h) Q := ev_fn w
def b_Rooms_word_at : MS := sSeq (sAsg (eMeth (eV 0) q_place_of [(0, callP 3 0 (fun ds _ => ds) f_Rooms_place_of)] (aCons (eV 1) (aCons (eV 2) (aNil))) (aNil)) (gN 3))
  (sSeq (sExpr (eBM "list" mAppend (eFld (eV 0) [0] q_touched) (aCons (eOp opIx (eV 1) (eC (.int 1))) (aNil))))
  (sRet (eOp opIx (eOp opIx (eFld (eV 0) [0] q_all_places) (eOp opIx (eV 1) (eC (.int 1)))) (eV 3))))
def f_Rooms_word_at : Fn := fnOf 4 (b_Rooms_word_at)
theorem u_Rooms_word_at {E : XE} {Q : D → Hm → Prop} {h : Hm} {d0 d1 d2 : D} (w : EvS (fun c l _ h => E c l h) (b_Rooms_word_at [some d0, some d1, some d2, none] h) (poF Q)) : Ev E (f_Rooms_word_at [d0, d1, d2] h) Q := ev_fn w
def b_is_number : MS := sRet (eAnd (eBi (bIsi "int") (aCons (eV 0) (aCons (eC (.ty "int")) aNil))) (eNot (eBi (bIsi "bool") (aCons (eV 0) (aCons (eC (.ty "bool")) aNil)))))
def f_is_number : Fn := fnOf 1 (b_is_number)
theorem u_is_number {E : XE} {Q : D → Hm → Prop} {h : Hm} {d0 : D} (w : EvS (fun c l _ h => E c l h) (b_is_number [some d0] h) (poF Q)) : Ev E (f_is_number [d0] h) Q := ev_fn w
def c_Rooms_there_1 : ME := eV 1
def b_Rooms_there : MS := sRet (eComp (iEnum (eFld (eV 0) [0] q_all_places)) [1, 2] false [1, 2] (tB (eUn opNotN (eV 2))) c_Rooms_there_1)
def f_Rooms_there : Fn := fnOf 3 (b_Rooms_there)
theorem u_Rooms_there {E : XE} {Q : D → Hm → Prop} {h : Hm} {d0 : D} (w : EvS (fun c l _ h => E c l h) (b_Rooms_there [some d0, none, none] h) (poF Q)) : Ev E (f_Rooms_there [d0] h) Q := ev_fn w
def c_Rooms_owners_1 : ME := eOp opIx (eFld (eV 0) [0] q_all_owners) (eV 1)
def b_Rooms_owners : MS := sRet (eSortCM (iSeq (eMeth (eV 0) q_there [(0, callP 1 0 (fun ds _ => ds) f_Rooms_there)] (aNil) (aNil))) [1] true [1] (tYes) c_Rooms_owners_1)
def f_Rooms_owners : Fn := fnOf 2 (b_Rooms_owners)
theorem u_Rooms_owners {E : XE} {Q : D → Hm → Prop} {h : Hm} {d0 : D} (w : EvS (fun c l _ h => E c l h) (b_Rooms_owners [some d0, none] h) (poF Q)) : Ev E (f_Rooms_owners [d0] h) Q := ev_fn w
def c_Rooms_end_rooms_1 : ME := eV 3
def l_Rooms_end_rooms_2 : MS := sAsg (eC .non) (gIx (eFld (eV 0) [0] q_all_places) (eV 3))
def b_Rooms_end_rooms : MS := sSeq (sIf (tOr (tNot (tB (eCall (callP 1 0 (fun ds _ => ds) f_is_number) (aCons (eV 1) (aNil)) (aNil)))) (tB (eOp (opIn true) (eV 1) (eMeth (eV 0) q_owners [(0, callP 1 0 (fun ds _ => ds) f_Rooms_owners)] (aNil) (aNil))))) (sRaise 1 [q_name] (aCons (eV 1) (aNil))) (sNext))
  (sSeq (sAsg (eCompK (iSeq (eMeth (eV 0) q_there [(0, callP 1 0 (fun ds _ => ds) f_Rooms_there)] (aNil) (aNil))) [3] true [3] (tB (eOp opEq (eOp opIx (eFld (eV 0) [0] q_all_owners) (eV 3)) (eV 1))) c_Rooms_end_rooms_1) (gN 2))
  (sSeq (sFor (iSeq (eV 2)) (gN 3) l_Rooms_end_rooms_2)
  (sRet (eV 2))))
def f_Rooms_end_rooms : Fn := fnOf 4 (b_Rooms_end_rooms)
theorem u_Rooms_end_rooms {E : XE} {Q : D → Hm → Prop} {h : Hm} {d0 d1 : D} (w : EvS (fun c l _ h => E c l h) (b_Rooms_end_rooms [some d0, some d1, none, none] h) (poF Q)) : Ev E (f_Rooms_end_rooms [d0, d1] h) Q := ev_fn w
def b_led : MS := sSeq (sAsg (eCall (mkNew 0 (callP 1 1 (fun us ws => us ++ ((ws.drop 0).take 1)) f_Rooms_init)) (aNil) (aCons (eV 0) (aNil))) (gN 3))
  (sSeq (sAsg (eMeth (eV 3) q_make_room [(0, callP 3 0 (fun ds _ => ds) f_Rooms_make_room)] (aCons (eTup (aCons (eC (.str q_num)) (aCons (eC (.int 3)) (aNil)))) (aCons (eV 1) (aNil))) (aNil)) (gN 4))
  (sSeq (sExpr (eMeth (eV 3) q_make_room [(0, callP 3 0 (fun ds _ => ds) f_Rooms_make_room)] (aCons (eTup (aCons (eC (.str q_num)) (aCons (eC (.int 0)) (aNil)))) (aCons (eC (.int 1)) (aNil))) (aNil)))
  (sSeq (sExpr (eMeth (eV 3) q_put_at [(0, callP 4 0 (fun ds _ => ds) f_Rooms_put_at)] (aCons (eV 4) (aCons (eTup (aCons (eC (.str q_num)) (aCons (eC (.int 1)) (aNil)))) (aCons (eTup (aCons (eC (.str q_num)) (aCons (eOp opAddM (eC (.int 7)) (eBi bInt (aCons (eOp opEq (eV 2) (eC (.int 4))) (aNil)))) (aNil)))) (aNil)))) (aNil)))
  (sSeq (sIf (tB (eOp opEq (eV 2) (eC (.int 1)))) (sExpr (eMeth (eV 3) q_word_at [(0, callP 3 0 (fun ds _ => ds) f_Rooms_word_at)] (aCons (eV 4) (aCons (eTup (aCons (eC (.str q_num)) (aCons (eC (.int 0)) (aNil)))) (aNil))) (aNil))) (sNext))
  (sSeq (sIf (tB (eOp opEq (eV 2) (eC (.int 2)))) (sExpr (eMeth (eV 3) q_put_at [(0, callP 4 0 (fun ds _ => ds) f_Rooms_put_at)] (aCons (eV 4) (aCons (eTup (aCons (eC (.str q_num)) (aCons (eC (.int 1)) (aNil)))) (aCons (eTup (aCons (eC (.str q_num)) (aCons (eC (.int 7)) (aNil)))) (aNil)))) (aNil))) (sNext))
  (sSeq (sIf (tB (eOp opEq (eV 2) (eC (.int 3)))) (sExpr (eMeth (eV 3) q_end_rooms [(0, callP 2 0 (fun ds _ => ds) f_Rooms_end_rooms)] (aCons (eC (.int 1)) (aNil)) (aNil))) (sNext))
  (sSeq (sIf (tB (eOp opEq (eV 2) (eC (.int 5)))) (sExpr (eMeth (eV 3) q_end_rooms [(0, callP 2 0 (fun ds _ => ds) f_Rooms_end_rooms)] (aCons (eV 1) (aNil)) (aNil))) (sNext))
  (sRet (eV 3)))))))))
def f_led : Fn := fnOf 5 (b_led)
theorem u_led {E : XE} {Q : D → Hm → Prop} {h : Hm} {d0 d1 d2 : D} (w : EvS (fun c l _ h => E c l h) (b_led [some d0, some d1, some d2, none, none] h) (poF Q)) : Ev E (f_led [d0, d1, d2] h) Q := ev_fn w
def b_Rooms_all_kept : MS := sRet (eTup (aCons (eFld (eV 0) [0] q_most_here) (aCons (eFld (eV 0) [0] q_all_owners) (aCons (eFld (eV 0) [0] q_all_places) (aCons (eFld (eV 0) [0] q_touched) (aNil))))))
def f_Rooms_all_kept : Fn := fnOf 1 (b_Rooms_all_kept)
theorem u_Rooms_all_kept {E : XE} {Q : D → Hm → Prop} {h : Hm} {d0 : D} (w : EvS (fun c l _ h => E c l h) (b_Rooms_all_kept [some d0] h) (poF Q)) : Ev E (f_Rooms_all_kept [d0] h) Q := ev_fn w
def b_Rooms_eq : MS := sRet (eAnd (eIs [("NoneType", false), ("bool", false), ("int", false), ("str", false), ("tuple", false), ("list", false), ("dict", false)] [(0, true)] [] (eV 1)) (eOp opEq (eMeth (eV 0) q_all_kept [(0, callP 1 0 (fun ds _ => ds) f_Rooms_all_kept)] (aNil) (aNil)) (eMeth (eV 1) q_all_kept [(0, callP 1 0 (fun ds _ => ds) f_Rooms_all_kept)] (aNil) (aNil))))
def f_Rooms_eq : Fn := fnOf 2 (b_Rooms_eq)
theorem u_Rooms_eq {E : XE} {Q : D → Hm → Prop} {h : Hm} {d0 d1 : D} (w : EvS (fun c l _ h => E c l h) (b_Rooms_eq [some d0, some d1] h) (poF Q)) : Ev E (f_Rooms_eq [d0, d1] h) Q := ev_fn w
def l_turns_right_1 : MS := sExpr (eMeth (eV 2) q_word_at [(0, callP 3 0 (fun ds _ => ds) f_Rooms_word_at)] (aCons (eV 4) (aCons (eTup (aCons (eC (.str q_num)) (aCons (eC (.int 0)) (aNil)))) (aNil))) (aNil))
def l_turns_right_2 : MS := sSeq (sAsg (eLstK (aCons (eMeth (eV 2) q_make_room [(0, callP 3 0 (fun ds _ => ds) f_Rooms_make_room)] (aCons (eTup (aCons (eC (.str q_num)) (aCons (eC (.int 1)) (aNil)))) (aCons (eC (.int 0)) (aNil))) (aNil)) (aCons (eMeth (eV 2) q_make_room [(0, callP 3 0 (fun ds _ => ds) f_Rooms_make_room)] (aCons (eTup (aCons (eC (.str q_num)) (aCons (eC (.int 1)) (aNil)))) (aCons (eC (.int 0)) (aNil))) (aNil)) (aNil)))) (gN 3))
  (sFor (iSeq (eStep (eV 3) (eOp opIx (eLstK (aCons (eC (.int 1)) (aCons (eUn opNeg (eC (.int 1))) (aCons (eC (.int 1)) (aNil))))) (eV 1)))) (gN 4) l_turns_right_1)
def b_turns_right : MS := sSeq (sAsg (eLstK (aCons (eCall (mkNew 0 (callP 1 1 (fun us ws => us ++ ((ws.drop 0).take 1)) f_Rooms_init)) (aNil) (aCons (eC (.int 2)) (aNil))) (aCons (eCall (mkNew 0 (callP 1 1 (fun us ws => us ++ ((ws.drop 0).take 1)) f_Rooms_init)) (aNil) (aCons (eC (.int 2)) (aNil))) (aCons (eCall (mkNew 0 (callP 1 1 (fun us ws => us ++ ((ws.drop 0).take 1)) f_Rooms_init)) (aNil) (aCons (eC (.int 2)) (aNil))) (aNil))))) (gN 0))
  (sSeq (sFor (iEnum (eV 0)) (gT 2 [gN 1, gN 2]) l_turns_right_2)
  (sRet (eAnd (eOp (opEqO true [(0, f_Rooms_eq)]) (eOp opIx (eV 0) (eC (.int 0))) (eOp opIx (eV 0) (eC (.int 1)))) (eAnd (eNot (eOp (opEqO false [(0, f_Rooms_eq)]) (eOp opIx (eV 0) (eC (.int 1))) (eOp opIx (eV 0) (eC (.int 2))))) (eOp (opEqO false [(0, f_Rooms_eq)]) (eOp opIx (eV 0) (eC (.int 0))) (eOp opIx (eV 0) (eC (.int 2))))))))
def f_turns_right : Fn := fnOf 5 (b_turns_right)
theorem u_turns_right {E : XE} {Q : D → Hm → Prop} {h : Hm} (w : EvS (fun c l _ h => E c l h) (b_turns_right [none, none, none, none, none] h) (poF Q)) : Ev E (f_turns_right [] h) Q := ev_fn w
def c_Rooms_rooms_twin_1 : ME := eIf (tB (eUn opIsN (eV 2))) (eC .non) (eBi bList (aCons (eV 2) (aNil)))
def b_Rooms_rooms_twin : MS := sSeq (sAsg (eCall (mkNew 0 (callP 1 1 (fun us ws => us ++ ((ws.drop 0).take 1)) f_Rooms_init)) (aNil) (aCons (eFld (eV 0) [0] q_most_here) (aNil))) (gN 1))
  (sSeq (sAsg (eTup (aCons (eBi bList (aCons (eFld (eV 0) [0] q_all_owners) (aNil))) (aCons (eBi bList (aCons (eFld (eV 0) [0] q_touched) (aNil))) (aNil)))) (gT 2 [gFld (eV 1) [0] q_all_owners, gFld (eV 1) [0] q_touched]))
  (sSeq (sFld (eV 1) [0] q_all_places (eComp (iSeq (eFld (eV 0) [0] q_all_places)) [2] true [2] (tYes) c_Rooms_rooms_twin_1))
  (sRet (eV 1))))
def f_Rooms_rooms_twin : Fn := fnOf 3 (b_Rooms_rooms_twin)
theorem u_Rooms_rooms_twin {E : XE} {Q : D → Hm → Prop} {h : Hm} {d0 : D} (w : EvS (fun c l _ h => E c l h) (b_Rooms_rooms_twin [some d0, none, none] h) (poF Q)) : Ev E (f_Rooms_rooms_twin [d0] h) Q := ev_fn w
def c_near_right_1 : ME := eCall (callP 3 0 (fun ds _ => ds) f_led) (aCons (eC (.int 5)) (aCons (eC (.int 3)) (aCons (eV 3) (aNil)))) (aNil)
def c_near_right_2 : ME := eC (.int 1)
def b_near_right : MS := sSeq (sAsg (eTup (aCons (eCall (callP 3 0 (fun ds _ => ds) f_led) (aCons (eC (.int 5)) (aCons (eC (.int 3)) (aCons (eC (.int 0)) (aNil)))) (aNil)) (aCons (eCall (callP 3 0 (fun ds _ => ds) f_led) (aCons (eC (.int 5)) (aCons (eC (.int 3)) (aCons (eC (.int 0)) (aNil)))) (aNil)) (aNil)))) (gT 2 [gN 1, gN 2]))
  (sSeq (sAsg (eOp opAddK (eLstK (aCons (eCall (callP 3 0 (fun ds _ => ds) f_led) (aCons (eC (.int 6)) (aCons (eC (.int 3)) (aCons (eC (.int 0)) (aNil)))) (aNil)) (aCons (eCall (callP 3 0 (fun ds _ => ds) f_led) (aCons (eC (.int 5)) (aCons (eC (.int 4)) (aCons (eC (.int 0)) (aNil)))) (aNil)) (aNil)))) (eCompK (iSeq (eTup (aCons (eC (.int 1)) (aCons (eC (.int 2)) (aCons (eC (.int 3)) (aCons (eC (.int 4)) (aCons (eC (.int 5)) (aNil)))))))) [3] true [3] (tYes) c_near_right_1)) (gN 0))
  (sSeq (sIf (tOr (tB (eOp (opEqO false [(0, f_Rooms_eq)]) (eOp opIx (eV 0) (eC (.int 6))) (eCall (callP 3 0 (fun ds _ => ds) f_led) (aCons (eC (.int 5)) (aCons (eC (.int 4)) (aCons (eC (.int 5)) (aNil)))) (aNil)))) (tOr (tB (eOp (opEqO true [(0, f_Rooms_eq)]) (eOp opIx (eV 0) (eC (.int 6))) (eCall (callP 3 0 (fun ds _ => ds) f_led) (aCons (eC (.int 5)) (aCons (eC (.int 3)) (aCons (eC (.int 5)) (aNil)))) (aNil)))) (tNot (tB (eCall (callP 0 0 (fun ds _ => ds) f_turns_right) (aNil) (aNil)))))) (sRet (eC (.bl false))) (sNext))
  (sSeq (sIf (tOr (tNot (tB (eOp (opEqO false [(0, f_Rooms_eq)]) (eV 1) (eV 2)))) (tOr (tNot (tB (eOp (opEqO false [(0, f_Rooms_eq)]) (eOp opIx (eV 0) (eC (.int 2))) (eOp opIx (eV 0) (eC (.int 3)))))) (tB (eOp (opEqO true [(0, f_Rooms_eq)]) (eV 1) (eMeth (eV 1) q_rooms_twin [(0, callP 1 0 (fun ds _ => ds) f_Rooms_rooms_twin)] (aNil) (aNil)))))) (sRet (eC (.bl false))) (sNext))
  (sRet (eOp opEq (eCompK (iSeq (eV 0)) [4] true [4] (tOr (tB (eOp (opEqO false [(0, f_Rooms_eq)]) (eV 4) (eV 1))) (tOr (tB (eOp (opEqO false [(0, f_Rooms_eq)]) (eV 1) (eV 4))) (tNot (tB (eOp (opEqO true [(0, f_Rooms_eq)]) (eV 4) (eV 1)))))) c_near_right_2) (eLstK (aNil)))))))
def f_near_right : Fn := fnOf 5 (b_near_right)
theorem u_near_right {E : XE} {Q : D → Hm → Prop} {h : Hm} (w : EvS (fun c l _ h => E c l h) (b_near_right [none, none, none, none, none] h) (poF Q)) : Ev E (f_near_right [] h) Q := ev_fn w
def l_draws_1 : MS := sExpr (eBM "list" mAppend (eV 2) (aCons (eDict [(eC (.str q_cells), eOp opAddK (eSlX (eV 1) (oSome (eV 3)) oNone) (eSlX (eV 1) oNone (oSome (eV 3)))), (eC (.str q_at), eOp opMulK (eC (.int 89)) (eV 3)), (eC (.str q_left), eIf (tB (eOp opGe (eV 4) (eOp opPow (eC (.int 10)) (eC (.int 18))))) (eV 4) (eC (.int 0)))]) (aNil)))
def b_draws : MS := sSeq (sAsg (eIf (tB (eOp opNe (eV 0) (eLstK (aNil)))) (eBi bListK (aCons (eV 0) (aNil))) (eLstK (aCons (eC (.int 0)) (aNil)))) (gN 1))
  (sSeq (sAsg (eLst (aNil)) (gN 2))
  (sSeq (sFor (iEnum (eSlX (eV 1) oNone (oSome (eC (.int 6))))) (gT 2 [gN 3, gN 4]) l_draws_1)
  (sRet (eFrz (eV 2)))))
def f_draws : Fn := fnOf 5 (b_draws)
theorem u_draws {E : XE} {Q : D → Hm → Prop} {h : Hm} {d0 : D} (w : EvS (fun c l _ h => E c l h) (b_draws [some d0, none, none, none, none] h) (poF Q)) : Ev E (f_draws [d0] h) Q := ev_fn w
def b_take : MS := sSeq (sDPut (eV 0) (eC (.str q_at)) (eOp opAddK (eOp opDGet (eV 0) (eC (.str q_at))) (eC (.int 1))))
  (sSeq (sIf (tB (eOp opGt (eOp opDGet (eV 0) (eC (.str q_left))) (eC (.int 0)))) (sSeq (sAsg (eOp opMod (eOp opDGet (eV 0) (eC (.str q_left))) (eV 1)) (gN 4))
  (sSeq (sDPut (eV 0) (eC (.str q_left)) (eOp opFDiv (eOp opDGet (eV 0) (eC (.str q_left))) (eV 1)))
  (sRet (eV 4)))) (sNext))
  (sSeq (sPar [5, 6] (aCons (eOp opDGet (eV 0) (eC (.str q_at))) (aCons (eOp opDGet (eV 0) (eC (.str q_cells))) (aNil))))
  (sSeq (sAsg (eOp opAddK (eOp opAddK (eOp opMulK (eOp opMulK (eC (.int 7907)) (eV 5)) (eV 5)) (eOp opMulK (eC (.int 104723)) (eV 5))) (eC (.int 11))) (gN 2))
  (sSeq (sAsg (eOp opAddK (eOp opMod (eOp opIx (eV 6) (eOp opMod (eV 5) (eBi bLen (aCons (eV 6) (aNil))))) (eC (.int 2147483629))) (eV 2)) (gN 3))
  (sSeq (sAsg (eOp opMod (eOp opPow (eV 3) (eC (.int 5))) (eC (.int 2147483647))) (gN 3))
  (sRet (eOp opMod (eOp opFDiv (eOp opMod (eOp opMulK (eV 3) (eC (.int 48271))) (eC (.int 2147483629))) (eC (.int 7))) (eV 1))))))))
def f_take : Fn := fnOf 7 (b_take)
theorem u_take {E : XE} {Q : D → Hm → Prop} {h : Hm} {d0 d1 : D} (w : EvS (fun c l _ h => E c l h) (b_take [some d0, some d1, none, none, none, none, none] h) (poF Q)) : Ev E (f_take [d0, d1] h) Q := ev_fn w
def b_begun : MS := sRet (eDict [(eC (.str q_most), eV 0), (eC (.str q_rows), eLst (aNil)), (eC (.str q_touched), eLst (aNil)), (eC (.str q_words), eLst (aNil))])
def f_begun : Fn := fnOf 1 (b_begun)
theorem u_begun {E : XE} {Q : D → Hm → Prop} {h : Hm} {d0 : D} (w : EvS (fun c l _ h => E c l h) (b_begun [some d0] h) (poF Q)) : Ev E (f_begun [d0] h) Q := ev_fn w
def l_copied_1 : MS := sExpr (eBM "list" mAppend (eV 1) (aCons (eDict [(eC (.str q_owner), eOp opDGet (eV 2) (eC (.str q_owner))), (eC (.str q_places), eIf (tB (eUn opIsN (eOp opDGet (eV 2) (eC (.str q_places))))) (eC .non) (eBi bList (aCons (eOp opDGet (eV 2) (eC (.str q_places))) (aNil))))]) (aNil)))
def b_copied : MS := sSeq (sAsg (eLst (aNil)) (gN 1))
  (sSeq (sFor (iSeq (eOp opDGet (eV 0) (eC (.str q_rows)))) (gN 2) l_copied_1)
  (sRet (eDict [(eC (.str q_most), eOp opDGet (eV 0) (eC (.str q_most))), (eC (.str q_rows), eV 1), (eC (.str q_touched), eBi bList (aCons (eOp opDGet (eV 0) (eC (.str q_touched))) (aNil))), (eC (.str q_words), eBi bList (aCons (eOp opDGet (eV 0) (eC (.str q_words))) (aNil)))])))
def f_copied : Fn := fnOf 3 (b_copied)
theorem u_copied {E : XE} {Q : D → Hm → Prop} {h : Hm} {d0 : D} (w : EvS (fun c l _ h => E c l h) (b_copied [some d0, none, none] h) (poF Q)) : Ev E (f_copied [d0] h) Q := ev_fn w
def c_owner_right_1 : ME := eV 9
def l_owner_right_2 : MS := sDPut (eOp opIx (eOp opDGet (eV 2) (eC (.str q_rows))) (eV 4)) (eC (.str q_places)) (eC .non)
def b_owner_right : MS := sSeq (sAsg (eTup (aCons (eOp opSub (eCall (callP 2 0 (fun ds _ => ds) f_take) (aCons (eV 0) (aCons (eC (.int 5)) (aNil))) (aNil)) (eC (.int 1))) (aCons (eC .non) (aCons (eC .non) (aNil))))) (gT 3 [gN 6, gN 7, gN 8]))
  (sSeq (sAsg (eCompK (iEnum (eOp opDGet (eV 2) (eC (.str q_rows)))) [9, 10] false [9, 10] (tAnd (tB (eUn opNotN (eOp opDGet (eV 10) (eC (.str q_places))))) (tB (eOp opEq (eOp opDGet (eV 10) (eC (.str q_owner))) (eV 6)))) c_owner_right_1) (gN 3))
  (sSeq (sFor (iSeq (eV 3)) (gN 4) l_owner_right_2)
  (sSeq (sTryAs (sAsg (eMeth (eV 1) q_end_rooms [(0, callP 2 0 (fun ds _ => ds) f_Rooms_end_rooms)] (aCons (eV 6) (aNil)) (aNil)) (gN 8)) 5 [1, 2] [1] (sAsg (eV 5) (gN 7)))
  (sRet (eIf (tB (eOp opEq (eV 3) (eLstK (aNil)))) (eAnd (eUn opNotN (eV 7)) (eOp opEq (eXf (eV 7) [1] q_name) (eV 6))) (eAnd (eUn opIsN (eV 7)) (eOp opEq (eV 8) (eV 3))))))))
def f_owner_right : Fn := fnOf 11 (b_owner_right)
theorem u_owner_right {E : XE} {Q : D → Hm → Prop} {h : Hm} {d0 d1 d2 : D} (w : EvS (fun c l _ h => E c l h) (b_owner_right [some d0, some d1, some d2, none, none, none, none, none, none, none, none] h) (poF Q)) : Ev E (f_owner_right [d0, d1, d2] h) Q := ev_fn w
def b_any_number : MS := sSeq (sAsg (eCall (callP 2 0 (fun ds _ => ds) f_take) (aCons (eV 0) (aCons (eC (.int 8)) (aNil))) (aNil)) (gN 2))
  (sSeq (sIf (tB (eOp opLt (eV 2) (eC (.int 5)))) (sRet (eOp opAddK (eOp opSub (eV 1) (eC (.int 2))) (eV 2))) (sNext))
  (sSeq (sIf (tB (eOp opEq (eV 2) (eC (.int 5)))) (sRet (eOp opIx (eLstK (aCons (eC (.int 0)) (aCons (eC (.int 1)) (aCons (eC (.int 64)) (aCons (eC (.int 65)) (aCons (eUn opNeg (eC (.int 1))) (aCons (eC (.int 999999999)) (aCons (eUn opNeg (eC (.int 999999999))) (aNil))))))))) (eCall (callP 2 0 (fun ds _ => ds) f_take) (aCons (eV 0) (aCons (eC (.int 7)) (aNil))) (aNil)))) (sNext))
  (sRet (eCall (callP 2 0 (fun ds _ => ds) f_take) (aCons (eV 0) (aCons (eOp opAddK (eV 1) (eC (.int 3))) (aNil))) (aNil)))))
def f_any_number : Fn := fnOf 3 (b_any_number)
theorem u_any_number {E : XE} {Q : D → Hm → Prop} {h : Hm} {d0 d1 : D} (w : EvS (fun c l _ h => E c l h) (b_any_number [some d0, some d1, none] h) (poF Q)) : Ev E (f_any_number [d0, d1] h) Q := ev_fn w
def b_any_word : MS := sSeq (sAsg (eCall (callP 2 0 (fun ds _ => ds) f_take) (aCons (eV 0) (aCons (eC (.int 10)) (aNil))) (aNil)) (gN 2))
  (sSeq (sIf (tAnd (tB (eOp opLt (eV 2) (eC (.int 6)))) (tB (eOp opNe (eOp opDGet (eV 1) (eC (.str q_words))) (eLstK (aNil))))) (sRet (eOp opIx (eOp opDGet (eV 1) (eC (.str q_words))) (eCall (callP 2 0 (fun ds _ => ds) f_take) (aCons (eV 0) (aCons (eBi bLen (aCons (eOp opDGet (eV 1) (eC (.str q_words))) (aNil))) (aNil))) (aNil)))) (sNext))
  (sSeq (sIf (tB (eOp opEq (eV 2) (eC (.int 6)))) (sRet (eTup (aCons (eC (.str q_proc)) (aCons (eCall (callP 2 0 (fun ds _ => ds) f_take) (aCons (eV 0) (aCons (eC (.int 9)) (aNil))) (aNil)) (aCons (eCall (callP 2 0 (fun ds _ => ds) f_take) (aCons (eV 0) (aCons (eC (.int 3)) (aNil))) (aNil)) (aNil)))))) (sNext))
  (sSeq (sIf (tB (eOp opEq (eV 2) (eC (.int 7)))) (sRet (eTup (aCons (eC (.str q_num)) (aCons (eCall (callP 2 0 (fun ds _ => ds) f_any_number) (aCons (eV 0) (aCons (eC (.int 2)) (aNil))) (aNil)) (aNil))))) (sNext))
  (sSeq (sPar [3, 4] (aCons (eCall (callP 2 0 (fun ds _ => ds) f_take) (aCons (eV 0) (aCons (eOp opAddK (eBi bLen (aCons (eOp opDGet (eV 1) (eC (.str q_rows))) (aNil))) (eC (.int 2))) (aNil))) (aNil)) (aCons (eOp opIx (eLstK (aCons (eC (.int 0)) (aCons (eC (.int 0)) (aCons (eC (.int 1)) (aCons (eC (.int 3)) (aCons (eC (.int 64)) (aNil))))))) (eCall (callP 2 0 (fun ds _ => ds) f_take) (aCons (eV 0) (aCons (eC (.int 5)) (aNil))) (aNil))) (aNil))))
  (sRet (eTup (aCons (eC (.str q_room)) (aCons (eV 3) (aCons (eV 4) (aCons (eOp opIx (eLstK (aCons (eC (.int 0)) (aCons (eC (.int 1)) (aCons (eC (.int 2)) (aCons (eC (.int 5)) (aCons (eC (.int 64)) (aCons (eC (.int 65)) (aNil)))))))) (eCall (callP 2 0 (fun ds _ => ds) f_take) (aCons (eV 0) (aCons (eC (.int 6)) (aNil))) (aNil))) (aNil)))))))))))
def f_any_word : Fn := fnOf 5 (b_any_word)
theorem u_any_word {E : XE} {Q : D → Hm → Prop} {h : Hm} {d0 d1 : D} (w : EvS (fun c l _ h => E c l h) (b_any_word [some d0, some d1, none, none, none] h) (poF Q)) : Ev E (f_any_word [d0, d1] h) Q := ev_fn w
def b_any_step : MS := sSeq (sIf (tB (eOp opEq (eCall (callP 2 0 (fun ds _ => ds) f_take) (aCons (eV 0) (aCons (eC (.int 12)) (aNil))) (aNil)) (eC (.int 0)))) (sRet (eOp opIx (eLstK (aCons (eTup (aCons (eC (.str q_room)) (aCons (eC (.int 0)) (aCons (eC (.int 0)) (aCons (eC (.int 1)) (aNil)))))) (aCons (eTup (aCons (eC (.str q_proc)) (aCons (eC (.int 1)) (aCons (eC (.int 0)) (aNil))))) (aNil)))) (eCall (callP 2 0 (fun ds _ => ds) f_take) (aCons (eV 0) (aCons (eC (.int 2)) (aNil))) (aNil)))) (sNext))
  (sSeq (sAsg (eIf (tB (eOp opEq (eOp opIx (eV 1) (eC (.int 0))) (eC (.str q_room)))) (eOp opIx (eV 1) (eC (.int 3))) (eC (.int 2))) (gN 2))
  (sSeq (sIf (tAnd (tB (eOp opGt (eCall (callP 2 0 (fun ds _ => ds) f_take) (aCons (eV 0) (aCons (eC (.int 3)) (aNil))) (aNil)) (eC (.int 0)))) (tB (eOp opGt (eV 2) (eC (.int 0))))) (sRet (eTup (aCons (eC (.str q_num)) (aCons (eCall (callP 2 0 (fun ds _ => ds) f_take) (aCons (eV 0) (aCons (eV 2) (aNil))) (aNil)) (aNil))))) (sNext))
  (sRet (eTup (aCons (eC (.str q_num)) (aCons (eCall (callP 2 0 (fun ds _ => ds) f_any_number) (aCons (eV 0) (aCons (eV 2) (aNil))) (aNil)) (aNil)))))))
def f_any_step : Fn := fnOf 3 (b_any_step)
theorem u_any_step {E : XE} {Q : D → Hm → Prop} {h : Hm} {d0 d1 : D} (w : EvS (fun c l _ h => E c l h) (b_any_step [some d0, some d1, none] h) (poF Q)) : Ev E (f_any_step [d0, d1] h) Q := ev_fn w
def b_any_deed : MS := sSeq (sPar [3, 4] (aCons (eCall (callP 2 0 (fun ds _ => ds) f_take) (aCons (eV 0) (aCons (eC (.int 10)) (aNil))) (aNil)) (aCons (eCall (callP 2 0 (fun ds _ => ds) f_any_word) (aCons (eV 0) (aCons (eV 1) (aNil))) (aNil)) (aNil))))
  (sSeq (sIf (tOr (tB (eOp opLt (eV 3) (eC (.int 2)))) (tB (eOp opEq (eOp opDGet (eV 1) (eC (.str q_words))) (eLstK (aNil))))) (sSeq (sAsg (eLstK (aCons (eTup (aCons (eC (.str q_num)) (aCons (eCall (callP 2 0 (fun ds _ => ds) f_take) (aCons (eV 0) (aCons (eC (.int 9)) (aNil))) (aNil)) (aNil)))) (aCons (eTup (aCons (eC (.str q_num)) (aCons (eCall (callP 2 0 (fun ds _ => ds) f_any_number) (aCons (eV 0) (aCons (eC (.int 64)) (aNil))) (aNil)) (aNil)))) (aCons (eV 4) (aNil))))) (gN 5))
  (sSeq (sAsg (eOp opIx (eV 5) (eOp opIx (eLstK (aCons (eC (.int 0)) (aCons (eC (.int 0)) (aCons (eC (.int 0)) (aCons (eC (.int 1)) (aCons (eC (.int 2)) (aNil))))))) (eCall (callP 2 0 (fun ds _ => ds) f_take) (aCons (eV 0) (aCons (eC (.int 5)) (aNil))) (aNil)))) (gN 6))
  (sRet (eTup (aCons (eC (.str q_make)) (aCons (eV 6) (aCons (eOp opSub (eCall (callP 2 0 (fun ds _ => ds) f_take) (aCons (eV 0) (aCons (eC (.int 4)) (aNil))) (aNil)) (eC (.int 1))) (aNil)))))))) (sNext))
  (sSeq (sAsg (eCall (callP 2 0 (fun ds _ => ds) f_any_step) (aCons (eV 0) (aCons (eV 4) (aNil))) (aNil)) (gN 2))
  (sSeq (sIf (tB (eOp opLt (eV 3) (eC (.int 5)))) (sRet (eTup (aCons (eC (.str q_look)) (aCons (eV 4) (aCons (eV 2) (aNil)))))) (sNext))
  (sSeq (sIf (tB (eOp opLt (eV 3) (eC (.int 8)))) (sRet (eTup (aCons (eC (.str q_put)) (aCons (eV 4) (aCons (eV 2) (aCons (eCall (callP 2 0 (fun ds _ => ds) f_any_word) (aCons (eV 0) (aCons (eV 1) (aNil))) (aNil)) (aNil))))))) (sNext))
  (sRet (eIf (tB (eOp opEq (eV 3) (eC (.int 8)))) (eTup (aCons (eC (.str q_part)) (aCons (eV 4) (aCons (eV 2) (aCons (eCall (callP 2 0 (fun ds _ => ds) f_any_step) (aCons (eV 0) (aCons (eV 4) (aNil))) (aNil)) (aNil)))))) (eTup (aCons (eC (.str q_size)) (aCons (eV 4) (aNil))))))))))
def f_any_deed : Fn := fnOf 7 (b_any_deed)
theorem u_any_deed {E : XE} {Q : D → Hm → Prop} {h : Hm} {d0 d1 : D} (w : EvS (fun c l _ h => E c l h) (b_any_deed [some d0, some d1, none, none, none, none, none] h) (poF Q)) : Ev E (f_any_deed [d0, d1] h) Q := ev_fn w
def b_make : MS := sSeq (sIf (tB (eOp opNe (eOp opIx (eV 1) (eC (.int 0))) (eC (.str q_num)))) (sRet (eTup (aCons (eC (.str q_trap)) (aCons (eC (.str q_kind)) (aNil))))) (sNext))
  (sSeq (sIf (tNot (tB (eChain opLe opLe (eC (.int 0)) (eOp opIx (eV 1) (eC (.int 1))) (eC (.int 64))))) (sRet (eTup (aCons (eC (.str q_trap)) (aCons (eC (.str q_size)) (aNil))))) (sNext))
  (sSeq (sAsg (eBi bLen (aCons (eOp opDGet (eV 0) (eC (.str q_rows))) (aNil))) (gN 3))
  (sSeq (sIf (tB (eOp opGe (eV 3) (eOp opDGet (eV 0) (eC (.str q_most))))) (sRet (eTup (aCons (eC (.str q_trap)) (aCons (eC (.str q_full)) (aNil))))) (sNext))
  (sSeq (sExpr (eBM "list" mAppend (eOp opDGet (eV 0) (eC (.str q_rows))) (aCons (eDict [(eC (.str q_owner), eV 2), (eC (.str q_places), eOp opMul (eLst (aCons (eTup (aCons (eC (.str q_num)) (aCons (eC (.int 0)) (aNil)))) (aNil))) (eOp opIx (eV 1) (eC (.int 1))))]) (aNil))))
  (sSeq (sExpr (eBM "list" mAppend (eOp opDGet (eV 0) (eC (.str q_touched))) (aCons (eV 3) (aNil))))
  (sRet (eTup (aCons (eC (.str q_told)) (aCons (eTup (aCons (eC (.str q_room)) (aCons (eV 3) (aCons (eC (.int 0)) (aCons (eOp opIx (eV 1) (eC (.int 1))) (aNil)))))) (aNil))))))))))
def f_make : Fn := fnOf 4 (b_make)
theorem u_make {E : XE} {Q : D → Hm → Prop} {h : Hm} {d0 d1 d2 : D} (w : EvS (fun c l _ h => E c l h) (b_make [some d0, some d1, some d2, none] h) (poF Q)) : Ev E (f_make [d0, d1, d2] h) Q := ev_fn w
def b_lead : MS := sSeq (sPar [2, 3] (aCons (eOp opDGet (eV 0) (eC (.str q_rows))) (aCons (eOp opIx (eV 1) (eC (.int 1))) (aNil))))
  (sSeq (sIf (tOr (tB (eOp opGe (eV 3) (eBi bLen (aCons (eV 2) (aNil))))) (tB (eUn opIsN (eOp opDGet (eOp opIx (eV 2) (eV 3)) (eC (.str q_places)))))) (sRet (eC (.str q_gone))) (sNext))
  (sRet (eIf (tB (eOp opGt (eOp opAddK (eOp opIx (eV 1) (eC (.int 2))) (eOp opIx (eV 1) (eC (.int 3)))) (eBi bLen (aCons (eOp opDGet (eOp opIx (eV 2) (eV 3)) (eC (.str q_places))) (aNil))))) (eC (.str q_bounds)) (eC .non))))
def f_lead : Fn := fnOf 4 (b_lead)
theorem u_lead {E : XE} {Q : D → Hm → Prop} {h : Hm} {d0 d1 : D} (w : EvS (fun c l _ h => E c l h) (b_lead [some d0, some d1, none, none] h) (poF Q)) : Ev E (f_lead [d0, d1] h) Q := ev_fn w
def b_part : MS := sSeq (sIf (tOr (tB (eOp opNe (eOp opIx (eV 1) (eC (.int 0))) (eC (.str q_room)))) (tOr (tB (eOp opNe (eOp opIx (eV 2) (eC (.int 0))) (eC (.str q_num)))) (tB (eOp opNe (eOp opIx (eV 3) (eC (.int 0))) (eC (.str q_num)))))) (sRet (eTup (aCons (eC (.str q_trap)) (aCons (eC (.str q_kind)) (aNil))))) (sNext))
  (sSeq (sAsg (eCall (callP 2 0 (fun ds _ => ds) f_lead) (aCons (eV 0) (aCons (eV 1) (aNil))) (aNil)) (gN 4))
  (sSeq (sPar [5, 6] (aCons (eOp opIx (eV 2) (eC (.int 1))) (aCons (eOp opIx (eV 3) (eC (.int 1))) (aNil))))
  (sSeq (sIf (tAnd (tB (eUn opIsN (eV 4))) (tOr (tB (eOp opLt (eV 5) (eC (.int 0)))) (tOr (tB (eOp opLt (eV 6) (eC (.int 0)))) (tB (eOp opGt (eOp opAddK (eV 5) (eV 6)) (eOp opIx (eV 1) (eC (.int 3)))))))) (sAsg (eC (.str q_bounds)) (gN 4)) (sNext))
  (sSeq (sIf (tB (eUn opNotN (eV 4))) (sRet (eTup (aCons (eC (.str q_trap)) (aCons (eV 4) (aNil))))) (sNext))
  (sRet (eTup (aCons (eC (.str q_told)) (aCons (eTup (aCons (eC (.str q_room)) (aCons (eOp opIx (eV 1) (eC (.int 1))) (aCons (eOp opAddK (eOp opIx (eV 1) (eC (.int 2))) (eOp opIx (eV 2) (eC (.int 1)))) (aCons (eOp opIx (eV 3) (eC (.int 1))) (aNil)))))) (aNil)))))))))
def f_part : Fn := fnOf 7 (b_part)
theorem u_part {E : XE} {Q : D → Hm → Prop} {h : Hm} {d0 d1 d2 d3 : D} (w : EvS (fun c l _ h => E c l h) (b_part [some d0, some d1, some d2, some d3, none, none, none] h) (poF Q)) : Ev E (f_part [d0, d1, d2, d3] h) Q := ev_fn w
def b_place : MS := sSeq (sIf (tOr (tB (eOp opNe (eOp opIx (eV 1) (eC (.int 0))) (eC (.str q_room)))) (tB (eOp opNe (eOp opIx (eV 2) (eC (.int 0))) (eC (.str q_num))))) (sRet (eC (.str q_kind))) (sNext))
  (sSeq (sAsg (eCall (callP 2 0 (fun ds _ => ds) f_lead) (aCons (eV 0) (aCons (eV 1) (aNil))) (aNil)) (gN 3))
  (sSeq (sIf (tAnd (tB (eUn opIsN (eV 3))) (tNot (tB (eChain opLe opLt (eC (.int 0)) (eOp opIx (eV 2) (eC (.int 1))) (eOp opIx (eV 1) (eC (.int 3))))))) (sRet (eC (.str q_bounds))) (sNext))
  (sRet (eV 3))))
def f_place : Fn := fnOf 4 (b_place)
theorem u_place {E : XE} {Q : D → Hm → Prop} {h : Hm} {d0 d1 d2 : D} (w : EvS (fun c l _ h => E c l h) (b_place [some d0, some d1, some d2, none] h) (poF Q)) : Ev E (f_place [d0, d1, d2] h) Q := ev_fn w
def b_due : MS := sSeq (sAsg (eOp opIx (eV 1) (eC (.int 0))) (gN 2))
  (sSeq (sIf (tB (eOp opEq (eV 2) (eC (.str q_make)))) (sRet (eCall (callP 3 0 (fun ds _ => ds) f_make) (aCons (eV 0) (aCons (eOp opIx (eV 1) (eC (.int 1))) (aCons (eOp opIx (eV 1) (eC (.int 2))) (aNil)))) (aNil))) (sNext))
  (sSeq (sIf (tB (eOp opEq (eV 2) (eC (.str q_part)))) (sRet (eCall (callP 4 0 (fun ds _ => ds) f_part) (aCons (eV 0) (aCons (eOp opIx (eV 1) (eC (.int 1))) (aCons (eOp opIx (eV 1) (eC (.int 2))) (aCons (eOp opIx (eV 1) (eC (.int 3))) (aNil))))) (aNil))) (sNext))
  (sSeq (sIf (tB (eOp opEq (eV 2) (eC (.str q_size)))) (sSeq (sAsg (eIf (tB (eOp opEq (eOp opIx (eOp opIx (eV 1) (eC (.int 1))) (eC (.int 0))) (eC (.str q_room)))) (eCall (callP 2 0 (fun ds _ => ds) f_lead) (aCons (eV 0) (aCons (eOp opIx (eV 1) (eC (.int 1))) (aNil))) (aNil)) (eC (.str q_kind))) (gN 3))
  (sRet (eIf (tB (eUn opIsN (eV 3))) (eTup (aCons (eC (.str q_told)) (aCons (eTup (aCons (eC (.str q_num)) (aCons (eOp opIx (eOp opIx (eV 1) (eC (.int 1))) (eC (.int 3))) (aNil)))) (aNil)))) (eTup (aCons (eC (.str q_trap)) (aCons (eV 3) (aNil))))))) (sNext))
  (sSeq (sAsg (eCall (callP 3 0 (fun ds _ => ds) f_place) (aCons (eV 0) (aCons (eOp opIx (eV 1) (eC (.int 1))) (aCons (eOp opIx (eV 1) (eC (.int 2))) (aNil)))) (aNil)) (gN 3))
  (sSeq (sIf (tB (eUn opNotN (eV 3))) (sRet (eTup (aCons (eC (.str q_trap)) (aCons (eV 3) (aNil))))) (sNext))
  (sSeq (sPar [4, 5] (aCons (eOp opIx (eOp opIx (eV 1) (eC (.int 1))) (eC (.int 1))) (aCons (eOp opAddK (eOp opIx (eOp opIx (eV 1) (eC (.int 1))) (eC (.int 2))) (eOp opIx (eOp opIx (eV 1) (eC (.int 2))) (eC (.int 1)))) (aNil))))
  (sSeq (sExpr (eBM "list" mAppend (eOp opDGet (eV 0) (eC (.str q_touched))) (aCons (eV 4) (aNil))))
  (sSeq (sIf (tB (eOp opEq (eV 2) (eC (.str q_look)))) (sRet (eTup (aCons (eC (.str q_told)) (aCons (eOp opIx (eOp opDGet (eOp opIx (eOp opDGet (eV 0) (eC (.str q_rows))) (eV 4)) (eC (.str q_places))) (eV 5)) (aNil))))) (sNext))
  (sSeq (sAsg (eOp opIx (eV 1) (eC (.int 3))) (gIx (eOp opDGet (eOp opIx (eOp opDGet (eV 0) (eC (.str q_rows))) (eV 4)) (eC (.str q_places))) (eV 5)))
  (sRet (eTup (aCons (eC (.str q_told)) (aCons (eC .non) (aNil))))))))))))))
def f_due : Fn := fnOf 6 (b_due)
theorem u_due {E : XE} {Q : D → Hm → Prop} {h : Hm} {d0 d1 : D} (w : EvS (fun c l _ h => E c l h) (b_due [some d0, some d1, none, none, none, none] h) (poF Q)) : Ev E (f_due [d0, d1] h) Q := ev_fn w
def b_Rooms_part_of : MS := sSeq (sIf (tB (eOp opNe (eOp opIx (eV 1) (eC (.int 0))) (eC (.str q_room)))) (sRaise 2 [q_word] (aCons (eC (.str q_kind)) (aNil))) (sNext))
  (sSeq (sPar [4, 5] (aCons (eCall (callP 1 0 (fun ds _ => ds) f_number_of) (aCons (eV 2) (aNil)) (aNil)) (aCons (eCall (callP 1 0 (fun ds _ => ds) f_number_of) (aCons (eV 3) (aNil)) (aNil)) (aNil))))
  (sSeq (sExpr (eMeth (eV 0) q_need_there [(0, callP 2 0 (fun ds _ => ds) f_Rooms_need_there)] (aCons (eV 1) (aNil)) (aNil)))
  (sSeq (sIf (tOr (tB (eOp opLt (eV 4) (eC (.int 0)))) (tOr (tB (eOp opLt (eV 5) (eC (.int 0)))) (tB (eOp opGt (eOp opAddK (eV 4) (eV 5)) (eOp opIx (eV 1) (eC (.int 3))))))) (sRaise 2 [q_word] (aCons (eC (.str q_bounds)) (aNil))) (sNext))
  (sRet (eTup (aCons (eC (.str q_room)) (aCons (eOp opIx (eV 1) (eC (.int 1))) (aCons (eOp opAddK (eOp opIx (eV 1) (eC (.int 2))) (eV 4)) (aCons (eV 5) (aNil))))))))))
def f_Rooms_part_of : Fn := fnOf 6 (b_Rooms_part_of)
theorem u_Rooms_part_of {E : XE} {Q : D → Hm → Prop} {h : Hm} {d0 d1 d2 d3 : D} (w : EvS (fun c l _ h => E c l h) (b_Rooms_part_of [some d0, some d1, some d2, some d3, none, none] h) (poF Q)) : Ev E (f_Rooms_part_of [d0, d1, d2, d3] h) Q := ev_fn w
def b_Rooms_size_of : MS := sSeq (sIf (tB (eOp opNe (eOp opIx (eV 1) (eC (.int 0))) (eC (.str q_room)))) (sRaise 2 [q_word] (aCons (eC (.str q_kind)) (aNil))) (sNext))
  (sSeq (sExpr (eMeth (eV 0) q_need_there [(0, callP 2 0 (fun ds _ => ds) f_Rooms_need_there)] (aCons (eV 1) (aNil)) (aNil)))
  (sRet (eTup (aCons (eC (.str q_num)) (aCons (eOp opIx (eV 1) (eC (.int 3))) (aNil))))))
def f_Rooms_size_of : Fn := fnOf 2 (b_Rooms_size_of)
theorem u_Rooms_size_of {E : XE} {Q : D → Hm → Prop} {h : Hm} {d0 d1 : D} (w : EvS (fun c l _ h => E c l h) (b_Rooms_size_of [some d0, some d1] h) (poF Q)) : Ev E (f_Rooms_size_of [d0, d1] h) Q := ev_fn w
def b_asked : MS := sSeq (sPar [3, 4] (aCons (eOp opIx (eV 1) (eC (.int 0))) (aCons (eSlX (eV 1) (oSome (eC (.int 1))) oNone) (aNil))))
  (sSeq (sIf (tB (eOp opEq (eV 3) (eC (.str q_make)))) (sRet (eIf (tB (eV 2)) (eMeth (eV 0) q_make_room [(0, callP 1 2 (fun us ws => us ++ (((ws.drop 1).take 1) ++ ((ws.drop 0).take 1))) f_Rooms_make_room)] (aNil) (aCons (eOp opIx (eV 4) (eC (.int 1))) (aCons (eOp opIx (eV 4) (eC (.int 0))) (aNil)))) (eMeth (eV 0) q_make_room [(0, callP 3 0 (fun ds _ => ds) f_Rooms_make_room)] (aCons (eOp opIx (eV 4) (eC (.int 0))) (aCons (eOp opIx (eV 4) (eC (.int 1))) (aNil))) (aNil)))) (sNext))
  (sSeq (sIf (tB (eOp opEq (eV 3) (eC (.str q_look)))) (sRet (eIf (tB (eV 2)) (eMeth (eV 0) q_word_at [(0, callP 1 2 (fun us ws => us ++ (((ws.drop 1).take 1) ++ ((ws.drop 0).take 1))) f_Rooms_word_at)] (aNil) (aCons (eOp opIx (eV 4) (eC (.int 1))) (aCons (eOp opIx (eV 4) (eC (.int 0))) (aNil)))) (eMeth (eV 0) q_word_at [(0, callP 3 0 (fun ds _ => ds) f_Rooms_word_at)] (aCons (eOp opIx (eV 4) (eC (.int 0))) (aCons (eOp opIx (eV 4) (eC (.int 1))) (aNil))) (aNil)))) (sNext))
  (sSeq (sIf (tB (eOp opEq (eV 3) (eC (.str q_put)))) (sSeq (sIf (tB (eV 2)) (sRet (eMeth (eV 0) q_put_at [(0, callP 1 3 (fun us ws => us ++ (((ws.drop 2).take 1) ++ (((ws.drop 1).take 1) ++ ((ws.drop 0).take 1)))) f_Rooms_put_at)] (aNil) (aCons (eOp opIx (eV 4) (eC (.int 2))) (aCons (eOp opIx (eV 4) (eC (.int 1))) (aCons (eOp opIx (eV 4) (eC (.int 0))) (aNil)))))) (sNext))
  (sRet (eMeth (eV 0) q_put_at [(0, callP 4 0 (fun ds _ => ds) f_Rooms_put_at)] (aCons (eOp opIx (eV 4) (eC (.int 0))) (aCons (eOp opIx (eV 4) (eC (.int 1))) (aCons (eOp opIx (eV 4) (eC (.int 2))) (aNil)))) (aNil)))) (sNext))
  (sSeq (sIf (tB (eOp opEq (eV 3) (eC (.str q_part)))) (sSeq (sIf (tB (eV 2)) (sRet (eMeth (eV 0) q_part_of [(0, callP 1 3 (fun us ws => us ++ (((ws.drop 2).take 1) ++ (((ws.drop 1).take 1) ++ ((ws.drop 0).take 1)))) f_Rooms_part_of)] (aNil) (aCons (eOp opIx (eV 4) (eC (.int 2))) (aCons (eOp opIx (eV 4) (eC (.int 1))) (aCons (eOp opIx (eV 4) (eC (.int 0))) (aNil)))))) (sNext))
  (sRet (eMeth (eV 0) q_part_of [(0, callP 4 0 (fun ds _ => ds) f_Rooms_part_of)] (aCons (eOp opIx (eV 4) (eC (.int 0))) (aCons (eOp opIx (eV 4) (eC (.int 1))) (aCons (eOp opIx (eV 4) (eC (.int 2))) (aNil)))) (aNil)))) (sNext))
  (sRet (eIf (tB (eV 2)) (eMeth (eV 0) q_size_of [(0, callP 1 1 (fun us ws => us ++ ((ws.drop 0).take 1)) f_Rooms_size_of)] (aNil) (aCons (eOp opIx (eV 4) (eC (.int 0))) (aNil))) (eMeth (eV 0) q_size_of [(0, callP 2 0 (fun ds _ => ds) f_Rooms_size_of)] (aCons (eOp opIx (eV 4) (eC (.int 0))) (aNil)) (aNil))))))))
def f_asked : Fn := fnOf 5 (b_asked)
theorem u_asked {E : XE} {Q : D → Hm → Prop} {h : Hm} {d0 d1 d2 : D} (w : EvS (fun c l _ h => E c l h) (b_asked [some d0, some d1, some d2, none, none] h) (poF Q)) : Ev E (f_asked [d0, d1, d2] h) Q := ev_fn w
def b_done : MS := sSeq (sAsg (eTup (aCons (eC .non) (aCons (eC .non) (aNil)))) (gT 2 [gN 4, gN 5]))
  (sSeq (sTryAs (sAsg (eCall (callP 3 0 (fun ds _ => ds) f_asked) (aCons (eV 0) (aCons (eV 1) (aCons (eV 2) (aNil)))) (aNil)) (gN 5)) 3 [1, 2] [2] (sAsg (eV 3) (gN 4)))
  (sRet (eIf (tB (eUn opIsN (eV 4))) (eTup (aCons (eC (.str q_told)) (aCons (eV 5) (aNil)))) (eTup (aCons (eC (.str q_trap)) (aCons (eXf (eV 4) [2] q_word) (aNil)))))))
def f_done : Fn := fnOf 6 (b_done)
theorem u_done {E : XE} {Q : D → Hm → Prop} {h : Hm} {d0 d1 d2 : D} (w : EvS (fun c l _ h => E c l h) (b_done [some d0, some d1, some d2, none, none, none] h) (poF Q)) : Ev E (f_done [d0, d1, d2] h) Q := ev_fn w
def b_noted : MS := sIf (tAnd (tB (eOp opEq (eOp opIx (eV 1) (eC (.int 0))) (eC (.str q_told)))) (tAnd (tB (eUn opNotN (eOp opIx (eV 1) (eC (.int 1))))) (tB (eOp opEq (eOp opIx (eOp opIx (eV 1) (eC (.int 1))) (eC (.int 0))) (eC (.str q_room)))))) (sExpr (eBM "list" mAppend (eOp opDGet (eV 0) (eC (.str q_words))) (aCons (eOp opIx (eV 1) (eC (.int 1))) (aNil)))) (sNext)
def f_noted : Fn := fnOf 2 (b_noted)
theorem u_noted {E : XE} {Q : D → Hm → Prop} {h : Hm} {d0 d1 : D} (w : EvS (fun c l _ h => E c l h) (b_noted [some d0, some d1] h) (poF Q)) : Ev E (f_noted [d0, d1] h) Q := ev_fn w
def b_Rooms_len : MS := sRet (eBi bLen (aCons (eFld (eV 0) [0] q_all_owners) (aNil)))
def f_Rooms_len : Fn := fnOf 1 (b_Rooms_len)
theorem u_Rooms_len {E : XE} {Q : D → Hm → Prop} {h : Hm} {d0 : D} (w : EvS (fun c l _ h => E c l h) (b_Rooms_len [some d0] h) (poF Q)) : Ev E (f_Rooms_len [d0] h) Q := ev_fn w
def b_Rooms_need_made : MS := sIf (tOr (tNot (tB (eCall (callP 1 0 (fun ds _ => ds) f_is_number) (aCons (eV 1) (aNil)) (aNil)))) (tNot (tB (eChain opLe opLt (eC (.int 0)) (eV 1) (eBi bLen (aCons (eFld (eV 0) [0] q_all_owners) (aNil))))))) (sRaise 1 [q_name] (aCons (eV 1) (aNil))) (sNext)
def f_Rooms_need_made : Fn := fnOf 2 (b_Rooms_need_made)
theorem u_Rooms_need_made {E : XE} {Q : D → Hm → Prop} {h : Hm} {d0 d1 : D} (w : EvS (fun c l _ h => E c l h) (b_Rooms_need_made [some d0, some d1] h) (poF Q)) : Ev E (f_Rooms_need_made [d0, d1] h) Q := ev_fn w
def b_Rooms_places_of : MS := sSeq (sExpr (eMeth (eV 0) q_need_made [(0, callP 2 0 (fun ds _ => ds) f_Rooms_need_made)] (aCons (eV 1) (aNil)) (aNil)))
  (sSeq (sAsg (eOp opIx (eFld (eV 0) [0] q_all_places) (eV 1)) (gN 2))
  (sRet (eIf (tB (eUn opIsN (eV 2))) (eLst (aNil)) (eBi bList (aCons (eV 2) (aNil))))))
def f_Rooms_places_of : Fn := fnOf 3 (b_Rooms_places_of)
theorem u_Rooms_places_of {E : XE} {Q : D → Hm → Prop} {h : Hm} {d0 d1 : D} (w : EvS (fun c l _ h => E c l h) (b_Rooms_places_of [some d0, some d1, none] h) (poF Q)) : Ev E (f_Rooms_places_of [d0, d1] h) Q := ev_fn w
def c_spoilt_1 : ME := eMeth (eV 0) q_places_of [(0, callP 2 0 (fun ds _ => ds) f_Rooms_places_of)] (aCons (eV 2) (aNil)) (aNil)
def l_spoilt_2 : MS := sSeq (sExpr (eBM "list" mAppend (eV 1) (aCons (eTup (aCons (eC (.str q_num)) (aCons (eC (.int 5)) (aNil)))) (aNil))))
  (sSeq (sExpr (eBM "list" mReverse (eV 1) aNil))
  (sExpr (eBM "list" mClear (eV 1) aNil)))
def b_spoilt : MS := sFor (iSeq (eOp opAddK (eLstK (aCons (eMeth (eV 0) q_there [(0, callP 1 0 (fun ds _ => ds) f_Rooms_there)] (aNil) (aNil)) (aCons (eMeth (eV 0) q_owners [(0, callP 1 0 (fun ds _ => ds) f_Rooms_owners)] (aNil) (aNil)) (aNil)))) (eCompK (iRng (aCons (eBi (bLenU [(0, f_Rooms_len)]) (aCons (eV 0) (aNil))) (aNil))) [2] true [2] (tYes) c_spoilt_1))) (gN 1) l_spoilt_2
def f_spoilt : Fn := fnOf 3 (b_spoilt)
theorem u_spoilt {E : XE} {Q : D → Hm → Prop} {h : Hm} {d0 : D} (w : EvS (fun c l _ h => E c l h) (b_spoilt [some d0, none, none] h) (poF Q)) : Ev E (f_spoilt [d0] h) Q := ev_fn w
def b_Rooms_touches : MS := sRet (eBi bTuple (aCons (eFld (eV 0) [0] q_touched) (aNil)))
def f_Rooms_touches : Fn := fnOf 1 (b_Rooms_touches)
theorem u_Rooms_touches {E : XE} {Q : D → Hm → Prop} {h : Hm} {d0 : D} (w : EvS (fun c l _ h => E c l h) (b_Rooms_touches [some d0] h) (poF Q)) : Ev E (f_Rooms_touches [d0] h) Q := ev_fn w
def b_Rooms_repr : MS := sRet (eFs [eC (.str q_Rooms_), eFmt (eBi bLen (aCons (eFld (eV 0) [0] q_all_owners) (aNil))), eC (.str q__)])
def f_Rooms_repr : Fn := fnOf 1 (b_Rooms_repr)
theorem u_Rooms_repr {E : XE} {Q : D → Hm → Prop} {h : Hm} {d0 : D} (w : EvS (fun c l _ h => E c l h) (b_Rooms_repr [some d0] h) (poF Q)) : Ev E (f_Rooms_repr [d0] h) Q := ev_fn w
def b_Rooms_owner_of : MS := sSeq (sExpr (eMeth (eV 0) q_need_made [(0, callP 2 0 (fun ds _ => ds) f_Rooms_need_made)] (aCons (eV 1) (aNil)) (aNil)))
  (sRet (eOp opIx (eFld (eV 0) [0] q_all_owners) (eV 1)))
def f_Rooms_owner_of : Fn := fnOf 2 (b_Rooms_owner_of)
theorem u_Rooms_owner_of {E : XE} {Q : D → Hm → Prop} {h : Hm} {d0 d1 : D} (w : EvS (fun c l _ h => E c l h) (b_Rooms_owner_of [some d0, some d1] h) (poF Q)) : Ev E (f_Rooms_owner_of [d0, d1] h) Q := ev_fn w
def b_Rooms_is_gone : MS := sSeq (sExpr (eMeth (eV 0) q_need_made [(0, callP 2 0 (fun ds _ => ds) f_Rooms_need_made)] (aCons (eV 1) (aNil)) (aNil)))
  (sRet (eUn opIsN (eOp opIx (eFld (eV 0) [0] q_all_places) (eV 1))))
def f_Rooms_is_gone : Fn := fnOf 2 (b_Rooms_is_gone)
theorem u_Rooms_is_gone {E : XE} {Q : D → Hm → Prop} {h : Hm} {d0 d1 : D} (w : EvS (fun c l _ h => E c l h) (b_Rooms_is_gone [some d0, some d1] h) (poF Q)) : Ev E (f_Rooms_is_gone [d0, d1] h) Q := ev_fn w
def c_alike_1 : ME := eV 6
def c_alike_2 : ME := eOp opDGet (eOp opIx (eV 2) (eV 6)) (eC (.str q_owner))
def l_alike_3 : MS := sSeq (sAsg (eOp opAddK (eV 4) (eLstK (aCons (eMeth (eV 0) q_owner_of [(0, callP 2 0 (fun ds _ => ds) f_Rooms_owner_of)] (aCons (eV 6) (aNil)) (aNil)) (aCons (eMeth (eV 0) q_is_gone [(0, callP 2 0 (fun ds _ => ds) f_Rooms_is_gone)] (aCons (eV 6) (aNil)) (aNil)) (aCons (eMeth (eV 0) q_places_of [(0, callP 2 0 (fun ds _ => ds) f_Rooms_places_of)] (aCons (eV 6) (aNil)) (aNil)) (aNil)))))) (gN 4))
  (sSeq (sAsg (eOp opDGet (eV 7) (eC (.str q_places))) (gN 8))
  (sAsg (eOp opAddK (eV 5) (eLstK (aCons (eOp opDGet (eV 7) (eC (.str q_owner))) (aCons (eUn opIsN (eV 8)) (aCons (eIf (tB (eUn opIsN (eV 8))) (eLstK (aNil)) (eV 8)) (aNil)))))) (gN 5)))
def b_alike : MS := sSeq (sAsg (eOp opDGet (eV 1) (eC (.str q_rows))) (gN 2))
  (sSeq (sAsg (eCompK (iEnum (eV 2)) [6, 7] false [6, 7] (tB (eUn opNotN (eOp opDGet (eV 7) (eC (.str q_places))))) c_alike_1) (gN 3))
  (sSeq (sAsg (eLst (aCons (eMeth (eV 0) q_touches [(0, callP 1 0 (fun ds _ => ds) f_Rooms_touches)] (aNil) (aNil)) (aCons (eMeth (eV 0) q_there [(0, callP 1 0 (fun ds _ => ds) f_Rooms_there)] (aNil) (aNil)) (aCons (eBi (bLenU [(0, f_Rooms_len)]) (aCons (eV 0) (aNil))) (aCons (eBi (bReprU [(0, f_Rooms_repr)]) (aCons (eV 0) (aNil))) (aNil)))))) (gN 4))
  (sSeq (sAsg (eLst (aCons (eBi bTuple (aCons (eOp opDGet (eV 1) (eC (.str q_touched))) (aNil))) (aCons (eV 3) (aCons (eBi bLen (aCons (eV 2) (aNil))) (aCons (eOp opAddK (eOp opAddK (eC (.str q_Rooms_)) (eBi bStr (aCons (eBi bLen (aCons (eV 2) (aNil))) (aNil)))) (eC (.str q__))) (aNil)))))) (gN 5))
  (sSeq (sExpr (eBM "list" mAppend (eV 4) (aCons (eMeth (eV 0) q_owners [(0, callP 1 0 (fun ds _ => ds) f_Rooms_owners)] (aNil) (aNil)) (aNil))))
  (sSeq (sExpr (eBM "list" mAppend (eV 5) (aCons (eSortSet (eCompK (iSeq (eV 3)) [6] true [6] (tYes) c_alike_2)) (aNil))))
  (sSeq (sFor (iEnum (eV 2)) (gT 2 [gN 6, gN 7]) l_alike_3)
  (sRet (eOp opEq (eBi bRepr (aCons (eV 4) (aNil))) (eBi bRepr (aCons (eV 5) (aNil)))))))))))
def f_alike : Fn := fnOf 9 (b_alike)
theorem u_alike {E : XE} {Q : D → Hm → Prop} {h : Hm} {d0 d1 : D} (w : EvS (fun c l _ h => E c l h) (b_alike [some d0, some d1, none, none, none, none, none, none, none] h) (poF Q)) : Ev E (f_alike [d0, d1] h) Q := ev_fn w
def b_kept : MS := sRet (eBi bReprR (aCons (eTup (aCons (eOp opDGet (eV 0) (eC (.str q_most))) (aCons (eOp opDGet (eV 0) (eC (.str q_rows))) (aCons (eOp opDGet (eV 0) (eC (.str q_touched))) (aNil))))) (aNil)))
def f_kept : Fn := fnOf 1 (b_kept)
theorem u_kept {E : XE} {Q : D → Hm → Prop} {h : Hm} {d0 : D} (w : EvS (fun c l _ h => E c l h) (b_kept [some d0] h) (poF Q)) : Ev E (f_kept [d0] h) Q := ev_fn w
def l_equal_right_1 : MS := sSeq (sAsg (eOp opEq (eCall (callP 1 0 (fun ds _ => ds) f_kept) (aCons (eV 2) (aNil)) (aNil)) (eCall (callP 1 0 (fun ds _ => ds) f_kept) (aCons (eV 5) (aNil)) (aNil))) (gN 6))
  (sIf (tOr (tB (eOp opNe (eOp (opEqO false [(0, f_Rooms_eq)]) (eV 1) (eV 4)) (eV 6))) (tB (eOp opEq (eOp (opEqO true [(0, f_Rooms_eq)]) (eV 1) (eV 4)) (eV 6)))) (sRet (eC (.bl false))) (sNext))
def l_equal_right_2 : MS := sIf (tOr (tB (eOp (opEqO false [(0, f_Rooms_eq)]) (eV 1) (eV 3))) (tB (eOp (opEqR [(0, f_Rooms_eq)]) (eV 3) (eV 1)))) (sRet (eC (.bl false))) (sNext)
def l_equal_right_3 : MS := sSeq (sFor (iSeq (eV 0)) (gT 2 [gN 4, gN 5]) l_equal_right_1)
  (sFor (iSeq (eLstK (aCons (eC .non) (aCons (eC (.int 0)) (aCons (eC (.str q_Rooms_0_)) (aCons (eLstK (aNil)) (aCons (eOp opDGet (eV 2) (eC (.str q_rows))) (aCons (eMeth (eV 1) q_touches [(0, callP 1 0 (fun ds _ => ds) f_Rooms_touches)] (aNil) (aNil)) (aNil))))))))) (gN 3) l_equal_right_2)
def b_equal_right : MS := sSeq (sFor (iSeq (eV 0)) (gT 2 [gN 1, gN 2]) l_equal_right_3)
  (sRet (eC (.bl true)))
def f_equal_right : Fn := fnOf 7 (b_equal_right)
theorem u_equal_right {E : XE} {Q : D → Hm → Prop} {h : Hm} {d0 : D} (w : EvS (fun c l _ h => E c l h) (b_equal_right [some d0, none, none, none, none, none, none] h) (poF Q)) : Ev E (f_equal_right [d0] h) Q := ev_fn w
def l_law_1 : MS := sIf (tNot (tB (eCall (callP 2 0 (fun ds _ => ds) f_alike) (aCons (eV 8) (aCons (eV 9) (aNil))) (aNil)))) (sRet (eC (.bl false))) (sNext)
def l_law_2 : MS := sSeq (sAsg (eOp opIx (eV 3) (eCall (callP 2 0 (fun ds _ => ds) f_take) (aCons (eV 1) (aCons (eBi bLen (aCons (eV 3) (aNil))) (aNil))) (aNil))) (gT 2 [gN 6, gN 7]))
  (sSeq (sAsg (eCall (callP 2 0 (fun ds _ => ds) f_take) (aCons (eV 1) (aCons (eC (.int 12)) (aNil))) (aNil)) (gN 5))
  (sSeq (sIf (tAnd (tB (eOp opEq (eV 5) (eC (.int 0)))) (tB (eOp opLt (eBi bLen (aCons (eV 3) (aNil))) (eC (.int 4))))) (sExpr (eBM "list" mAppend (eV 3) (aCons (eTup (aCons (eMeth (eV 6) q_rooms_twin [(0, callP 1 0 (fun ds _ => ds) f_Rooms_rooms_twin)] (aNil) (aNil)) (aCons (eCall (callP 1 0 (fun ds _ => ds) f_copied) (aCons (eV 7) (aNil)) (aNil)) (aNil)))) (aNil)))) (sIf (tB (eOp opEq (eV 5) (eC (.int 1)))) (sIf (tNot (tB (eCall (callP 3 0 (fun ds _ => ds) f_owner_right) (aCons (eV 1) (aCons (eV 6) (aCons (eV 7) (aNil)))) (aNil)))) (sRet (eC (.bl false))) (sNext)) (sSeq (sAsg (eCall (callP 2 0 (fun ds _ => ds) f_any_deed) (aCons (eV 1) (aCons (eV 7) (aNil))) (aNil)) (gN 10))
  (sSeq (sAsg (eCall (callP 2 0 (fun ds _ => ds) f_due) (aCons (eV 7) (aCons (eV 10) (aNil))) (aNil)) (gN 11))
  (sSeq (sIf (tB (eOp opNe (eBi bRepr (aCons (eCall (callP 3 0 (fun ds _ => ds) f_done) (aCons (eV 6) (aCons (eV 10) (aCons (eOp opEq (eV 5) (eC (.int 2))) (aNil)))) (aNil)) (aNil))) (eBi bRepr (aCons (eV 11) (aNil))))) (sRet (eC (.bl false))) (sNext))
  (sExpr (eCall (callP 2 0 (fun ds _ => ds) f_noted) (aCons (eV 7) (aCons (eV 11) (aNil))) (aNil))))))))
  (sSeq (sExpr (eCall (callP 1 0 (fun ds _ => ds) f_spoilt) (aCons (eV 6) (aNil)) (aNil)))
  (sFor (iSeq (eV 3)) (gT 2 [gN 8, gN 9]) l_law_1))))
def l_law_3 : MS := sSeq (sAsg (eOp opIx (eLstK (aCons (eC (.int 4)) (aCons (eC (.int 9)) (aCons (eC (.int 40)) (aNil))))) (eCall (callP 2 0 (fun ds _ => ds) f_take) (aCons (eV 1) (aCons (eC (.int 3)) (aNil))) (aNil))) (gN 2))
  (sSeq (sAsg (eLst (aCons (eTup (aCons (eCall (mkNew 0 (callP 1 1 (fun us ws => us ++ ((ws.drop 0).take 1)) f_Rooms_init)) (aNil) (aCons (eV 2) (aNil))) (aCons (eCall (callP 1 0 (fun ds _ => ds) f_begun) (aCons (eV 2) (aNil)) (aNil)) (aNil)))) (aCons (eTup (aCons (eCall (mkNew 0 (callP 1 1 (fun us ws => us ++ ((ws.drop 0).take 1)) f_Rooms_init)) (aNil) (aCons (eC (.int 9)) (aNil))) (aCons (eCall (callP 1 0 (fun ds _ => ds) f_begun) (aCons (eC (.int 9)) (aNil)) (aNil)) (aNil)))) (aNil)))) (gN 3))
  (sSeq (sFor (iRng (aCons (eC (.int 40)) (aNil))) (gN 4) l_law_2)
  (sIf (tNot (tB (eCall (callP 1 0 (fun ds _ => ds) f_equal_right) (aCons (eV 3) (aNil)) (aNil)))) (sRet (eC (.bl false))) (sNext))))
def b_law : MS := sSeq (sIf (tNot (tB (eCall (callP 0 0 (fun ds _ => ds) f_near_right) (aNil) (aNil)))) (sRet (eC (.bl false))) (sNext))
  (sSeq (sFor (iSeq (eCall (callP 1 0 (fun ds _ => ds) f_draws) (aCons (eV 0) (aNil)) (aNil))) (gN 1) l_law_3)
  (sRet (eC (.bl true))))
def f_law : Fn := fnOf 12 (b_law)
theorem u_law {E : XE} {Q : D → Hm → Prop} {h : Hm} {d0 : D} (w : EvS (fun c l _ h => E c l h) (b_law [some d0, none, none, none, none, none, none, none, none, none, none, none] h) (poF Q)) : Ev E (f_law [d0] h) Q := ev_fn w
end Lw
end
section
set_option maxHeartbeats 4000000
namespace Lw
open PySem L2 PyProof.Rows Mo He
def oA_ (K : PySem.W.Frag) : Nat → Addr := fun c => match c with | _ => 0
abbrev Tt (K : PySem.W.Frag) (mg : Str → Option Value) : Prop := Tp fa_ fn_ ex_ K mg
theorem tup_ZERO {K : PySem.W.Frag} {mg : Str → Option Value} (T : Tt K mg) : tupB K "ZERO" [.str "num", .int 0] = true := (ba (ba (ba (ba (ba (ba (ba (ba (ba (ba T.c.e).2).2).2).2).2).2).2).2).2).1
theorem exb_0 {K : PySem.W.Frag} {mg : Str → Option Value} (T : Tt K mg) : ciB K "Lack" "LookupError.__init__" = true := (ba T.c.e).1
theorem exb_1 {K : PySem.W.Frag} {mg : Str → Option Value} (T : Tt K mg) : excB K "NoSuch" [.type "LookupError", .type "Exception", .type "BaseException", .type "object"] "LookupError.__new__" [q_name] = true := (ba (ba T.c.e).2).1
theorem exb_2 {K : PySem.W.Frag} {mg : Str → Option Value} (T : Tt K mg) : biB K "ArithmeticError" "ArithmeticError.__init__" = true := (ba (ba (ba T.c.e).2).2).1
theorem exb_3 {K : PySem.W.Frag} {mg : Str → Option Value} (T : Tt K mg) : excB K "Trap" [.type "ArithmeticError", .type "Exception", .type "BaseException", .type "object"] "ArithmeticError.__new__" [q_word] = true := (ba (ba (ba (ba T.c.e).2).2).2).1
theorem exb_4 {K : PySem.W.Frag} {mg : Str → Option Value} (T : Tt K mg) : isB K (cA_ K) [.own "Rooms"] [("NoneType", false), ("bool", false), ("int", false), ("str", false), ("tuple", false), ("list", false), ("dict", false)] [(0, true)] [] = true := (ba (ba (ba (ba (ba T.c.e).2).2).2).2).1
theorem exb_5 {K : PySem.W.Frag} {mg : Str → Option Value} (T : Tt K mg) : neB K (ga K "Rooms") = true := (ba (ba (ba (ba (ba (ba T.c.e).2).2).2).2).2).1
theorem exb_6 {K : PySem.W.Frag} {mg : Str → Option Value} (T : Tt K mg) : tryB1 K (cA_ K) (.ref (ga K "NoSuch")) [1, 2] [1] = true := (ba (ba (ba (ba (ba (ba (ba T.c.e).2).2).2).2).2).2).1
theorem exb_7 {K : PySem.W.Frag} {mg : Str → Option Value} (T : Tt K mg) : tryB1 K (cA_ K) (.ref (ga K "Trap")) [1, 2] [2] = true := (ba (ba (ba (ba (ba (ba (ba (ba T.c.e).2).2).2).2).2).2).2).1
theorem exb_8 {K : PySem.W.Frag} {mg : Str → Option Value} (T : Tt K mg) : eqRB K (ga K "Rooms") = true := (ba (ba (ba (ba (ba (ba (ba (ba (ba T.c.e).2).2).2).2).2).2).2).2).1
abbrev Gk (K : PySem.W.Frag) (rts : List (List Addr × Hp)) : Gm := ⟨K, cA_ K, oA_ K, tabT tq_ K, rts⟩
section
variable {P : Program} {w : World} {K : PySem.W.Frag} {mg : Str → Option Value} {base : Heap} {rts : List (List Addr × Hp)}
theorem sc_NoSuch_init : FnScope ["self", "name"] ["self", "name"] (defScope s_NoSuch_init) := ⟨rfl, rfl, rfl, by decide +kernel, rfl, by decide +kernel, by decide +kernel⟩
theorem xc_NoSuch (T : Tt K mg) : XC P w K mg base (ga K "NoSuch") [q_name] := xc1 (d := dd_NoSuch_init) (N := ["self", "name"]) ba_LE (exb_1 T) (T.fd 0 rfl) sc_NoSuch_init rfl rfl rfl (fun cdv A outer s H E => xb1 ba_LE (bin_c ba_LE rfl (T.glo 1) (exb_0 T)) rfl rfl (Or.inl rfl) (Or.inl rfl) (by decide +kernel)) (fun _ _ _ _ _ _ us hl => match us, hl with | [_, _], _ => rfl)
theorem sc_Trap_init : FnScope ["self", "word"] ["self", "word"] (defScope s_Trap_init) := ⟨rfl, rfl, rfl, by decide +kernel, rfl, by decide +kernel, by decide +kernel⟩
theorem xc_Trap (T : Tt K mg) : XC P w K mg base (ga K "Trap") [q_word] := xc1 (d := dd_Trap_init) (N := ["self", "word"]) ba_AE (exb_3 T) (T.fd 1 rfl) sc_Trap_init rfl rfl rfl (fun cdv A outer s H E => xb1 ba_AE (bin_b ba_AE rfl (T.free 3) rfl (exb_2 T)) rfl rfl (Or.inl rfl) (Or.inl rfl) (by decide +kernel)) (fun _ _ _ _ _ _ us hl => match us, hl with | [_, _], _ => rfl)
theorem form_is_whole_1_most {K : PySem.W.Frag} {rts : List (List Addr × Hp)} : Form K (Gk K rts) dd_is_whole ["thing", "least", "most"] 1 ["most"] (fun ds es => ds ++ (([.int 0].drop 0).take 1 ++ ((es.drop 0).take 1))) := by
  refine form_kw0 (fun us mv ws => us ++ ((mv.drop 0).take 1 ++ ((ws.drop 0).take 1))) [("least", .int 0)] [.int 0] rfl (by exact fun z => nomatch z) [0] rfl (fun _ _ => .cons (.int _) (.nil)) (fun r1 r2 r3 => r1.append (((r2.drop 0).take 1).append ((r3.drop 0).take 1))) (fun r1 r2 r3 => r1.append (((r2.drop 0).take 1).append ((r3.drop 0).take 1))) (fun ds es h1 h2 => ?_) fun A _ _ _ _ _ us mv ws h1 h2 h3 => ?_
  · exact match ds, es, h1, h2 with | [_], [_], _, _ => rfl
  · exact match us, mv, ws, h1, h2, h3 with | [_], [_], [_], _, _, _ => ⟨_, _, _, _, _, _, rfl, rfl, rfl⟩
theorem form_Rooms_init_1_most {K : PySem.W.Frag} {rts : List (List Addr × Hp)} : Form K (Gk K rts) dd_Rooms_init ["self", "most"] 1 ["most"] (fun us ws => us ++ ((ws.drop 0).take 1)) := by
  refine form_kwp (fun us ws => us ++ ((ws.drop 0).take 1)) rfl (fun r1 r3 => r1.append ((r3.drop 0).take 1)) (fun r1 r3 => r1.append ((r3.drop 0).take 1)) (fun ds es h1 h2 => ?_) fun _ _ _ _ _ _ us ws h1 h3 => ?_
  · exact match ds, es, h1, h2 with | [_], [_], _, _ => rfl
  · exact match us, ws, h1, h3 with | [_], [_], _, _ => rfl
theorem form_number_of_1 {K : PySem.W.Frag} {rts : List (List Addr × Hp)} : Form K (Gk K rts) dd_number_of ["word"] 1 [] (fun ds _ => ds) := form_pos (ps := ["word"]) rfl fun _ _ _ _ _ _ us hl => match us, hl with | [_], _ => rfl
theorem form_Rooms_make_room_3 {K : PySem.W.Frag} {rts : List (List Addr × Hp)} : Form K (Gk K rts) dd_Rooms_make_room ["self", "many", "owner"] 3 [] (fun ds _ => ds) := form_pos (ps := ["self", "many", "owner"]) rfl fun _ _ _ _ _ _ us hl => match us, hl with | [_, _, _], _ => rfl
theorem form_Rooms_need_there_2 {K : PySem.W.Frag} {rts : List (List Addr × Hp)} : Form K (Gk K rts) dd_Rooms_need_there ["self", "word"] 2 [] (fun ds _ => ds) := form_pos (ps := ["self", "word"]) rfl fun _ _ _ _ _ _ us hl => match us, hl with | [_, _], _ => rfl
theorem form_Rooms_place_of_3 {K : PySem.W.Frag} {rts : List (List Addr × Hp)} : Form K (Gk K rts) dd_Rooms_place_of ["self", "word", "at"] 3 [] (fun ds _ => ds) := form_pos (ps := ["self", "word", "at"]) rfl fun _ _ _ _ _ _ us hl => match us, hl with | [_, _, _], _ => rfl
theorem form_Rooms_put_at_4 {K : PySem.W.Frag} {rts : List (List Addr × Hp)} : Form K (Gk K rts) dd_Rooms_put_at ["self", "word", "at", "other"] 4 [] (fun ds _ => ds) := form_pos (ps := ["self", "word", "at", "other"]) rfl fun _ _ _ _ _ _ us hl => match us, hl with | [_, _, _, _], _ => rfl
theorem form_Rooms_word_at_3 {K : PySem.W.Frag} {rts : List (List Addr × Hp)} : Form K (Gk K rts) dd_Rooms_word_at ["self", "word", "at"] 3 [] (fun ds _ => ds) := form_pos (ps := ["self", "word", "at"]) rfl fun _ _ _ _ _ _ us hl => match us, hl with | [_, _, _], _ => rfl
theorem form_is_number_1 {K : PySem.W.Frag} {rts : List (List Addr × Hp)} : Form K (Gk K rts) dd_is_number ["thing"] 1 [] (fun ds _ => ds) := form_pos (ps := ["thing"]) rfl fun _ _ _ _ _ _ us hl => match us, hl with | [_], _ => rfl
theorem form_Rooms_there_1 {K : PySem.W.Frag} {rts : List (List Addr × Hp)} : Form K (Gk K rts) dd_Rooms_there ["self"] 1 [] (fun ds _ => ds) := form_pos (ps := ["self"]) rfl fun _ _ _ _ _ _ us hl => match us, hl with | [_], _ => rfl
theorem form_Rooms_owners_1 {K : PySem.W.Frag} {rts : List (List Addr × Hp)} : Form K (Gk K rts) dd_Rooms_owners ["self"] 1 [] (fun ds _ => ds) := form_pos (ps := ["self"]) rfl fun _ _ _ _ _ _ us hl => match us, hl with | [_], _ => rfl
theorem form_Rooms_end_rooms_2 {K : PySem.W.Frag} {rts : List (List Addr × Hp)} : Form K (Gk K rts) dd_Rooms_end_rooms ["self", "owner"] 2 [] (fun ds _ => ds) := form_pos (ps := ["self", "owner"]) rfl fun _ _ _ _ _ _ us hl => match us, hl with | [_, _], _ => rfl
theorem form_led_3 {K : PySem.W.Frag} {rts : List (List Addr × Hp)} : Form K (Gk K rts) dd_led ["_law_ceiling", "_law_holder", "_law_way"] 3 [] (fun ds _ => ds) := form_pos (ps := ["_law_ceiling", "_law_holder", "_law_way"]) rfl fun _ _ _ _ _ _ us hl => match us, hl with | [_, _, _], _ => rfl
theorem form_Rooms_all_kept_1 {K : PySem.W.Frag} {rts : List (List Addr × Hp)} : Form K (Gk K rts) dd_Rooms_all_kept ["self"] 1 [] (fun ds _ => ds) := form_pos (ps := ["self"]) rfl fun _ _ _ _ _ _ us hl => match us, hl with | [_], _ => rfl
theorem form_Rooms_eq_2 {K : PySem.W.Frag} {rts : List (List Addr × Hp)} : Form K (Gk K rts) dd_Rooms_eq ["self", "other"] 2 [] (fun ds _ => ds) := form_pos (ps := ["self", "other"]) rfl fun _ _ _ _ _ _ us hl => match us, hl with | [_, _], _ => rfl
theorem form_turns_right_0 {K : PySem.W.Frag} {rts : List (List Addr × Hp)} : Form K (Gk K rts) dd_turns_right [] 0 [] (fun ds _ => ds) := form_pos (ps := []) rfl fun _ _ _ _ _ _ us hl => match us, hl with | [], _ => rfl
theorem form_Rooms_rooms_twin_1 {K : PySem.W.Frag} {rts : List (List Addr × Hp)} : Form K (Gk K rts) dd_Rooms_rooms_twin ["self"] 1 [] (fun ds _ => ds) := form_pos (ps := ["self"]) rfl fun _ _ _ _ _ _ us hl => match us, hl with | [_], _ => rfl
theorem form_near_right_0 {K : PySem.W.Frag} {rts : List (List Addr × Hp)} : Form K (Gk K rts) dd_near_right [] 0 [] (fun ds _ => ds) := form_pos (ps := []) rfl fun _ _ _ _ _ _ us hl => match us, hl with | [], _ => rfl
theorem form_draws_1 {K : PySem.W.Frag} {rts : List (List Addr × Hp)} : Form K (Gk K rts) dd_draws ["_law_script"] 1 [] (fun ds _ => ds) := form_pos (ps := ["_law_script"]) rfl fun _ _ _ _ _ _ us hl => match us, hl with | [_], _ => rfl
theorem form_take_2 {K : PySem.W.Frag} {rts : List (List Addr × Hp)} : Form K (Gk K rts) dd_take ["_law_draw", "_law_own_many"] 2 [] (fun ds _ => ds) := form_pos (ps := ["_law_draw", "_law_own_many"]) rfl fun _ _ _ _ _ _ us hl => match us, hl with | [_, _], _ => rfl
theorem form_begun_1 {K : PySem.W.Frag} {rts : List (List Addr × Hp)} : Form K (Gk K rts) dd_begun ["_law_ceiling"] 1 [] (fun ds _ => ds) := form_pos (ps := ["_law_ceiling"]) rfl fun _ _ _ _ _ _ us hl => match us, hl with | [_], _ => rfl
theorem form_copied_1 {K : PySem.W.Frag} {rts : List (List Addr × Hp)} : Form K (Gk K rts) dd_copied ["_law_own"] 1 [] (fun ds _ => ds) := form_pos (ps := ["_law_own"]) rfl fun _ _ _ _ _ _ us hl => match us, hl with | [_], _ => rfl
theorem form_owner_right_3 {K : PySem.W.Frag} {rts : List (List Addr × Hp)} : Form K (Gk K rts) dd_owner_right ["_law_draw", "_law_rooms", "_law_own"] 3 [] (fun ds _ => ds) := form_pos (ps := ["_law_draw", "_law_rooms", "_law_own"]) rfl fun _ _ _ _ _ _ us hl => match us, hl with | [_, _, _], _ => rfl
theorem form_any_number_2 {K : PySem.W.Frag} {rts : List (List Addr × Hp)} : Form K (Gk K rts) dd_any_number ["_law_draw", "_law_near"] 2 [] (fun ds _ => ds) := form_pos (ps := ["_law_draw", "_law_near"]) rfl fun _ _ _ _ _ _ us hl => match us, hl with | [_, _], _ => rfl
theorem form_any_word_2 {K : PySem.W.Frag} {rts : List (List Addr × Hp)} : Form K (Gk K rts) dd_any_word ["_law_draw", "_law_own"] 2 [] (fun ds _ => ds) := form_pos (ps := ["_law_draw", "_law_own"]) rfl fun _ _ _ _ _ _ us hl => match us, hl with | [_, _], _ => rfl
theorem form_any_step_2 {K : PySem.W.Frag} {rts : List (List Addr × Hp)} : Form K (Gk K rts) dd_any_step ["_law_draw", "_law_own_word"] 2 [] (fun ds _ => ds) := form_pos (ps := ["_law_draw", "_law_own_word"]) rfl fun _ _ _ _ _ _ us hl => match us, hl with | [_, _], _ => rfl
theorem form_any_deed_2 {K : PySem.W.Frag} {rts : List (List Addr × Hp)} : Form K (Gk K rts) dd_any_deed ["_law_draw", "_law_own"] 2 [] (fun ds _ => ds) := form_pos (ps := ["_law_draw", "_law_own"]) rfl fun _ _ _ _ _ _ us hl => match us, hl with | [_, _], _ => rfl
theorem form_make_3 {K : PySem.W.Frag} {rts : List (List Addr × Hp)} : Form K (Gk K rts) dd_make ["_law_own", "_law_own_many", "_law_own_owner"] 3 [] (fun ds _ => ds) := form_pos (ps := ["_law_own", "_law_own_many", "_law_own_owner"]) rfl fun _ _ _ _ _ _ us hl => match us, hl with | [_, _, _], _ => rfl
theorem form_lead_2 {K : PySem.W.Frag} {rts : List (List Addr × Hp)} : Form K (Gk K rts) dd_lead ["_law_own", "_law_own_word"] 2 [] (fun ds _ => ds) := form_pos (ps := ["_law_own", "_law_own_word"]) rfl fun _ _ _ _ _ _ us hl => match us, hl with | [_, _], _ => rfl
theorem form_part_4 {K : PySem.W.Frag} {rts : List (List Addr × Hp)} : Form K (Gk K rts) dd_part ["_law_own", "_law_own_word", "_law_own_start", "_law_own_many"] 4 [] (fun ds _ => ds) := form_pos (ps := ["_law_own", "_law_own_word", "_law_own_start", "_law_own_many"]) rfl fun _ _ _ _ _ _ us hl => match us, hl with | [_, _, _, _], _ => rfl
theorem form_place_3 {K : PySem.W.Frag} {rts : List (List Addr × Hp)} : Form K (Gk K rts) dd_place ["_law_own", "_law_own_word", "_law_own_at"] 3 [] (fun ds _ => ds) := form_pos (ps := ["_law_own", "_law_own_word", "_law_own_at"]) rfl fun _ _ _ _ _ _ us hl => match us, hl with | [_, _, _], _ => rfl
theorem form_due_2 {K : PySem.W.Frag} {rts : List (List Addr × Hp)} : Form K (Gk K rts) dd_due ["_law_own", "_law_deed"] 2 [] (fun ds _ => ds) := form_pos (ps := ["_law_own", "_law_deed"]) rfl fun _ _ _ _ _ _ us hl => match us, hl with | [_, _], _ => rfl
theorem form_Rooms_make_room_1_owner_many {K : PySem.W.Frag} {rts : List (List Addr × Hp)} : Form K (Gk K rts) dd_Rooms_make_room ["self", "many", "owner"] 1 ["owner", "many"] (fun us ws => us ++ (((ws.drop 1).take 1) ++ ((ws.drop 0).take 1))) := by
  refine form_kwp (fun us ws => us ++ (((ws.drop 1).take 1) ++ ((ws.drop 0).take 1))) rfl (fun r1 r3 => r1.append (((r3.drop 1).take 1).append ((r3.drop 0).take 1))) (fun r1 r3 => r1.append (((r3.drop 1).take 1).append ((r3.drop 0).take 1))) (fun ds es h1 h2 => ?_) fun _ _ _ _ _ _ us ws h1 h3 => ?_
  · exact match ds, es, h1, h2 with | [_], [_, _], _, _ => rfl
  · exact match us, ws, h1, h3 with | [_], [_, _], _, _ => rfl
theorem form_Rooms_word_at_1_at_word {K : PySem.W.Frag} {rts : List (List Addr × Hp)} : Form K (Gk K rts) dd_Rooms_word_at ["self", "word", "at"] 1 ["at", "word"] (fun us ws => us ++ (((ws.drop 1).take 1) ++ ((ws.drop 0).take 1))) := by
  refine form_kwp (fun us ws => us ++ (((ws.drop 1).take 1) ++ ((ws.drop 0).take 1))) rfl (fun r1 r3 => r1.append (((r3.drop 1).take 1).append ((r3.drop 0).take 1))) (fun r1 r3 => r1.append (((r3.drop 1).take 1).append ((r3.drop 0).take 1))) (fun ds es h1 h2 => ?_) fun _ _ _ _ _ _ us ws h1 h3 => ?_
  · exact match ds, es, h1, h2 with | [_], [_, _], _, _ => rfl
  · exact match us, ws, h1, h3 with | [_], [_, _], _, _ => rfl
theorem form_Rooms_put_at_1_other_at_word {K : PySem.W.Frag} {rts : List (List Addr × Hp)} : Form K (Gk K rts) dd_Rooms_put_at ["self", "word", "at", "other"] 1 ["other", "at", "word"] (fun us ws => us ++ (((ws.drop 2).take 1) ++ (((ws.drop 1).take 1) ++ ((ws.drop 0).take 1)))) := by
  refine form_kwp (fun us ws => us ++ (((ws.drop 2).take 1) ++ (((ws.drop 1).take 1) ++ ((ws.drop 0).take 1)))) rfl (fun r1 r3 => r1.append (((r3.drop 2).take 1).append (((r3.drop 1).take 1).append ((r3.drop 0).take 1)))) (fun r1 r3 => r1.append (((r3.drop 2).take 1).append (((r3.drop 1).take 1).append ((r3.drop 0).take 1)))) (fun ds es h1 h2 => ?_) fun _ _ _ _ _ _ us ws h1 h3 => ?_
  · exact match ds, es, h1, h2 with | [_], [_, _, _], _, _ => rfl
  · exact match us, ws, h1, h3 with | [_], [_, _, _], _, _ => rfl
theorem form_Rooms_part_of_1_many_start_word {K : PySem.W.Frag} {rts : List (List Addr × Hp)} : Form K (Gk K rts) dd_Rooms_part_of ["self", "word", "start", "many"] 1 ["many", "start", "word"] (fun us ws => us ++ (((ws.drop 2).take 1) ++ (((ws.drop 1).take 1) ++ ((ws.drop 0).take 1)))) := by
  refine form_kwp (fun us ws => us ++ (((ws.drop 2).take 1) ++ (((ws.drop 1).take 1) ++ ((ws.drop 0).take 1)))) rfl (fun r1 r3 => r1.append (((r3.drop 2).take 1).append (((r3.drop 1).take 1).append ((r3.drop 0).take 1)))) (fun r1 r3 => r1.append (((r3.drop 2).take 1).append (((r3.drop 1).take 1).append ((r3.drop 0).take 1)))) (fun ds es h1 h2 => ?_) fun _ _ _ _ _ _ us ws h1 h3 => ?_
  · exact match ds, es, h1, h2 with | [_], [_, _, _], _, _ => rfl
  · exact match us, ws, h1, h3 with | [_], [_, _, _], _, _ => rfl
theorem form_Rooms_part_of_4 {K : PySem.W.Frag} {rts : List (List Addr × Hp)} : Form K (Gk K rts) dd_Rooms_part_of ["self", "word", "start", "many"] 4 [] (fun ds _ => ds) := form_pos (ps := ["self", "word", "start", "many"]) rfl fun _ _ _ _ _ _ us hl => match us, hl with | [_, _, _, _], _ => rfl
theorem form_Rooms_size_of_1_word {K : PySem.W.Frag} {rts : List (List Addr × Hp)} : Form K (Gk K rts) dd_Rooms_size_of ["self", "word"] 1 ["word"] (fun us ws => us ++ ((ws.drop 0).take 1)) := by
  refine form_kwp (fun us ws => us ++ ((ws.drop 0).take 1)) rfl (fun r1 r3 => r1.append ((r3.drop 0).take 1)) (fun r1 r3 => r1.append ((r3.drop 0).take 1)) (fun ds es h1 h2 => ?_) fun _ _ _ _ _ _ us ws h1 h3 => ?_
  · exact match ds, es, h1, h2 with | [_], [_], _, _ => rfl
  · exact match us, ws, h1, h3 with | [_], [_], _, _ => rfl
theorem form_Rooms_size_of_2 {K : PySem.W.Frag} {rts : List (List Addr × Hp)} : Form K (Gk K rts) dd_Rooms_size_of ["self", "word"] 2 [] (fun ds _ => ds) := form_pos (ps := ["self", "word"]) rfl fun _ _ _ _ _ _ us hl => match us, hl with | [_, _], _ => rfl
theorem form_asked_3 {K : PySem.W.Frag} {rts : List (List Addr × Hp)} : Form K (Gk K rts) dd_asked ["_law_rooms", "_law_deed", "_law_by_name"] 3 [] (fun ds _ => ds) := form_pos (ps := ["_law_rooms", "_law_deed", "_law_by_name"]) rfl fun _ _ _ _ _ _ us hl => match us, hl with | [_, _, _], _ => rfl
theorem form_done_3 {K : PySem.W.Frag} {rts : List (List Addr × Hp)} : Form K (Gk K rts) dd_done ["_law_rooms", "_law_deed", "_law_by_name"] 3 [] (fun ds _ => ds) := form_pos (ps := ["_law_rooms", "_law_deed", "_law_by_name"]) rfl fun _ _ _ _ _ _ us hl => match us, hl with | [_, _, _], _ => rfl
theorem form_noted_2 {K : PySem.W.Frag} {rts : List (List Addr × Hp)} : Form K (Gk K rts) dd_noted ["_law_own", "_law_told"] 2 [] (fun ds _ => ds) := form_pos (ps := ["_law_own", "_law_told"]) rfl fun _ _ _ _ _ _ us hl => match us, hl with | [_, _], _ => rfl
theorem form_Rooms_len_1 {K : PySem.W.Frag} {rts : List (List Addr × Hp)} : Form K (Gk K rts) dd_Rooms_len ["self"] 1 [] (fun ds _ => ds) := form_pos (ps := ["self"]) rfl fun _ _ _ _ _ _ us hl => match us, hl with | [_], _ => rfl
theorem form_Rooms_need_made_2 {K : PySem.W.Frag} {rts : List (List Addr × Hp)} : Form K (Gk K rts) dd_Rooms_need_made ["self", "number"] 2 [] (fun ds _ => ds) := form_pos (ps := ["self", "number"]) rfl fun _ _ _ _ _ _ us hl => match us, hl with | [_, _], _ => rfl
theorem form_Rooms_places_of_2 {K : PySem.W.Frag} {rts : List (List Addr × Hp)} : Form K (Gk K rts) dd_Rooms_places_of ["self", "number"] 2 [] (fun ds _ => ds) := form_pos (ps := ["self", "number"]) rfl fun _ _ _ _ _ _ us hl => match us, hl with | [_, _], _ => rfl
theorem form_spoilt_1 {K : PySem.W.Frag} {rts : List (List Addr × Hp)} : Form K (Gk K rts) dd_spoilt ["_law_rooms"] 1 [] (fun ds _ => ds) := form_pos (ps := ["_law_rooms"]) rfl fun _ _ _ _ _ _ us hl => match us, hl with | [_], _ => rfl
theorem form_Rooms_touches_1 {K : PySem.W.Frag} {rts : List (List Addr × Hp)} : Form K (Gk K rts) dd_Rooms_touches ["self"] 1 [] (fun ds _ => ds) := form_pos (ps := ["self"]) rfl fun _ _ _ _ _ _ us hl => match us, hl with | [_], _ => rfl
theorem form_Rooms_repr_1 {K : PySem.W.Frag} {rts : List (List Addr × Hp)} : Form K (Gk K rts) dd_Rooms_repr ["self"] 1 [] (fun ds _ => ds) := form_pos (ps := ["self"]) rfl fun _ _ _ _ _ _ us hl => match us, hl with | [_], _ => rfl
theorem form_Rooms_owner_of_2 {K : PySem.W.Frag} {rts : List (List Addr × Hp)} : Form K (Gk K rts) dd_Rooms_owner_of ["self", "number"] 2 [] (fun ds _ => ds) := form_pos (ps := ["self", "number"]) rfl fun _ _ _ _ _ _ us hl => match us, hl with | [_, _], _ => rfl
theorem form_Rooms_is_gone_2 {K : PySem.W.Frag} {rts : List (List Addr × Hp)} : Form K (Gk K rts) dd_Rooms_is_gone ["self", "number"] 2 [] (fun ds _ => ds) := form_pos (ps := ["self", "number"]) rfl fun _ _ _ _ _ _ us hl => match us, hl with | [_, _], _ => rfl
theorem form_alike_2 {K : PySem.W.Frag} {rts : List (List Addr × Hp)} : Form K (Gk K rts) dd_alike ["_law_rooms", "_law_own"] 2 [] (fun ds _ => ds) := form_pos (ps := ["_law_rooms", "_law_own"]) rfl fun _ _ _ _ _ _ us hl => match us, hl with | [_, _], _ => rfl
theorem form_kept_1 {K : PySem.W.Frag} {rts : List (List Addr × Hp)} : Form K (Gk K rts) dd_kept ["_law_own"] 1 [] (fun ds _ => ds) := form_pos (ps := ["_law_own"]) rfl fun _ _ _ _ _ _ us hl => match us, hl with | [_], _ => rfl
theorem form_equal_right_1 {K : PySem.W.Frag} {rts : List (List Addr × Hp)} : Form K (Gk K rts) dd_equal_right ["_law_all_of"] 1 [] (fun ds _ => ds) := form_pos (ps := ["_law_all_of"]) rfl fun _ _ _ _ _ _ us hl => match us, hl with | [_], _ => rfl
theorem sc_is_whole : FnScope ["thing", "least", "most"] ["thing", "least", "most"] (defScope s_is_whole) := ⟨rfl, rfl, rfl, by decide +kernel, rfl, by decide +kernel, by decide +kernel⟩
theorem ok_is_whole (T : Tt K mg) (B : TbL tq_ K mg base) : OkD P w K mg base 1 dd_is_whole ["thing", "least", "most"] f_is_whole (Gk K rts) := okD_of (N := ["thing", "least", "most"]) (ps := ["thing", "least", "most"]) (m := b_is_whole) (d := dd_is_whole) (G := Gk K rts) T 2 sc_is_whole fun cdv A outer s H E rg =>
   (ms_one (ms_ret (me_and (me_bi L2.call_isi (bs_isi (by decide)) rfl (T.free 4) rfl (ma_cons (me_var 0) (ma_cons (me_ty rfl (T.free 5) rfl) ma_nil))) (me_and (me_not (me_bi L2.call_isi (bs_isi (by decide)) rfl (T.free 4) rfl (ma_cons (me_var 0) (ma_cons (me_ty rfl (T.free 6) rfl) ma_nil)))) (me_one (me_chain op_le op_le os_cmp os_cmp (me_var 1) (me_var 0) (me_var 2)))))))
theorem sc_Rooms_init : FnScope ["self", "most"] ["self", "most"] (defScope s_Rooms_init) := ⟨rfl, rfl, rfl, by decide +kernel, rfl, by decide +kernel, by decide +kernel⟩
theorem ok_Rooms_init (T : Tt K mg) (B : TbL tq_ K mg base) : OkD P w K mg base 2 dd_Rooms_init ["self", "most"] f_Rooms_init (Gk K rts) := okD_of (N := ["self", "most"]) (ps := ["self", "most"]) (m := b_Rooms_init) (d := dd_Rooms_init) (G := Gk K rts) T 3 sc_Rooms_init fun cdv A outer s H E rg =>
   (ms_cons (ms_if (mt_not (mt_val (me_callK (OkD.calls (ok_is_whole T B) form_is_whole_1_most hx_of rg) rfl (T.glo 7) (T.kp 2) (ma_cons (me_var 1) (ma_nil)) (mk_cons (me_gint T 8 rfl) (mk_nil))))) (ms_one (ms_never)) (ms_nil))
    (ms_cons (ms_fld rfl (hC_cons (T.cls 9) (T.noat 10) hC_nil) (by decide +kernel) (me_var 0) (me_var 1))
    (ms_one (ms_asg (me_tup (ma_cons (me_lst (ma_nil)) (ma_cons (me_lst (ma_nil)) (ma_cons (me_lst (ma_nil)) (ma_nil))))) (mg_tup rfl rfl (mgs_cons (mg_fld rfl (hC_cons (T.cls 9) (T.noat 11) hC_nil) (by decide +kernel) (me_var 0)) (mgs_cons (mg_fld rfl (hC_cons (T.cls 9) (T.noat 12) hC_nil) (by decide +kernel) (me_var 0)) (mgs_cons (mg_fld rfl (hC_cons (T.cls 9) (T.noat 13) hC_nil) (by decide +kernel) (me_var 0)) (mgs_nil)))))))))
theorem sc_number_of : FnScope ["word"] ["word"] (defScope s_number_of) := ⟨rfl, rfl, rfl, by decide +kernel, rfl, by decide +kernel, by decide +kernel⟩
theorem ok_number_of (T : Tt K mg) (B : TbL tq_ K mg base) : OkD P w K mg base 3 dd_number_of ["word"] f_number_of (Gk K rts) := okD_of (N := ["word"]) (ps := ["word"]) (m := b_number_of) (d := dd_number_of) (G := Gk K rts) T 4 sc_number_of fun cdv A outer s H E rg =>
   (ms_cons (ms_if (mt_cmp (op_neU rg.r.units) os_ne (me_ix rfl (me_var 0) (me_int)) (me_str)) (ms_one (ms_raise (c := 2) (xc_Trap T) rg (by decide) rfl tk_of rfl (T.glo 2) (ma_cons (me_str) (ma_nil)) (by decide))) (ms_nil))
    (ms_one (ms_ret (me_ix rfl (me_var 0) (me_int)))))
theorem sc_Rooms_make_room : FnScope ["self", "many", "owner", "size", "number"] ["self", "many", "owner"] (defScope s_Rooms_make_room) := ⟨rfl, rfl, rfl, by decide +kernel, rfl, by decide +kernel, by decide +kernel⟩
theorem ok_Rooms_make_room (T : Tt K mg) (B : TbL tq_ K mg base) : OkD P w K mg base 4 dd_Rooms_make_room ["self", "many", "owner"] f_Rooms_make_room (Gk K rts) := okD_of (N := ["self", "many", "owner", "size", "number"]) (ps := ["self", "many", "owner"]) (m := b_Rooms_make_room) (d := dd_Rooms_make_room) (G := Gk K rts) T 5 sc_Rooms_make_room fun cdv A outer s H E rg =>
   (ms_cons (ms_set 3 sc_Rooms_make_room.nd rfl (Or.inl rfl) (me_call (OkD.calls (ok_number_of T B) form_number_of_1 hx_of rg) rfl (T.glo 16) (T.kp 4) (ma_cons (me_var 1) (ma_nil))))
    (ms_cons (ms_if (mt_not (mt_chain op_le op_le os_cmp os_cmp (me_int) (me_var 3) (me_gint T 17 rfl))) (ms_one (ms_raise (c := 2) (xc_Trap T) rg (by decide) rfl tk_of rfl (T.glo 2) (ma_cons (me_str) (ma_nil)) (by decide))) (ms_nil))
    (ms_cons (ms_set 4 sc_Rooms_make_room.nd rfl (Or.inl rfl) (me_bi cl_len bs_len rfl (T.free 18) rfl (ma_cons (me_fld rfl (hC_cons (T.cls 9) (T.noat 11) hC_nil) (by decide +kernel) (me_var 0)) (ma_nil))))
    (ms_cons (ms_if (mt_cmp op_ge os_cmp (me_var 4) (me_fld rfl (hC_cons (T.cls 9) (T.noat 10) hC_nil) (by decide +kernel) (me_var 0))) (ms_one (ms_raise (c := 2) (xc_Trap T) rg (by decide) rfl tk_of rfl (T.glo 2) (ma_cons (me_str) (ma_nil)) (by decide))) (ms_nil))
    (ms_cons (ms_expr (me_bm rfl PySem.F.plainAttrs_list PySem.F.slot_list_append PySem.F.type_list_append mt_append bs_append (.inl rfl) (me_fld rfl (hC_cons (T.cls 9) (T.noat 11) hC_nil) (by decide +kernel) (me_var 0)) (ma_cons (me_var 2) (ma_nil))))
    (ms_cons (ms_expr (me_bm rfl PySem.F.plainAttrs_list PySem.F.slot_list_append PySem.F.type_list_append mt_append bs_append (.inl rfl) (me_fld rfl (hC_cons (T.cls 9) (T.noat 12) hC_nil) (by decide +kernel) (me_var 0)) (ma_cons (me_op op_mulU os_mul (me_lst (ma_cons (me_gtup T 19 rfl rfl (tup_ZERO T) (fun _ _ => .cons (.str _) (.cons (.int _) (.nil)))) (ma_nil))) (me_var 3)) (ma_nil))))
    (ms_cons (ms_expr (me_bm rfl PySem.F.plainAttrs_list PySem.F.slot_list_append PySem.F.type_list_append mt_append bs_append (.inl rfl) (me_fld rfl (hC_cons (T.cls 9) (T.noat 13) hC_nil) (by decide +kernel) (me_var 0)) (ma_cons (me_var 4) (ma_nil))))
    (ms_one (ms_ret (me_tup (ma_cons (me_str) (ma_cons (me_var 4) (ma_cons (me_int) (ma_cons (me_var 3) (ma_nil)))))))))))))))
theorem sc_Rooms_need_there : FnScope ["self", "word", "kind", "number", "start", "size"] ["self", "word"] (defScope s_Rooms_need_there) := ⟨rfl, rfl, rfl, by decide +kernel, rfl, by decide +kernel, by decide +kernel⟩
theorem ok_Rooms_need_there (T : Tt K mg) (B : TbL tq_ K mg base) : OkD P w K mg base 3 dd_Rooms_need_there ["self", "word"] f_Rooms_need_there (Gk K rts) := okD_of (N := ["self", "word", "kind", "number", "start", "size"]) (ps := ["self", "word"]) (m := b_Rooms_need_there) (d := dd_Rooms_need_there) (G := Gk K rts) T 6 sc_Rooms_need_there fun cdv A outer s H E rg =>
   (ms_cons (ms_asg (me_var 1) (mg_tup rfl rfl (mgs_cons (mg_name (i := 2) sc_Rooms_need_there.nd rfl (Or.inl rfl)) (mgs_cons (mg_name (i := 3) sc_Rooms_need_there.nd rfl (Or.inl rfl)) (mgs_cons (mg_name (i := 4) sc_Rooms_need_there.nd rfl (Or.inl rfl)) (mgs_cons (mg_name (i := 5) sc_Rooms_need_there.nd rfl (Or.inl rfl)) (mgs_nil)))))))
    (ms_cons (ms_if (PW.pt (mw_or (mt_cmp op_ge os_cmp (me_var 3) (me_bi cl_len bs_len rfl (T.free 18) rfl (ma_cons (me_fld rfl (hC_cons (T.cls 9) (T.noat 12) hC_nil) (by decide +kernel) (me_var 0)) (ma_nil)))) (mw_or1 (mt_isN (me_ix rfl (me_fld rfl (hC_cons (T.cls 9) (T.noat 12) hC_nil) (by decide +kernel) (me_var 0)) (me_var 3)))))) (ms_one (ms_raise (c := 2) (xc_Trap T) rg (by decide) rfl tk_of rfl (T.glo 2) (ma_cons (me_str) (ma_nil)) (by decide))) (ms_nil))
    (ms_one (ms_if (mt_cmp op_gt os_cmp (me_addK rfl (me_var 4) (me_var 5)) (me_bi cl_len bs_len rfl (T.free 18) rfl (ma_cons (me_ix rfl (me_fld rfl (hC_cons (T.cls 9) (T.noat 12) hC_nil) (by decide +kernel) (me_var 0)) (me_var 3)) (ma_nil)))) (ms_one (ms_raise (c := 2) (xc_Trap T) rg (by decide) rfl tk_of rfl (T.glo 2) (ma_cons (me_str) (ma_nil)) (by decide))) (ms_nil)))))
theorem sc_Rooms_place_of : FnScope ["self", "word", "at", "step"] ["self", "word", "at"] (defScope s_Rooms_place_of) := ⟨rfl, rfl, rfl, by decide +kernel, rfl, by decide +kernel, by decide +kernel⟩
theorem ok_Rooms_place_of (T : Tt K mg) (B : TbL tq_ K mg base) : OkD P w K mg base 4 dd_Rooms_place_of ["self", "word", "at"] f_Rooms_place_of (Gk K rts) := okD_of (N := ["self", "word", "at", "step"]) (ps := ["self", "word", "at"]) (m := b_Rooms_place_of) (d := dd_Rooms_place_of) (G := Gk K rts) T 7 sc_Rooms_place_of fun cdv A outer s H E rg =>
   (ms_cons (ms_if (mt_cmp (op_neU rg.r.units) os_ne (me_ix rfl (me_var 1) (me_int)) (me_str)) (ms_one (ms_raise (c := 2) (xc_Trap T) rg (by decide) rfl tk_of rfl (T.glo 2) (ma_cons (me_str) (ma_nil)) (by decide))) (ms_nil))
    (ms_cons (ms_set 3 sc_Rooms_place_of.nd rfl (Or.inl rfl) (me_call (OkD.calls (ok_number_of T B) form_number_of_1 hx_of rg) rfl (T.glo 16) (T.kp 4) (ma_cons (me_var 2) (ma_nil))))
    (ms_cons (ms_expr (me_meth (by decide +kernel) (meths_cons (T.cls 9) (T.meth 21) (OkD.calls (ok_Rooms_need_there T B) form_Rooms_need_there_2 hx_of rg) meths_nil) (me_var 0) (ma_cons (me_var 1) (ma_nil))))
    (ms_cons (ms_if (mt_not (mt_chain op_le op_lt os_cmp os_cmp (me_int) (me_var 3) (me_ix rfl (me_var 1) (me_int)))) (ms_one (ms_raise (c := 2) (xc_Trap T) rg (by decide) rfl tk_of rfl (T.glo 2) (ma_cons (me_str) (ma_nil)) (by decide))) (ms_nil))
    (ms_one (ms_ret (me_addK rfl (me_ix rfl (me_var 1) (me_int)) (me_var 3))))))))
theorem sc_Rooms_put_at : FnScope ["self", "word", "at", "other", "place"] ["self", "word", "at", "other"] (defScope s_Rooms_put_at) := ⟨rfl, rfl, rfl, by decide +kernel, rfl, by decide +kernel, by decide +kernel⟩
theorem ok_Rooms_put_at (T : Tt K mg) (B : TbL tq_ K mg base) : OkD P w K mg base 5 dd_Rooms_put_at ["self", "word", "at", "other"] f_Rooms_put_at (Gk K rts) := okD_of (N := ["self", "word", "at", "other", "place"]) (ps := ["self", "word", "at", "other"]) (m := b_Rooms_put_at) (d := dd_Rooms_put_at) (G := Gk K rts) T 8 sc_Rooms_put_at fun cdv A outer s H E rg =>
   (ms_cons (ms_set 4 sc_Rooms_put_at.nd rfl (Or.inl rfl) (me_meth (by decide +kernel) (meths_cons (T.cls 9) (T.meth 22) (OkD.calls (ok_Rooms_place_of T B) form_Rooms_place_of_3 hx_of rg) meths_nil) (me_var 0) (ma_cons (me_var 1) (ma_cons (me_var 2) (ma_nil)))))
    (ms_cons (ms_expr (me_bm rfl PySem.F.plainAttrs_list PySem.F.slot_list_append PySem.F.type_list_append mt_append bs_append (.inl rfl) (me_fld rfl (hC_cons (T.cls 9) (T.noat 13) hC_nil) (by decide +kernel) (me_var 0)) (ma_cons (me_ix rfl (me_var 1) (me_int)) (ma_nil))))
    (ms_one (ms_asg (me_var 3) (mg_ix (me_ix rfl (me_fld rfl (hC_cons (T.cls 9) (T.noat 12) hC_nil) (by decide +kernel) (me_var 0)) (me_ix rfl (me_var 1) (me_int))) (me_var 4))))))
theorem sc_Rooms_word_at : FnScope ["self", "word", "at", "place"] ["self", "word", "at"] (defScope s_Rooms_word_at) := ⟨rfl, rfl, rfl, by decide +kernel, rfl, by decide +kernel, by decide +kernel⟩
theorem ok_Rooms_word_at (T : Tt K mg) (B : TbL tq_ K mg base) : OkD P w K mg base 5 dd_Rooms_word_at ["self", "word", "at"] f_Rooms_word_at (Gk K rts) := okD_of (N := ["self", "word", "at", "place"]) (ps := ["self", "word", "at"]) (m := b_Rooms_word_at) (d := dd_Rooms_word_at) (G := Gk K rts) T 9 sc_Rooms_word_at fun cdv A outer s H E rg =>
   (ms_cons (ms_set 3 sc_Rooms_word_at.nd rfl (Or.inl rfl) (me_meth (by decide +kernel) (meths_cons (T.cls 9) (T.meth 22) (OkD.calls (ok_Rooms_place_of T B) form_Rooms_place_of_3 hx_of rg) meths_nil) (me_var 0) (ma_cons (me_var 1) (ma_cons (me_var 2) (ma_nil)))))
    (ms_cons (ms_expr (me_bm rfl PySem.F.plainAttrs_list PySem.F.slot_list_append PySem.F.type_list_append mt_append bs_append (.inl rfl) (me_fld rfl (hC_cons (T.cls 9) (T.noat 13) hC_nil) (by decide +kernel) (me_var 0)) (ma_cons (me_ix rfl (me_var 1) (me_int)) (ma_nil))))
    (ms_one (ms_ret (me_ix rfl (me_ix rfl (me_fld rfl (hC_cons (T.cls 9) (T.noat 12) hC_nil) (by decide +kernel) (me_var 0)) (me_ix rfl (me_var 1) (me_int))) (me_var 3))))))
theorem sc_is_number : FnScope ["thing"] ["thing"] (defScope s_is_number) := ⟨rfl, rfl, rfl, by decide +kernel, rfl, by decide +kernel, by decide +kernel⟩
theorem ok_is_number (T : Tt K mg) (B : TbL tq_ K mg base) : OkD P w K mg base 1 dd_is_number ["thing"] f_is_number (Gk K rts) := okD_of (N := ["thing"]) (ps := ["thing"]) (m := b_is_number) (d := dd_is_number) (G := Gk K rts) T 10 sc_is_number fun cdv A outer s H E rg =>
   (ms_one (ms_ret (me_and (me_bi L2.call_isi (bs_isi (by decide)) rfl (T.free 4) rfl (ma_cons (me_var 0) (ma_cons (me_ty rfl (T.free 5) rfl) ma_nil))) (me_one (me_not (me_bi L2.call_isi (bs_isi (by decide)) rfl (T.free 4) rfl (ma_cons (me_var 0) (ma_cons (me_ty rfl (T.free 6) rfl) ma_nil))))))))
theorem sc_Rooms_there : FnScope ["self", "number", "places"] ["self"] (defScope s_Rooms_there) := ⟨rfl, rfl, rfl, by decide +kernel, rfl, by decide +kernel, by decide +kernel⟩
theorem ok_Rooms_there (T : Tt K mg) (B : TbL tq_ K mg base) : OkD P w K mg base 1 dd_Rooms_there ["self"] f_Rooms_there (Gk K rts) := okD_of (N := ["self", "number", "places"]) (ps := ["self"]) (m := b_Rooms_there) (d := dd_Rooms_there) (G := Gk K rts) T 11 sc_Rooms_there fun cdv A outer s H E rg =>
   (ms_one (ms_ret (me_comp (own := [("number", 1), ("places", 2)]) (one := false) (is := [1, 2]) rfl sc_Rooms_there.nd (mi_enum rfl rfl (T.free 27) (ma_cons (me_fld rfl (hC_cons (T.cls 9) (T.noat 12) hC_nil) (by decide +kernel) (me_var 0)) ma_nil)) (blkOk_by (N := ["self", "number", "places"]) (sc := defScope s_Rooms_there) (by decide +kernel)) (bd_tup (by decide)) (fun _ _ _ _ _ => pg_tup rfl (pgs_cons (pg_name (i := 1) sc_Rooms_there.nd rfl (by first | exact Or.inl rfl | exact Or.inr rfl)) (pgs_cons (pg_name (i := 2) sc_Rooms_there.nd rfl (by first | exact Or.inl rfl | exact Or.inr rfl)) (pgs_nil))) rfl rfl) (fun _ _ _ _ _ => mts_one (mt_notN (me_var 2))) (fun _ _ _ _ _ => me_var 1))))
theorem sc_Rooms_owners : FnScope ["self", "number"] ["self"] (defScope s_Rooms_owners) := ⟨rfl, rfl, rfl, by decide +kernel, rfl, by decide +kernel, by decide +kernel⟩
theorem ok_Rooms_owners (T : Tt K mg) (B : TbL tq_ K mg base) : OkD P w K mg base 2 dd_Rooms_owners ["self"] f_Rooms_owners (Gk K rts) := okD_of (N := ["self", "number"]) (ps := ["self"]) (m := b_Rooms_owners) (d := dd_Rooms_owners) (G := Gk K rts) T 12 sc_Rooms_owners fun cdv A outer s H E rg =>
   (ms_one (ms_ret (me_sortCM (own := [("number", 1)]) (one := true) (is := [1]) rfl sc_Rooms_owners.nd rfl (T.free 26) rfl (mi_seq rfl (me_meth0 (by decide +kernel) (meths_cons (T.cls 9) (T.meth 28) (OkD.calls (ok_Rooms_there T B) form_Rooms_there_1 hx_of rg) meths_nil) (me_var 0))) (blkOk_by (N := ["self", "number"]) (sc := defScope s_Rooms_owners) (by decide +kernel)) (bd_one (by decide)) (fun _ _ _ _ _ => pg_name (i := 1) sc_Rooms_owners.nd rfl (by first | exact Or.inl rfl | exact Or.inr rfl)) (fun _ _ _ _ _ => mts_nil) (fun _ _ _ _ _ => me_ix rfl (me_fld rfl (hC_cons (T.cls 9) (T.noat 11) hC_nil) (by decide +kernel) (me_var 0)) (me_var 1)))))
theorem sc_Rooms_end_rooms : FnScope ["self", "owner", "found", "number"] ["self", "owner"] (defScope s_Rooms_end_rooms) := ⟨rfl, rfl, rfl, by decide +kernel, rfl, by decide +kernel, by decide +kernel⟩
theorem ok_Rooms_end_rooms (T : Tt K mg) (B : TbL tq_ K mg base) : OkD P w K mg base 3 dd_Rooms_end_rooms ["self", "owner"] f_Rooms_end_rooms (Gk K rts) := okD_of (N := ["self", "owner", "found", "number"]) (ps := ["self", "owner"]) (m := b_Rooms_end_rooms) (d := dd_Rooms_end_rooms) (G := Gk K rts) T 13 sc_Rooms_end_rooms fun cdv A outer s H E rg =>
   (ms_cons (ms_if (PW.pt (mw_or (mt_not (mt_val (me_call (OkD.calls (ok_is_number T B) form_is_number_1 hx_of rg) rfl (T.glo 25) (T.kp 10) (ma_cons (me_var 1) (ma_nil))))) (mw_or1 (mt_cmp op_notIn_seq os_in (me_var 1) (me_meth0 (by decide +kernel) (meths_cons (T.cls 9) (T.meth 29) (OkD.calls (ok_Rooms_owners T B) form_Rooms_owners_1 hx_of rg) meths_nil) (me_var 0)))))) (ms_one (ms_raise (c := 1) (xc_NoSuch T) rg (by decide) rfl tk_of rfl (T.glo 0) (ma_cons (me_var 1) (ma_nil)) (by decide))) (ms_nil))
    (ms_cons (ms_setCompK 2 (own := [("number", 3)]) (one := true) (is := [3]) rfl sc_Rooms_end_rooms.nd rfl rfl (sw_true rfl rfl rfl (by decide +kernel)) (mi_seq rfl (me_meth0 (by decide +kernel) (meths_cons (T.cls 9) (T.meth 28) (OkD.calls (ok_Rooms_there T B) form_Rooms_there_1 hx_of rg) meths_nil) (me_var 0))) (blkOk_by (N := ["self", "owner", "found", "number"]) (sc := defScope s_Rooms_end_rooms) (by decide +kernel)) (bd_one (by decide)) (fun _ _ _ _ _ => pg_name (i := 3) sc_Rooms_end_rooms.nd rfl (by first | exact Or.inl rfl | exact Or.inr rfl)) (fun _ _ _ _ _ => mts_one (mt_cmp (op_eqU rg.r.units) os_eq (me_ix rfl (me_fld rfl (hC_cons (T.cls 9) (T.noat 11) hC_nil) (by decide +kernel) (me_var 0)) (me_var 3)) (me_var 1))) (fun _ _ _ _ _ => me_var 3))
    (ms_cons (ms_for hp_of rfl (mi_seq rfl (me_var 2)) (mg_name (i := 3) sc_Rooms_end_rooms.nd rfl (Or.inl rfl)) (ms_one (ms_asg (me_non) (mg_ix (me_fld rfl (hC_cons (T.cls 9) (T.noat 12) hC_nil) (by decide +kernel) (me_var 0)) (me_var 3)))))
    (ms_one (ms_ret (me_var 2))))))
theorem sc_led : FnScope ["_law_ceiling", "_law_holder", "_law_way", "_law_rooms", "_law_room"] ["_law_ceiling", "_law_holder", "_law_way"] (defScope s_led) := ⟨rfl, rfl, rfl, by decide +kernel, rfl, by decide +kernel, by decide +kernel⟩
theorem ok_led (T : Tt K mg) (B : TbL tq_ K mg base) : OkD P w K mg base 6 dd_led ["_law_ceiling", "_law_holder", "_law_way"] f_led (Gk K rts) := okD_of (N := ["_law_ceiling", "_law_holder", "_law_way", "_law_rooms", "_law_room"]) (ps := ["_law_ceiling", "_law_holder", "_law_way"]) (m := b_led) (d := dd_led) (G := Gk K rts) T 14 sc_led fun cdv A outer s H E rg =>
   (ms_cons (ms_set 3 sc_led.nd rfl (Or.inl rfl) (me_callK0 (OkD.makes (c := 0) (ok_Rooms_init T B) form_Rooms_init_1_most (T.mkr 14) hx_of rg) rfl (T.glo 15) (T.mkr 14).kp (mk_cons (me_var 0) (mk_nil))))
    (ms_cons (ms_set 4 sc_led.nd rfl (Or.inl rfl) (me_meth (by decide +kernel) (meths_cons (T.cls 9) (T.meth 20) (OkD.calls (ok_Rooms_make_room T B) form_Rooms_make_room_3 hx_of rg) meths_nil) (me_var 3) (ma_cons (me_tup (ma_cons (me_str) (ma_cons (me_int) (ma_nil)))) (ma_cons (me_var 1) (ma_nil)))))
    (ms_cons (ms_expr (me_meth (by decide +kernel) (meths_cons (T.cls 9) (T.meth 20) (OkD.calls (ok_Rooms_make_room T B) form_Rooms_make_room_3 hx_of rg) meths_nil) (me_var 3) (ma_cons (me_tup (ma_cons (me_str) (ma_cons (me_int) (ma_nil)))) (ma_cons (me_int) (ma_nil)))))
    (ms_cons (ms_expr (me_meth (by decide +kernel) (meths_cons (T.cls 9) (T.meth 23) (OkD.calls (ok_Rooms_put_at T B) form_Rooms_put_at_4 hx_of rg) meths_nil) (me_var 3) (ma_cons (me_var 4) (ma_cons (me_tup (ma_cons (me_str) (ma_cons (me_int) (ma_nil)))) (ma_cons (me_tup (ma_cons (me_str) (ma_cons (me_addM rfl (me_int) (me_bty call_int1 bs_int rfl (T.free 5) rfl (ma_cons (me_cmp (op_eqU rg.r.units) os_eq (me_var 2) (me_int)) (ma_nil)))) (ma_nil)))) (ma_nil))))))
    (ms_cons (ms_if (mt_cmp (op_eqU rg.r.units) os_eq (me_var 2) (me_int)) (ms_one (ms_expr (me_meth (by decide +kernel) (meths_cons (T.cls 9) (T.meth 24) (OkD.calls (ok_Rooms_word_at T B) form_Rooms_word_at_3 hx_of rg) meths_nil) (me_var 3) (ma_cons (me_var 4) (ma_cons (me_tup (ma_cons (me_str) (ma_cons (me_int) (ma_nil)))) (ma_nil)))))) (ms_nil))
    (ms_cons (ms_if (mt_cmp (op_eqU rg.r.units) os_eq (me_var 2) (me_int)) (ms_one (ms_expr (me_meth (by decide +kernel) (meths_cons (T.cls 9) (T.meth 23) (OkD.calls (ok_Rooms_put_at T B) form_Rooms_put_at_4 hx_of rg) meths_nil) (me_var 3) (ma_cons (me_var 4) (ma_cons (me_tup (ma_cons (me_str) (ma_cons (me_int) (ma_nil)))) (ma_cons (me_tup (ma_cons (me_str) (ma_cons (me_int) (ma_nil)))) (ma_nil))))))) (ms_nil))
    (ms_cons (ms_if (mt_cmp (op_eqU rg.r.units) os_eq (me_var 2) (me_int)) (ms_one (ms_expr (me_meth (by decide +kernel) (meths_cons (T.cls 9) (T.meth 30) (OkD.calls (ok_Rooms_end_rooms T B) form_Rooms_end_rooms_2 hx_of rg) meths_nil) (me_var 3) (ma_cons (me_int) (ma_nil))))) (ms_nil))
    (ms_cons (ms_if (mt_cmp (op_eqU rg.r.units) os_eq (me_var 2) (me_int)) (ms_one (ms_expr (me_meth (by decide +kernel) (meths_cons (T.cls 9) (T.meth 30) (OkD.calls (ok_Rooms_end_rooms T B) form_Rooms_end_rooms_2 hx_of rg) meths_nil) (me_var 3) (ma_cons (me_var 1) (ma_nil))))) (ms_nil))
    (ms_one (ms_ret (me_var 3)))))))))))
theorem sc_Rooms_all_kept : FnScope ["self"] ["self"] (defScope s_Rooms_all_kept) := ⟨rfl, rfl, rfl, by decide +kernel, rfl, by decide +kernel, by decide +kernel⟩
theorem ok_Rooms_all_kept (T : Tt K mg) (B : TbL tq_ K mg base) : OkD P w K mg base 1 dd_Rooms_all_kept ["self"] f_Rooms_all_kept (Gk K rts) := okD_of (N := ["self"]) (ps := ["self"]) (m := b_Rooms_all_kept) (d := dd_Rooms_all_kept) (G := Gk K rts) T 15 sc_Rooms_all_kept fun cdv A outer s H E rg =>
   (ms_one (ms_ret (me_tup (ma_cons (me_fld rfl (hC_cons (T.cls 9) (T.noat 10) hC_nil) (by decide +kernel) (me_var 0)) (ma_cons (me_fld rfl (hC_cons (T.cls 9) (T.noat 11) hC_nil) (by decide +kernel) (me_var 0)) (ma_cons (me_fld rfl (hC_cons (T.cls 9) (T.noat 12) hC_nil) (by decide +kernel) (me_var 0)) (ma_cons (me_fld rfl (hC_cons (T.cls 9) (T.noat 13) hC_nil) (by decide +kernel) (me_var 0)) (ma_nil))))))))
theorem sc_Rooms_eq : FnScope ["self", "other"] ["self", "other"] (defScope s_Rooms_eq) := ⟨rfl, rfl, rfl, by decide +kernel, rfl, by decide +kernel, by decide +kernel⟩
theorem ok_Rooms_eq (T : Tt K mg) (B : TbL tq_ K mg base) : OkD P w K mg base 2 dd_Rooms_eq ["self", "other"] f_Rooms_eq (Gk K rts) := okD_of (N := ["self", "other"]) (ps := ["self", "other"]) (m := b_Rooms_eq) (d := dd_Rooms_eq) (G := Gk K rts) T 16 sc_Rooms_eq fun cdv A outer s H E rg =>
   (ms_one (ms_ret (me_and (me_is1 (c0 := .own "Rooms") rfl (exb_4 T) (isC_cons (T.cls 9) (isC_nil)) (.own rfl (T.glo 15)) rfl (T.free 4) rfl (me_var 1)) (me_one (me_cmp (op_eqU rg.r.units) os_eq (me_meth0 (by decide +kernel) (meths_cons (T.cls 9) (T.meth 32) (OkD.calls (ok_Rooms_all_kept T B) form_Rooms_all_kept_1 hx_of rg) meths_nil) (me_var 0)) (me_meth0 (by decide +kernel) (meths_cons (T.cls 9) (T.meth 32) (OkD.calls (ok_Rooms_all_kept T B) form_Rooms_all_kept_1 hx_of rg) meths_nil) (me_var 1)))))))
theorem sc_turns_right : FnScope ["_law_both", "_law_k", "_law_rooms", "_law_found", "_law_room"] [] (defScope s_turns_right) := ⟨rfl, rfl, rfl, by decide +kernel, rfl, by decide +kernel, by decide +kernel⟩
theorem ok_turns_right (T : Tt K mg) (B : TbL tq_ K mg base) : OkD P w K mg base 6 dd_turns_right [] f_turns_right (Gk K rts) := okD_of (N := ["_law_both", "_law_k", "_law_rooms", "_law_found", "_law_room"]) (ps := []) (m := b_turns_right) (d := dd_turns_right) (G := Gk K rts) T 17 sc_turns_right fun cdv A outer s H E rg =>
   (ms_cons (ms_set 0 sc_turns_right.nd rfl (Or.inl rfl) (me_lstK (ma_cons (me_callK0 (OkD.makes (c := 0) (ok_Rooms_init T B) form_Rooms_init_1_most (T.mkr 14) hx_of rg) rfl (T.glo 15) (T.mkr 14).kp (mk_cons (me_int) (mk_nil))) (ma_cons (me_callK0 (OkD.makes (c := 0) (ok_Rooms_init T B) form_Rooms_init_1_most (T.mkr 14) hx_of rg) rfl (T.glo 15) (T.mkr 14).kp (mk_cons (me_int) (mk_nil))) (ma_cons (me_callK0 (OkD.makes (c := 0) (ok_Rooms_init T B) form_Rooms_init_1_most (T.mkr 14) hx_of rg) rfl (T.glo 15) (T.mkr 14).kp (mk_cons (me_int) (mk_nil))) (ma_nil))))))
    (ms_cons (ms_for hp_of rfl (mi_enum rfl rfl (T.free 27) (ma_cons (me_var 0) ma_nil)) (mg_tup rfl rfl (mgs_cons (mg_name (i := 1) sc_turns_right.nd rfl (Or.inl rfl)) (mgs_cons (mg_name (i := 2) sc_turns_right.nd rfl (Or.inl rfl)) (mgs_nil)))) (ms_cons (ms_set 3 sc_turns_right.nd rfl (Or.inl rfl) (me_lstK (ma_cons (me_meth (by decide +kernel) (meths_cons (T.cls 9) (T.meth 20) (OkD.calls (ok_Rooms_make_room T B) form_Rooms_make_room_3 hx_of rg) meths_nil) (me_var 2) (ma_cons (me_tup (ma_cons (me_str) (ma_cons (me_int) (ma_nil)))) (ma_cons (me_int) (ma_nil)))) (ma_cons (me_meth (by decide +kernel) (meths_cons (T.cls 9) (T.meth 20) (OkD.calls (ok_Rooms_make_room T B) form_Rooms_make_room_3 hx_of rg) meths_nil) (me_var 2) (ma_cons (me_tup (ma_cons (me_str) (ma_cons (me_int) (ma_nil)))) (ma_cons (me_int) (ma_nil)))) (ma_nil)))))
    (ms_one (ms_for hp_of rfl (mi_seq rfl (me_step rfl (me_var 3) (me_ix rfl (me_lstK (ma_cons (me_int) (ma_cons (me_un un_neg us_neg (me_int)) (ma_cons (me_int) (ma_nil))))) (me_var 1)))) (mg_name (i := 4) sc_turns_right.nd rfl (Or.inl rfl)) (ms_one (ms_expr (me_meth (by decide +kernel) (meths_cons (T.cls 9) (T.meth 24) (OkD.calls (ok_Rooms_word_at T B) form_Rooms_word_at_3 hx_of rg) meths_nil) (me_var 2) (ma_cons (me_var 4) (ma_cons (me_tup (ma_cons (me_str) (ma_cons (me_int) (ma_nil)))) (ma_nil))))))))))
    (ms_one (ms_ret (me_and (me_cmp (op_neA (G := Gk K rts) rfl rg (slotE_cons (c := 0) (T.meth 33) (exb_5 T) (OkD.callsIn (ok_Rooms_eq T B) form_Rooms_eq_2 (rg_in1 rg) (fun I => I.env0.in1)) slotE_nil)) os_neOf (me_ix rfl (me_var 0) (me_int)) (me_ix rfl (me_var 0) (me_int))) (me_and (me_not (me_cmp (op_eqA (G := Gk K rts) rfl rg (slotE_cons (c := 0) (T.meth 33) (exb_5 T) (OkD.callsIn (ok_Rooms_eq T B) form_Rooms_eq_2 rg (fun I => I.env0)) slotE_nil)) os_eqOf (me_ix rfl (me_var 0) (me_int)) (me_ix rfl (me_var 0) (me_int)))) (me_one (me_cmp (op_eqA (G := Gk K rts) rfl rg (slotE_cons (c := 0) (T.meth 33) (exb_5 T) (OkD.callsIn (ok_Rooms_eq T B) form_Rooms_eq_2 rg (fun I => I.env0)) slotE_nil)) os_eqOf (me_ix rfl (me_var 0) (me_int)) (me_ix rfl (me_var 0) (me_int))))))))))
theorem sc_Rooms_rooms_twin : FnScope ["self", "other", "places"] ["self"] (defScope s_Rooms_rooms_twin) := ⟨rfl, rfl, rfl, by decide +kernel, rfl, by decide +kernel, by decide +kernel⟩
theorem ok_Rooms_rooms_twin (T : Tt K mg) (B : TbL tq_ K mg base) : OkD P w K mg base 4 dd_Rooms_rooms_twin ["self"] f_Rooms_rooms_twin (Gk K rts) := okD_of (N := ["self", "other", "places"]) (ps := ["self"]) (m := b_Rooms_rooms_twin) (d := dd_Rooms_rooms_twin) (G := Gk K rts) T 18 sc_Rooms_rooms_twin fun cdv A outer s H E rg =>
   (ms_cons (ms_set 1 sc_Rooms_rooms_twin.nd rfl (Or.inl rfl) (me_callK0 (OkD.makes (c := 0) (ok_Rooms_init T B) form_Rooms_init_1_most (T.mkr 14) hx_of rg) rfl (T.glo 15) (T.mkr 14).kp (mk_cons (me_fld rfl (hC_cons (T.cls 9) (T.noat 10) hC_nil) (by decide +kernel) (me_var 0)) (mk_nil))))
    (ms_cons (ms_asg (me_tup (ma_cons (me_bty call_list_of bs_list rfl (T.free 35) rfl (ma_cons (me_fld rfl (hC_cons (T.cls 9) (T.noat 11) hC_nil) (by decide +kernel) (me_var 0)) (ma_nil))) (ma_cons (me_bty call_list_of bs_list rfl (T.free 35) rfl (ma_cons (me_fld rfl (hC_cons (T.cls 9) (T.noat 13) hC_nil) (by decide +kernel) (me_var 0)) (ma_nil))) (ma_nil)))) (mg_tup rfl rfl (mgs_cons (mg_fld rfl (hC_cons (T.cls 9) (T.noat 11) hC_nil) (by decide +kernel) (me_var 1)) (mgs_cons (mg_fld rfl (hC_cons (T.cls 9) (T.noat 13) hC_nil) (by decide +kernel) (me_var 1)) (mgs_nil)))))
    (ms_cons (ms_fld rfl (hC_cons (T.cls 9) (T.noat 12) hC_nil) (by decide +kernel) (me_var 1) (me_comp (own := [("places", 2)]) (one := true) (is := [2]) rfl sc_Rooms_rooms_twin.nd (mi_seq rfl (me_fld rfl (hC_cons (T.cls 9) (T.noat 12) hC_nil) (by decide +kernel) (me_var 0))) (blkOk_by (N := ["self", "other", "places"]) (sc := defScope s_Rooms_rooms_twin) (by decide +kernel)) (bd_one (by decide)) (fun _ _ _ _ _ => pg_name (i := 2) sc_Rooms_rooms_twin.nd rfl (by first | exact Or.inl rfl | exact Or.inr rfl)) (fun _ _ _ _ _ => mts_nil) (fun _ _ _ _ _ => me_if (mt_isN (me_var 2)) (me_non) (me_bty call_list_of bs_list rfl (T.free 35) rfl (ma_cons (me_var 2) (ma_nil))))))
    (ms_one (ms_ret (me_var 1))))))
theorem sc_near_right : FnScope ["_law_others", "_law_first", "_law_same", "_law_way", "_law_rooms"] [] (defScope s_near_right) := ⟨rfl, rfl, rfl, by decide +kernel, rfl, by decide +kernel, by decide +kernel⟩
theorem ok_near_right (T : Tt K mg) (B : TbL tq_ K mg base) : OkD P w K mg base 7 dd_near_right [] f_near_right (Gk K rts) := okD_of (N := ["_law_others", "_law_first", "_law_same", "_law_way", "_law_rooms"]) (ps := []) (m := b_near_right) (d := dd_near_right) (G := Gk K rts) T 19 sc_near_right fun cdv A outer s H E rg =>
   (ms_cons (ms_asg (me_tup (ma_cons (me_call (OkD.calls (ok_led T B) form_led_3 hx_of rg) rfl (T.glo 31) (T.kp 14) (ma_cons (me_int) (ma_cons (me_int) (ma_cons (me_int) (ma_nil))))) (ma_cons (me_call (OkD.calls (ok_led T B) form_led_3 hx_of rg) rfl (T.glo 31) (T.kp 14) (ma_cons (me_int) (ma_cons (me_int) (ma_cons (me_int) (ma_nil))))) (ma_nil)))) (mg_tup rfl rfl (mgs_cons (mg_name (i := 1) sc_near_right.nd rfl (Or.inr rfl)) (mgs_cons (mg_name (i := 2) sc_near_right.nd rfl (Or.inl rfl)) (mgs_nil)))))
    (ms_cons (ms_set 0 sc_near_right.nd rfl (Or.inl rfl) (me_addK rfl (me_lstK (ma_cons (me_call (OkD.calls (ok_led T B) form_led_3 hx_of rg) rfl (T.glo 31) (T.kp 14) (ma_cons (me_int) (ma_cons (me_int) (ma_cons (me_int) (ma_nil))))) (ma_cons (me_call (OkD.calls (ok_led T B) form_led_3 hx_of rg) rfl (T.glo 31) (T.kp 14) (ma_cons (me_int) (ma_cons (me_int) (ma_cons (me_int) (ma_nil))))) (ma_nil)))) (me_compK (own := [("_law_way", 3)]) (one := true) (is := [3]) rfl sc_near_right.nd (mi_seq rfl (me_tup (ma_cons (me_int) (ma_cons (me_int) (ma_cons (me_int) (ma_cons (me_int) (ma_cons (me_int) (ma_nil)))))))) (blkOk_by (N := ["_law_others", "_law_first", "_law_same", "_law_way", "_law_rooms"]) (sc := defScope s_near_right) (by decide +kernel)) (bd_one (by decide)) (fun _ _ _ _ _ => pg_name (i := 3) sc_near_right.nd rfl (by first | exact Or.inl rfl | exact Or.inr rfl)) (fun _ _ _ _ _ => mts_nil) (fun _ _ _ _ _ => me_call (OkD.calls (ok_led T B) form_led_3 passEW rg) rfl (T.glo 31) (T.kp 14) (ma_cons (me_int) (ma_cons (me_int) (ma_cons (me_var 3) (ma_nil))))))))
    (ms_cons (ms_if (PW.pt (mw_or (mt_cmp (op_eqA (G := Gk K rts) rfl rg (slotE_cons (c := 0) (T.meth 33) (exb_5 T) (OkD.callsIn (ok_Rooms_eq T B) form_Rooms_eq_2 rg (fun I => I.env0)) slotE_nil)) os_eqOf (me_ix rfl (me_var 0) (me_int)) (me_call (OkD.calls (ok_led T B) form_led_3 hx_of rg) rfl (T.glo 31) (T.kp 14) (ma_cons (me_int) (ma_cons (me_int) (ma_cons (me_int) (ma_nil)))))) (mw_or (mt_cmp (op_neA (G := Gk K rts) rfl rg (slotE_cons (c := 0) (T.meth 33) (exb_5 T) (OkD.callsIn (ok_Rooms_eq T B) form_Rooms_eq_2 (rg_in1 rg) (fun I => I.env0.in1)) slotE_nil)) os_neOf (me_ix rfl (me_var 0) (me_int)) (me_call (OkD.calls (ok_led T B) form_led_3 hx_of rg) rfl (T.glo 31) (T.kp 14) (ma_cons (me_int) (ma_cons (me_int) (ma_cons (me_int) (ma_nil)))))) (mw_or1 (mt_not (mt_val (me_call0 (OkD.calls (ok_turns_right T B) form_turns_right_0 hx_of rg) rfl (T.glo 34) (T.kp 17)))))))) (ms_one (ms_ret (me_bl))) (ms_nil))
    (ms_cons (ms_if (PW.pt (mw_or (mt_not (mt_cmp (op_eqA (G := Gk K rts) rfl rg (slotE_cons (c := 0) (T.meth 33) (exb_5 T) (OkD.callsIn (ok_Rooms_eq T B) form_Rooms_eq_2 rg (fun I => I.env0)) slotE_nil)) os_eqOf (me_var 1) (me_var 2))) (mw_or (mt_not (mt_cmp (op_eqA (G := Gk K rts) rfl rg (slotE_cons (c := 0) (T.meth 33) (exb_5 T) (OkD.callsIn (ok_Rooms_eq T B) form_Rooms_eq_2 rg (fun I => I.env0)) slotE_nil)) os_eqOf (me_ix rfl (me_var 0) (me_int)) (me_ix rfl (me_var 0) (me_int)))) (mw_or1 (mt_cmp (op_neA (G := Gk K rts) rfl rg (slotE_cons (c := 0) (T.meth 33) (exb_5 T) (OkD.callsIn (ok_Rooms_eq T B) form_Rooms_eq_2 (rg_in1 rg) (fun I => I.env0.in1)) slotE_nil)) os_neOf (me_var 1) (me_meth0 (by decide +kernel) (meths_cons (T.cls 9) (T.meth 36) (OkD.calls (ok_Rooms_rooms_twin T B) form_Rooms_rooms_twin_1 hx_of rg) meths_nil) (me_var 1))))))) (ms_one (ms_ret (me_bl))) (ms_nil))
    (ms_one (ms_ret (me_cmp (op_eqU rg.r.units) os_eq (me_compK (own := [("_law_rooms", 4)]) (one := true) (is := [4]) rfl sc_near_right.nd (mi_seq rfl (me_var 0)) (blkOk_by (N := ["_law_others", "_law_first", "_law_same", "_law_way", "_law_rooms"]) (sc := defScope s_near_right) (by decide +kernel)) (bd_one (by decide)) (fun _ _ _ _ _ => pg_name (i := 4) sc_near_right.nd rfl (by first | exact Or.inl rfl | exact Or.inr rfl)) (fun _ _ _ _ _ => mts_one (PW.pt (mw_or (mt_cmp (op_eqA (G := Gk K rts) rfl rg (slotE_cons (c := 0) (T.meth 33) (exb_5 T) (OkD.callsIn (ok_Rooms_eq T B) form_Rooms_eq_2 rg (fun I => I.env0)) slotE_nil)) os_eqOf (me_var 4) (me_var 1)) (mw_or (mt_cmp (op_eqA (G := Gk K rts) rfl rg (slotE_cons (c := 0) (T.meth 33) (exb_5 T) (OkD.callsIn (ok_Rooms_eq T B) form_Rooms_eq_2 rg (fun I => I.env0)) slotE_nil)) os_eqOf (me_var 1) (me_var 4)) (mw_or1 (mt_not (mt_cmp (op_neA (G := Gk K rts) rfl rg (slotE_cons (c := 0) (T.meth 33) (exb_5 T) (OkD.callsIn (ok_Rooms_eq T B) form_Rooms_eq_2 (rg_in1 rg) (fun I => I.env0.in1)) slotE_nil)) os_neOf (me_var 4) (me_var 1)))))))) (fun _ _ _ _ _ => me_int)) (me_lstK (ma_nil)))))))))
theorem sc_draws : FnScope ["_law_script", "_law_cells", "_law_found", "_law_k", "_law_cell"] ["_law_script"] (defScope s_draws) := ⟨rfl, rfl, rfl, by decide +kernel, rfl, by decide +kernel, by decide +kernel⟩
theorem ok_draws (T : Tt K mg) (B : TbL tq_ K mg base) : OkD P w K mg base 1 dd_draws ["_law_script"] f_draws (Gk K rts) := okD_of (N := ["_law_script", "_law_cells", "_law_found", "_law_k", "_law_cell"]) (ps := ["_law_script"]) (m := b_draws) (d := dd_draws) (G := Gk K rts) T 20 sc_draws fun cdv A outer s H E rg =>
   (ms_cons (ms_set 1 sc_draws.nd rfl (Or.inl rfl) (me_if (mt_cmp (op_neU rg.r.units) os_ne (me_var 0) (me_lstK (ma_nil))) (me_listK rfl rfl (T.free 35) rfl (ma_cons (me_var 0) (ma_nil))) (me_lstK (ma_cons (me_int) (ma_nil)))))
    (ms_cons (ms_set 2 sc_draws.nd rfl (Or.inl rfl) (me_lst (ma_nil)))
    (ms_cons (ms_for hp_of rfl (mi_enum rfl rfl (T.free 27) (ma_cons (me_slX rfl (me_var 1) mo_none (mo_some (me_int))) ma_nil)) (mg_tup rfl rfl (mgs_cons (mg_name (i := 3) sc_draws.nd rfl (Or.inl rfl)) (mgs_cons (mg_name (i := 4) sc_draws.nd rfl (Or.inl rfl)) (mgs_nil)))) (ms_one (ms_expr (me_bm rfl PySem.F.plainAttrs_list PySem.F.slot_list_append PySem.F.type_list_append mt_append bs_append (.inl rfl) (me_var 2) (ma_cons (me_dict (mp_cons (me_str) (me_addK rfl (me_slX rfl (me_var 1) (mo_some (me_var 3)) mo_none) (me_slX rfl (me_var 1) mo_none (mo_some (me_var 3)))) (mp_cons (me_str) (me_mulK (me_int) (me_var 3)) (mp_cons (me_str) (me_if (mt_cmp op_ge os_cmp (me_var 4) (me_op op_pow os_pow (me_int) (me_int))) (me_var 4) (me_int)) (mp_nil))))) (ma_nil))))))
    (ms_one (ms_ret (me_frz (me_var 2)))))))
theorem sc_take : FnScope ["_law_draw", "_law_own_many", "_law_added", "_law_number", "_law_found", "_law_own_at", "_law_cells"] ["_law_draw", "_law_own_many"] (defScope s_take) := ⟨rfl, rfl, rfl, by decide +kernel, rfl, by decide +kernel, by decide +kernel⟩
theorem ok_take (T : Tt K mg) (B : TbL tq_ K mg base) : OkD P w K mg base 1 dd_take ["_law_draw", "_law_own_many"] f_take (Gk K rts) := okD_of (N := ["_law_draw", "_law_own_many", "_law_added", "_law_number", "_law_found", "_law_own_at", "_law_cells"]) (ps := ["_law_draw", "_law_own_many"]) (m := b_take) (d := dd_take) (G := Gk K rts) T 21 sc_take fun cdv A outer s H E rg =>
   (ms_cons (ms_dput (hu_of rg.r) (me_var 0) (me_str) (me_addK rfl (me_dget (hu_of rg.r) (me_var 0) (me_str)) (me_int)))
    (ms_cons (ms_if (mt_cmp op_gt os_cmp (me_dget (hu_of rg.r) (me_var 0) (me_str)) (me_int)) (ms_cons (ms_set 4 sc_take.nd rfl (Or.inl rfl) (me_op op_mod os_mod (me_dget (hu_of rg.r) (me_var 0) (me_str)) (me_var 1)))
    (ms_cons (ms_dput (hu_of rg.r) (me_var 0) (me_str) (me_op op_fdiv os_fdiv (me_dget (hu_of rg.r) (me_var 0) (me_str)) (me_var 1)))
    (ms_one (ms_ret (me_var 4))))) (ms_nil))
    (ms_cons (ms_par (i := 5) (j := 6) rfl sc_take.nd rfl rfl (by decide) rfl rfl (ma_cons (me_dget (hu_of rg.r) (me_var 0) (me_str)) (ma_cons (me_dget (hu_of rg.r) (me_var 0) (me_str)) (ma_nil))))
    (ms_cons (ms_set 2 sc_take.nd rfl (Or.inl rfl) (me_addK rfl (me_addK rfl (me_mulK (me_mulK (me_int) (me_var 5)) (me_var 5)) (me_mulK (me_int) (me_var 5))) (me_int)))
    (ms_cons (ms_set 3 sc_take.nd rfl (Or.inl rfl) (me_addK rfl (me_op op_mod os_mod (me_ix rfl (me_var 6) (me_op op_mod os_mod (me_var 5) (me_bi cl_len bs_len rfl (T.free 18) rfl (ma_cons (me_var 6) (ma_nil))))) (me_int)) (me_var 2)))
    (ms_cons (ms_set 3 sc_take.nd rfl (Or.inl rfl) (me_op op_mod os_mod (me_op op_pow os_pow (me_var 3) (me_int)) (me_int)))
    (ms_one (ms_ret (me_op op_mod os_mod (me_op op_fdiv os_fdiv (me_op op_mod os_mod (me_mulK (me_var 3) (me_int)) (me_int)) (me_int)) (me_var 1))))))))))
theorem sc_begun : FnScope ["_law_ceiling"] ["_law_ceiling"] (defScope s_begun) := ⟨rfl, rfl, rfl, by decide +kernel, rfl, by decide +kernel, by decide +kernel⟩
theorem ok_begun (T : Tt K mg) (B : TbL tq_ K mg base) : OkD P w K mg base 1 dd_begun ["_law_ceiling"] f_begun (Gk K rts) := okD_of (N := ["_law_ceiling"]) (ps := ["_law_ceiling"]) (m := b_begun) (d := dd_begun) (G := Gk K rts) T 22 sc_begun fun cdv A outer s H E rg =>
   (ms_one (ms_ret (me_dict (mp_cons (me_str) (me_var 0) (mp_cons (me_str) (me_lst (ma_nil)) (mp_cons (me_str) (me_lst (ma_nil)) (mp_cons (me_str) (me_lst (ma_nil)) (mp_nil))))))))
theorem sc_copied : FnScope ["_law_own", "_law_rows", "_law_row"] ["_law_own"] (defScope s_copied) := ⟨rfl, rfl, rfl, by decide +kernel, rfl, by decide +kernel, by decide +kernel⟩
theorem ok_copied (T : Tt K mg) (B : TbL tq_ K mg base) : OkD P w K mg base 1 dd_copied ["_law_own"] f_copied (Gk K rts) := okD_of (N := ["_law_own", "_law_rows", "_law_row"]) (ps := ["_law_own"]) (m := b_copied) (d := dd_copied) (G := Gk K rts) T 23 sc_copied fun cdv A outer s H E rg =>
   (ms_cons (ms_set 1 sc_copied.nd rfl (Or.inl rfl) (me_lst (ma_nil)))
    (ms_cons (ms_for hp_of rfl (mi_seq rfl (me_dget (hu_of rg.r) (me_var 0) (me_str))) (mg_name (i := 2) sc_copied.nd rfl (Or.inl rfl)) (ms_one (ms_expr (me_bm rfl PySem.F.plainAttrs_list PySem.F.slot_list_append PySem.F.type_list_append mt_append bs_append (.inl rfl) (me_var 1) (ma_cons (me_dict (mp_cons (me_str) (me_dget (hu_of rg.r) (me_var 2) (me_str)) (mp_cons (me_str) (me_if (mt_isN (me_dget (hu_of rg.r) (me_var 2) (me_str))) (me_non) (me_bty call_list_of bs_list rfl (T.free 35) rfl (ma_cons (me_dget (hu_of rg.r) (me_var 2) (me_str)) (ma_nil)))) (mp_nil)))) (ma_nil))))))
    (ms_one (ms_ret (me_dict (mp_cons (me_str) (me_dget (hu_of rg.r) (me_var 0) (me_str)) (mp_cons (me_str) (me_var 1) (mp_cons (me_str) (me_bty call_list_of bs_list rfl (T.free 35) rfl (ma_cons (me_dget (hu_of rg.r) (me_var 0) (me_str)) (ma_nil))) (mp_cons (me_str) (me_bty call_list_of bs_list rfl (T.free 35) rfl (ma_cons (me_dget (hu_of rg.r) (me_var 0) (me_str)) (ma_nil))) (mp_nil))))))))))
theorem sc_owner_right : FnScope ["_law_draw", "_law_rooms", "_law_own", "_law_due_here", "_law_number", "e", "_law_own_owner", "_law_caught", "_law_told", "_law_k", "_law_row"] ["_law_draw", "_law_rooms", "_law_own"] (defScope s_owner_right) := ⟨rfl, rfl, rfl, by decide +kernel, rfl, by decide +kernel, by decide +kernel⟩
theorem ok_owner_right (T : Tt K mg) (B : TbL tq_ K mg base) : OkD P w K mg base 4 dd_owner_right ["_law_draw", "_law_rooms", "_law_own"] f_owner_right (Gk K rts) := okD_of (N := ["_law_draw", "_law_rooms", "_law_own", "_law_due_here", "_law_number", "e", "_law_own_owner", "_law_caught", "_law_told", "_law_k", "_law_row"]) (ps := ["_law_draw", "_law_rooms", "_law_own"]) (m := b_owner_right) (d := dd_owner_right) (G := Gk K rts) T 24 sc_owner_right fun cdv A outer s H E rg =>
   (ms_cons (ms_asg (me_tup (ma_cons (me_op op_sub os_sub (me_call (OkD.calls (ok_take T B) form_take_2 hx_of rg) rfl (T.glo 39) (T.kp 21) (ma_cons (me_var 0) (ma_cons (me_int) (ma_nil)))) (me_int)) (ma_cons (me_non) (ma_cons (me_non) (ma_nil))))) (mg_tup rfl rfl (mgs_cons (mg_name (i := 6) sc_owner_right.nd rfl (Or.inr rfl)) (mgs_cons (mg_name (i := 7) sc_owner_right.nd rfl (Or.inl rfl)) (mgs_cons (mg_name (i := 8) sc_owner_right.nd rfl (Or.inl rfl)) (mgs_nil))))))
    (ms_cons (ms_setCompK 3 (own := [("_law_k", 9), ("_law_row", 10)]) (one := false) (is := [9, 10]) rfl sc_owner_right.nd rfl rfl (sw_true rfl rfl rfl (by decide +kernel)) (mi_enum rfl rfl (T.free 27) (ma_cons (me_dget (hu_of rg.r) (me_var 2) (me_str)) ma_nil)) (blkOk_by (N := ["_law_draw", "_law_rooms", "_law_own", "_law_due_here", "_law_number", "e", "_law_own_owner", "_law_caught", "_law_told", "_law_k", "_law_row"]) (sc := defScope s_owner_right) (by decide +kernel)) (bd_tup (by decide)) (fun _ _ _ _ _ => pg_tup rfl (pgs_cons (pg_name (i := 9) sc_owner_right.nd rfl (by first | exact Or.inl rfl | exact Or.inr rfl)) (pgs_cons (pg_name (i := 10) sc_owner_right.nd rfl (by first | exact Or.inl rfl | exact Or.inr rfl)) (pgs_nil))) rfl rfl) (fun _ _ _ _ _ => mts_one (PW.pt (mw_and (mt_notN (me_dget (hu_of rg.r) (me_var 10) (me_str))) (mw_and1 (mt_cmp (op_eqU rg.r.units) os_eq (me_dget (hu_of rg.r) (me_var 10) (me_str)) (me_var 6)))))) (fun _ _ _ _ _ => me_var 9))
    (ms_cons (ms_for hp_of rfl (mi_seq rfl (me_var 3)) (mg_name (i := 4) sc_owner_right.nd rfl (Or.inl rfl)) (ms_one (ms_dput (hu_of rg.r) (me_ix rfl (me_dget (hu_of rg.r) (me_var 2) (me_str)) (me_var 4)) (me_str) (me_non))))
    (ms_cons (ms_try (m := fun cls => PySem.W.exmOne K cls (.ref (ga K "NoSuch"))) (i := 5) (ks := [1, 2]) (cs := [1]) rfl rfl rfl sc_owner_right.nd rfl rfl (tst_one (names_own (x := "NoSuch") (by rfl) (T.glo 0))) tk_of (tryB1_ok (exb_6 T)) (fun W pn xe tk po => ms_one (ms_set 8 sc_owner_right.nd rfl (Or.inl rfl) (me_meth (by decide +kernel) (meths_cons (T.cls 9) (T.meth 30) (OkD.calls (ok_Rooms_end_rooms T B) form_Rooms_end_rooms_2 (passW tk) rg) meths_nil) (me_var 1) (ma_cons (me_var 6) (ma_nil))))) (fun a pn => ms_one (ms_set 7 sc_owner_right.nd rfl (Or.inl rfl) (me_var 5))))
    (ms_one (ms_ret (me_if (mt_cmp (op_eqU rg.r.units) os_eq (me_var 3) (me_lstK (ma_nil))) (me_and (me_notN (me_var 7)) (me_one (me_cmp (op_eqU rg.r.units) os_eq (me_xf rfl (hX_cons (x := "NoSuch") rfl (exb_1 T) (by simp) hX_nil) (by decide +kernel) (me_var 7)) (me_var 6)))) (me_and (me_isN (me_var 7)) (me_one (me_cmp (op_eqU rg.r.units) os_eq (me_var 8) (me_var 3)))))))))))
theorem sc_any_number : FnScope ["_law_draw", "_law_near", "_law_way"] ["_law_draw", "_law_near"] (defScope s_any_number) := ⟨rfl, rfl, rfl, by decide +kernel, rfl, by decide +kernel, by decide +kernel⟩
theorem ok_any_number (T : Tt K mg) (B : TbL tq_ K mg base) : OkD P w K mg base 2 dd_any_number ["_law_draw", "_law_near"] f_any_number (Gk K rts) := okD_of (N := ["_law_draw", "_law_near", "_law_way"]) (ps := ["_law_draw", "_law_near"]) (m := b_any_number) (d := dd_any_number) (G := Gk K rts) T 25 sc_any_number fun cdv A outer s H E rg =>
   (ms_cons (ms_set 2 sc_any_number.nd rfl (Or.inl rfl) (me_call (OkD.calls (ok_take T B) form_take_2 hx_of rg) rfl (T.glo 39) (T.kp 21) (ma_cons (me_var 0) (ma_cons (me_int) (ma_nil)))))
    (ms_cons (ms_if (mt_cmp op_lt os_cmp (me_var 2) (me_int)) (ms_one (ms_ret (me_addK rfl (me_op op_sub os_sub (me_var 1) (me_int)) (me_var 2)))) (ms_nil))
    (ms_cons (ms_if (mt_cmp (op_eqU rg.r.units) os_eq (me_var 2) (me_int)) (ms_one (ms_ret (me_ix rfl (me_lstK (ma_cons (me_int) (ma_cons (me_int) (ma_cons (me_int) (ma_cons (me_int) (ma_cons (me_un un_neg us_neg (me_int)) (ma_cons (me_int) (ma_cons (me_un un_neg us_neg (me_int)) (ma_nil))))))))) (me_call (OkD.calls (ok_take T B) form_take_2 hx_of rg) rfl (T.glo 39) (T.kp 21) (ma_cons (me_var 0) (ma_cons (me_int) (ma_nil))))))) (ms_nil))
    (ms_one (ms_ret (me_call (OkD.calls (ok_take T B) form_take_2 hx_of rg) rfl (T.glo 39) (T.kp 21) (ma_cons (me_var 0) (ma_cons (me_addK rfl (me_var 1) (me_int)) (ma_nil)))))))))
theorem sc_any_word : FnScope ["_law_draw", "_law_own", "_law_way", "_law_number", "_law_own_start"] ["_law_draw", "_law_own"] (defScope s_any_word) := ⟨rfl, rfl, rfl, by decide +kernel, rfl, by decide +kernel, by decide +kernel⟩
theorem ok_any_word (T : Tt K mg) (B : TbL tq_ K mg base) : OkD P w K mg base 3 dd_any_word ["_law_draw", "_law_own"] f_any_word (Gk K rts) := okD_of (N := ["_law_draw", "_law_own", "_law_way", "_law_number", "_law_own_start"]) (ps := ["_law_draw", "_law_own"]) (m := b_any_word) (d := dd_any_word) (G := Gk K rts) T 26 sc_any_word fun cdv A outer s H E rg =>
   (ms_cons (ms_set 2 sc_any_word.nd rfl (Or.inl rfl) (me_call (OkD.calls (ok_take T B) form_take_2 hx_of rg) rfl (T.glo 39) (T.kp 21) (ma_cons (me_var 0) (ma_cons (me_int) (ma_nil)))))
    (ms_cons (ms_if (PW.pt (mw_and (mt_cmp op_lt os_cmp (me_var 2) (me_int)) (mw_and1 (mt_cmp (op_neU rg.r.units) os_ne (me_dget (hu_of rg.r) (me_var 1) (me_str)) (me_lstK (ma_nil)))))) (ms_one (ms_ret (me_ix rfl (me_dget (hu_of rg.r) (me_var 1) (me_str)) (me_call (OkD.calls (ok_take T B) form_take_2 hx_of rg) rfl (T.glo 39) (T.kp 21) (ma_cons (me_var 0) (ma_cons (me_bi cl_len bs_len rfl (T.free 18) rfl (ma_cons (me_dget (hu_of rg.r) (me_var 1) (me_str)) (ma_nil))) (ma_nil))))))) (ms_nil))
    (ms_cons (ms_if (mt_cmp (op_eqU rg.r.units) os_eq (me_var 2) (me_int)) (ms_one (ms_ret (me_tup (ma_cons (me_str) (ma_cons (me_call (OkD.calls (ok_take T B) form_take_2 hx_of rg) rfl (T.glo 39) (T.kp 21) (ma_cons (me_var 0) (ma_cons (me_int) (ma_nil)))) (ma_cons (me_call (OkD.calls (ok_take T B) form_take_2 hx_of rg) rfl (T.glo 39) (T.kp 21) (ma_cons (me_var 0) (ma_cons (me_int) (ma_nil)))) (ma_nil))))))) (ms_nil))
    (ms_cons (ms_if (mt_cmp (op_eqU rg.r.units) os_eq (me_var 2) (me_int)) (ms_one (ms_ret (me_tup (ma_cons (me_str) (ma_cons (me_call (OkD.calls (ok_any_number T B) form_any_number_2 hx_of rg) rfl (T.glo 44) (T.kp 25) (ma_cons (me_var 0) (ma_cons (me_int) (ma_nil)))) (ma_nil)))))) (ms_nil))
    (ms_cons (ms_par (i := 3) (j := 4) rfl sc_any_word.nd rfl rfl (by decide) rfl rfl (ma_cons (me_call (OkD.calls (ok_take T B) form_take_2 hx_of rg) rfl (T.glo 39) (T.kp 21) (ma_cons (me_var 0) (ma_cons (me_addK rfl (me_bi cl_len bs_len rfl (T.free 18) rfl (ma_cons (me_dget (hu_of rg.r) (me_var 1) (me_str)) (ma_nil))) (me_int)) (ma_nil)))) (ma_cons (me_ix rfl (me_lstK (ma_cons (me_int) (ma_cons (me_int) (ma_cons (me_int) (ma_cons (me_int) (ma_cons (me_int) (ma_nil))))))) (me_call (OkD.calls (ok_take T B) form_take_2 hx_of rg) rfl (T.glo 39) (T.kp 21) (ma_cons (me_var 0) (ma_cons (me_int) (ma_nil))))) (ma_nil))))
    (ms_one (ms_ret (me_tup (ma_cons (me_str) (ma_cons (me_var 3) (ma_cons (me_var 4) (ma_cons (me_ix rfl (me_lstK (ma_cons (me_int) (ma_cons (me_int) (ma_cons (me_int) (ma_cons (me_int) (ma_cons (me_int) (ma_cons (me_int) (ma_nil)))))))) (me_call (OkD.calls (ok_take T B) form_take_2 hx_of rg) rfl (T.glo 39) (T.kp 21) (ma_cons (me_var 0) (ma_cons (me_int) (ma_nil))))) (ma_nil)))))))))))))
theorem sc_any_step : FnScope ["_law_draw", "_law_own_word", "_law_size"] ["_law_draw", "_law_own_word"] (defScope s_any_step) := ⟨rfl, rfl, rfl, by decide +kernel, rfl, by decide +kernel, by decide +kernel⟩
theorem ok_any_step (T : Tt K mg) (B : TbL tq_ K mg base) : OkD P w K mg base 3 dd_any_step ["_law_draw", "_law_own_word"] f_any_step (Gk K rts) := okD_of (N := ["_law_draw", "_law_own_word", "_law_size"]) (ps := ["_law_draw", "_law_own_word"]) (m := b_any_step) (d := dd_any_step) (G := Gk K rts) T 27 sc_any_step fun cdv A outer s H E rg =>
   (ms_cons (ms_if (mt_cmp (op_eqU rg.r.units) os_eq (me_call (OkD.calls (ok_take T B) form_take_2 hx_of rg) rfl (T.glo 39) (T.kp 21) (ma_cons (me_var 0) (ma_cons (me_int) (ma_nil)))) (me_int)) (ms_one (ms_ret (me_ix rfl (me_lstK (ma_cons (me_tup (ma_cons (me_str) (ma_cons (me_int) (ma_cons (me_int) (ma_cons (me_int) (ma_nil)))))) (ma_cons (me_tup (ma_cons (me_str) (ma_cons (me_int) (ma_cons (me_int) (ma_nil))))) (ma_nil)))) (me_call (OkD.calls (ok_take T B) form_take_2 hx_of rg) rfl (T.glo 39) (T.kp 21) (ma_cons (me_var 0) (ma_cons (me_int) (ma_nil))))))) (ms_nil))
    (ms_cons (ms_set 2 sc_any_step.nd rfl (Or.inl rfl) (me_if (mt_cmp (op_eqU rg.r.units) os_eq (me_ix rfl (me_var 1) (me_int)) (me_str)) (me_ix rfl (me_var 1) (me_int)) (me_int)))
    (ms_cons (ms_if (PW.pt (mw_and (mt_cmp op_gt os_cmp (me_call (OkD.calls (ok_take T B) form_take_2 hx_of rg) rfl (T.glo 39) (T.kp 21) (ma_cons (me_var 0) (ma_cons (me_int) (ma_nil)))) (me_int)) (mw_and1 (mt_cmp op_gt os_cmp (me_var 2) (me_int))))) (ms_one (ms_ret (me_tup (ma_cons (me_str) (ma_cons (me_call (OkD.calls (ok_take T B) form_take_2 hx_of rg) rfl (T.glo 39) (T.kp 21) (ma_cons (me_var 0) (ma_cons (me_var 2) (ma_nil)))) (ma_nil)))))) (ms_nil))
    (ms_one (ms_ret (me_tup (ma_cons (me_str) (ma_cons (me_call (OkD.calls (ok_any_number T B) form_any_number_2 hx_of rg) rfl (T.glo 44) (T.kp 25) (ma_cons (me_var 0) (ma_cons (me_var 2) (ma_nil)))) (ma_nil)))))))))
theorem sc_any_deed : FnScope ["_law_draw", "_law_own", "_law_step", "_law_way", "_law_own_word", "_law_some", "_law_own_many"] ["_law_draw", "_law_own"] (defScope s_any_deed) := ⟨rfl, rfl, rfl, by decide +kernel, rfl, by decide +kernel, by decide +kernel⟩
theorem ok_any_deed (T : Tt K mg) (B : TbL tq_ K mg base) : OkD P w K mg base 4 dd_any_deed ["_law_draw", "_law_own"] f_any_deed (Gk K rts) := okD_of (N := ["_law_draw", "_law_own", "_law_step", "_law_way", "_law_own_word", "_law_some", "_law_own_many"]) (ps := ["_law_draw", "_law_own"]) (m := b_any_deed) (d := dd_any_deed) (G := Gk K rts) T 28 sc_any_deed fun cdv A outer s H E rg =>
   (ms_cons (ms_par (i := 3) (j := 4) rfl sc_any_deed.nd rfl rfl (by decide) rfl rfl (ma_cons (me_call (OkD.calls (ok_take T B) form_take_2 hx_of rg) rfl (T.glo 39) (T.kp 21) (ma_cons (me_var 0) (ma_cons (me_int) (ma_nil)))) (ma_cons (me_call (OkD.calls (ok_any_word T B) form_any_word_2 hx_of rg) rfl (T.glo 45) (T.kp 26) (ma_cons (me_var 0) (ma_cons (me_var 1) (ma_nil)))) (ma_nil))))
    (ms_cons (ms_if (PW.pt (mw_or (mt_cmp op_lt os_cmp (me_var 3) (me_int)) (mw_or1 (mt_cmp (op_eqU rg.r.units) os_eq (me_dget (hu_of rg.r) (me_var 1) (me_str)) (me_lstK (ma_nil)))))) (ms_cons (ms_set 5 sc_any_deed.nd rfl (Or.inl rfl) (me_lstK (ma_cons (me_tup (ma_cons (me_str) (ma_cons (me_call (OkD.calls (ok_take T B) form_take_2 hx_of rg) rfl (T.glo 39) (T.kp 21) (ma_cons (me_var 0) (ma_cons (me_int) (ma_nil)))) (ma_nil)))) (ma_cons (me_tup (ma_cons (me_str) (ma_cons (me_call (OkD.calls (ok_any_number T B) form_any_number_2 hx_of rg) rfl (T.glo 44) (T.kp 25) (ma_cons (me_var 0) (ma_cons (me_int) (ma_nil)))) (ma_nil)))) (ma_cons (me_var 4) (ma_nil))))))
    (ms_cons (ms_set 6 sc_any_deed.nd rfl (Or.inl rfl) (me_ix rfl (me_var 5) (me_ix rfl (me_lstK (ma_cons (me_int) (ma_cons (me_int) (ma_cons (me_int) (ma_cons (me_int) (ma_cons (me_int) (ma_nil))))))) (me_call (OkD.calls (ok_take T B) form_take_2 hx_of rg) rfl (T.glo 39) (T.kp 21) (ma_cons (me_var 0) (ma_cons (me_int) (ma_nil)))))))
    (ms_one (ms_ret (me_tup (ma_cons (me_str) (ma_cons (me_var 6) (ma_cons (me_op op_sub os_sub (me_call (OkD.calls (ok_take T B) form_take_2 hx_of rg) rfl (T.glo 39) (T.kp 21) (ma_cons (me_var 0) (ma_cons (me_int) (ma_nil)))) (me_int)) (ma_nil))))))))) (ms_nil))
    (ms_cons (ms_set 2 sc_any_deed.nd rfl (Or.inl rfl) (me_call (OkD.calls (ok_any_step T B) form_any_step_2 hx_of rg) rfl (T.glo 46) (T.kp 27) (ma_cons (me_var 0) (ma_cons (me_var 4) (ma_nil)))))
    (ms_cons (ms_if (mt_cmp op_lt os_cmp (me_var 3) (me_int)) (ms_one (ms_ret (me_tup (ma_cons (me_str) (ma_cons (me_var 4) (ma_cons (me_var 2) (ma_nil))))))) (ms_nil))
    (ms_cons (ms_if (mt_cmp op_lt os_cmp (me_var 3) (me_int)) (ms_one (ms_ret (me_tup (ma_cons (me_str) (ma_cons (me_var 4) (ma_cons (me_var 2) (ma_cons (me_call (OkD.calls (ok_any_word T B) form_any_word_2 hx_of rg) rfl (T.glo 45) (T.kp 26) (ma_cons (me_var 0) (ma_cons (me_var 1) (ma_nil)))) (ma_nil)))))))) (ms_nil))
    (ms_one (ms_ret (me_if (mt_cmp (op_eqU rg.r.units) os_eq (me_var 3) (me_int)) (me_tup (ma_cons (me_str) (ma_cons (me_var 4) (ma_cons (me_var 2) (ma_cons (me_call (OkD.calls (ok_any_step T B) form_any_step_2 hx_of rg) rfl (T.glo 46) (T.kp 27) (ma_cons (me_var 0) (ma_cons (me_var 4) (ma_nil)))) (ma_nil)))))) (me_tup (ma_cons (me_str) (ma_cons (me_var 4) (ma_nil))))))))))))
theorem sc_make : FnScope ["_law_own", "_law_own_many", "_law_own_owner", "_law_number"] ["_law_own", "_law_own_many", "_law_own_owner"] (defScope s_make) := ⟨rfl, rfl, rfl, by decide +kernel, rfl, by decide +kernel, by decide +kernel⟩
theorem ok_make (T : Tt K mg) (B : TbL tq_ K mg base) : OkD P w K mg base 1 dd_make ["_law_own", "_law_own_many", "_law_own_owner"] f_make (Gk K rts) := okD_of (N := ["_law_own", "_law_own_many", "_law_own_owner", "_law_number"]) (ps := ["_law_own", "_law_own_many", "_law_own_owner"]) (m := b_make) (d := dd_make) (G := Gk K rts) T 29 sc_make fun cdv A outer s H E rg =>
   (ms_cons (ms_if (mt_cmp (op_neU rg.r.units) os_ne (me_ix rfl (me_var 1) (me_int)) (me_str)) (ms_one (ms_ret (me_tup (ma_cons (me_str) (ma_cons (me_str) (ma_nil)))))) (ms_nil))
    (ms_cons (ms_if (mt_not (mt_chain op_le op_le os_cmp os_cmp (me_int) (me_ix rfl (me_var 1) (me_int)) (me_int))) (ms_one (ms_ret (me_tup (ma_cons (me_str) (ma_cons (me_str) (ma_nil)))))) (ms_nil))
    (ms_cons (ms_set 3 sc_make.nd rfl (Or.inl rfl) (me_bi cl_len bs_len rfl (T.free 18) rfl (ma_cons (me_dget (hu_of rg.r) (me_var 0) (me_str)) (ma_nil))))
    (ms_cons (ms_if (mt_cmp op_ge os_cmp (me_var 3) (me_dget (hu_of rg.r) (me_var 0) (me_str))) (ms_one (ms_ret (me_tup (ma_cons (me_str) (ma_cons (me_str) (ma_nil)))))) (ms_nil))
    (ms_cons (ms_expr (me_bm rfl PySem.F.plainAttrs_list PySem.F.slot_list_append PySem.F.type_list_append mt_append bs_append (.inl rfl) (me_dget (hu_of rg.r) (me_var 0) (me_str)) (ma_cons (me_dict (mp_cons (me_str) (me_var 2) (mp_cons (me_str) (me_op op_mulU os_mul (me_lst (ma_cons (me_tup (ma_cons (me_str) (ma_cons (me_int) (ma_nil)))) (ma_nil))) (me_ix rfl (me_var 1) (me_int))) (mp_nil)))) (ma_nil))))
    (ms_cons (ms_expr (me_bm rfl PySem.F.plainAttrs_list PySem.F.slot_list_append PySem.F.type_list_append mt_append bs_append (.inl rfl) (me_dget (hu_of rg.r) (me_var 0) (me_str)) (ma_cons (me_var 3) (ma_nil))))
    (ms_one (ms_ret (me_tup (ma_cons (me_str) (ma_cons (me_tup (ma_cons (me_str) (ma_cons (me_var 3) (ma_cons (me_int) (ma_cons (me_ix rfl (me_var 1) (me_int)) (ma_nil)))))) (ma_nil))))))))))))
theorem sc_lead : FnScope ["_law_own", "_law_own_word", "_law_rows", "_law_number"] ["_law_own", "_law_own_word"] (defScope s_lead) := ⟨rfl, rfl, rfl, by decide +kernel, rfl, by decide +kernel, by decide +kernel⟩
theorem ok_lead (T : Tt K mg) (B : TbL tq_ K mg base) : OkD P w K mg base 1 dd_lead ["_law_own", "_law_own_word"] f_lead (Gk K rts) := okD_of (N := ["_law_own", "_law_own_word", "_law_rows", "_law_number"]) (ps := ["_law_own", "_law_own_word"]) (m := b_lead) (d := dd_lead) (G := Gk K rts) T 30 sc_lead fun cdv A outer s H E rg =>
   (ms_cons (ms_par (i := 2) (j := 3) rfl sc_lead.nd rfl rfl (by decide) rfl rfl (ma_cons (me_dget (hu_of rg.r) (me_var 0) (me_str)) (ma_cons (me_ix rfl (me_var 1) (me_int)) (ma_nil))))
    (ms_cons (ms_if (PW.pt (mw_or (mt_cmp op_ge os_cmp (me_var 3) (me_bi cl_len bs_len rfl (T.free 18) rfl (ma_cons (me_var 2) (ma_nil)))) (mw_or1 (mt_isN (me_dget (hu_of rg.r) (me_ix rfl (me_var 2) (me_var 3)) (me_str)))))) (ms_one (ms_ret (me_str))) (ms_nil))
    (ms_one (ms_ret (me_if (mt_cmp op_gt os_cmp (me_addK rfl (me_ix rfl (me_var 1) (me_int)) (me_ix rfl (me_var 1) (me_int))) (me_bi cl_len bs_len rfl (T.free 18) rfl (ma_cons (me_dget (hu_of rg.r) (me_ix rfl (me_var 2) (me_var 3)) (me_str)) (ma_nil)))) (me_str) (me_non))))))
theorem sc_part : FnScope ["_law_own", "_law_own_word", "_law_own_start", "_law_own_many", "_law_found", "_law_first", "_law_size"] ["_law_own", "_law_own_word", "_law_own_start", "_law_own_many"] (defScope s_part) := ⟨rfl, rfl, rfl, by decide +kernel, rfl, by decide +kernel, by decide +kernel⟩
theorem ok_part (T : Tt K mg) (B : TbL tq_ K mg base) : OkD P w K mg base 2 dd_part ["_law_own", "_law_own_word", "_law_own_start", "_law_own_many"] f_part (Gk K rts) := okD_of (N := ["_law_own", "_law_own_word", "_law_own_start", "_law_own_many", "_law_found", "_law_first", "_law_size"]) (ps := ["_law_own", "_law_own_word", "_law_own_start", "_law_own_many"]) (m := b_part) (d := dd_part) (G := Gk K rts) T 31 sc_part fun cdv A outer s H E rg =>
   (ms_cons (ms_if (PW.pt (mw_or (mt_cmp (op_neU rg.r.units) os_ne (me_ix rfl (me_var 1) (me_int)) (me_str)) (mw_or (mt_cmp (op_neU rg.r.units) os_ne (me_ix rfl (me_var 2) (me_int)) (me_str)) (mw_or1 (mt_cmp (op_neU rg.r.units) os_ne (me_ix rfl (me_var 3) (me_int)) (me_str)))))) (ms_one (ms_ret (me_tup (ma_cons (me_str) (ma_cons (me_str) (ma_nil)))))) (ms_nil))
    (ms_cons (ms_set 4 sc_part.nd rfl (Or.inl rfl) (me_call (OkD.calls (ok_lead T B) form_lead_2 hx_of rg) rfl (T.glo 49) (T.kp 30) (ma_cons (me_var 0) (ma_cons (me_var 1) (ma_nil)))))
    (ms_cons (ms_par (i := 5) (j := 6) rfl sc_part.nd rfl rfl (by decide) rfl rfl (ma_cons (me_ix rfl (me_var 2) (me_int)) (ma_cons (me_ix rfl (me_var 3) (me_int)) (ma_nil))))
    (ms_cons (ms_if (PW.pt (mw_and (mt_isN (me_var 4)) (mw_and1 (PW.pt (mw_or (mt_cmp op_lt os_cmp (me_var 5) (me_int)) (mw_or (mt_cmp op_lt os_cmp (me_var 6) (me_int)) (mw_or1 (mt_cmp op_gt os_cmp (me_addK rfl (me_var 5) (me_var 6)) (me_ix rfl (me_var 1) (me_int)))))))))) (ms_one (ms_set 4 sc_part.nd rfl (Or.inl rfl) (me_str))) (ms_nil))
    (ms_cons (ms_if (mt_notN (me_var 4)) (ms_one (ms_ret (me_tup (ma_cons (me_str) (ma_cons (me_var 4) (ma_nil)))))) (ms_nil))
    (ms_one (ms_ret (me_tup (ma_cons (me_str) (ma_cons (me_tup (ma_cons (me_str) (ma_cons (me_ix rfl (me_var 1) (me_int)) (ma_cons (me_addK rfl (me_ix rfl (me_var 1) (me_int)) (me_ix rfl (me_var 2) (me_int))) (ma_cons (me_ix rfl (me_var 3) (me_int)) (ma_nil)))))) (ma_nil)))))))))))
theorem sc_place : FnScope ["_law_own", "_law_own_word", "_law_own_at", "_law_found"] ["_law_own", "_law_own_word", "_law_own_at"] (defScope s_place) := ⟨rfl, rfl, rfl, by decide +kernel, rfl, by decide +kernel, by decide +kernel⟩
theorem ok_place (T : Tt K mg) (B : TbL tq_ K mg base) : OkD P w K mg base 2 dd_place ["_law_own", "_law_own_word", "_law_own_at"] f_place (Gk K rts) := okD_of (N := ["_law_own", "_law_own_word", "_law_own_at", "_law_found"]) (ps := ["_law_own", "_law_own_word", "_law_own_at"]) (m := b_place) (d := dd_place) (G := Gk K rts) T 32 sc_place fun cdv A outer s H E rg =>
   (ms_cons (ms_if (PW.pt (mw_or (mt_cmp (op_neU rg.r.units) os_ne (me_ix rfl (me_var 1) (me_int)) (me_str)) (mw_or1 (mt_cmp (op_neU rg.r.units) os_ne (me_ix rfl (me_var 2) (me_int)) (me_str))))) (ms_one (ms_ret (me_str))) (ms_nil))
    (ms_cons (ms_set 3 sc_place.nd rfl (Or.inl rfl) (me_call (OkD.calls (ok_lead T B) form_lead_2 hx_of rg) rfl (T.glo 49) (T.kp 30) (ma_cons (me_var 0) (ma_cons (me_var 1) (ma_nil)))))
    (ms_cons (ms_if (PW.pt (mw_and (mt_isN (me_var 3)) (mw_and1 (mt_not (mt_chain op_le op_lt os_cmp os_cmp (me_int) (me_ix rfl (me_var 2) (me_int)) (me_ix rfl (me_var 1) (me_int))))))) (ms_one (ms_ret (me_str))) (ms_nil))
    (ms_one (ms_ret (me_var 3))))))
theorem sc_due : FnScope ["_law_own", "_law_deed", "_law_kind", "_law_found", "_law_number", "_law_place_here"] ["_law_own", "_law_deed"] (defScope s_due) := ⟨rfl, rfl, rfl, by decide +kernel, rfl, by decide +kernel, by decide +kernel⟩
theorem ok_due (T : Tt K mg) (B : TbL tq_ K mg base) : OkD P w K mg base 3 dd_due ["_law_own", "_law_deed"] f_due (Gk K rts) := okD_of (N := ["_law_own", "_law_deed", "_law_kind", "_law_found", "_law_number", "_law_place_here"]) (ps := ["_law_own", "_law_deed"]) (m := b_due) (d := dd_due) (G := Gk K rts) T 33 sc_due fun cdv A outer s H E rg =>
   (ms_cons (ms_set 2 sc_due.nd rfl (Or.inl rfl) (me_ix rfl (me_var 1) (me_int)))
    (ms_cons (ms_if (mt_cmp (op_eqU rg.r.units) os_eq (me_var 2) (me_str)) (ms_one (ms_ret (me_call (OkD.calls (ok_make T B) form_make_3 hx_of rg) rfl (T.glo 48) (T.kp 29) (ma_cons (me_var 0) (ma_cons (me_ix rfl (me_var 1) (me_int)) (ma_cons (me_ix rfl (me_var 1) (me_int)) (ma_nil))))))) (ms_nil))
    (ms_cons (ms_if (mt_cmp (op_eqU rg.r.units) os_eq (me_var 2) (me_str)) (ms_one (ms_ret (me_call (OkD.calls (ok_part T B) form_part_4 hx_of rg) rfl (T.glo 50) (T.kp 31) (ma_cons (me_var 0) (ma_cons (me_ix rfl (me_var 1) (me_int)) (ma_cons (me_ix rfl (me_var 1) (me_int)) (ma_cons (me_ix rfl (me_var 1) (me_int)) (ma_nil)))))))) (ms_nil))
    (ms_cons (ms_if (mt_cmp (op_eqU rg.r.units) os_eq (me_var 2) (me_str)) (ms_cons (ms_set 3 sc_due.nd rfl (Or.inl rfl) (me_if (mt_cmp (op_eqU rg.r.units) os_eq (me_ix rfl (me_ix rfl (me_var 1) (me_int)) (me_int)) (me_str)) (me_call (OkD.calls (ok_lead T B) form_lead_2 hx_of rg) rfl (T.glo 49) (T.kp 30) (ma_cons (me_var 0) (ma_cons (me_ix rfl (me_var 1) (me_int)) (ma_nil)))) (me_str)))
    (ms_one (ms_ret (me_if (mt_isN (me_var 3)) (me_tup (ma_cons (me_str) (ma_cons (me_tup (ma_cons (me_str) (ma_cons (me_ix rfl (me_ix rfl (me_var 1) (me_int)) (me_int)) (ma_nil)))) (ma_nil)))) (me_tup (ma_cons (me_str) (ma_cons (me_var 3) (ma_nil)))))))) (ms_nil))
    (ms_cons (ms_set 3 sc_due.nd rfl (Or.inl rfl) (me_call (OkD.calls (ok_place T B) form_place_3 hx_of rg) rfl (T.glo 51) (T.kp 32) (ma_cons (me_var 0) (ma_cons (me_ix rfl (me_var 1) (me_int)) (ma_cons (me_ix rfl (me_var 1) (me_int)) (ma_nil))))))
    (ms_cons (ms_if (mt_notN (me_var 3)) (ms_one (ms_ret (me_tup (ma_cons (me_str) (ma_cons (me_var 3) (ma_nil)))))) (ms_nil))
    (ms_cons (ms_par (i := 4) (j := 5) rfl sc_due.nd rfl rfl (by decide) rfl rfl (ma_cons (me_ix rfl (me_ix rfl (me_var 1) (me_int)) (me_int)) (ma_cons (me_addK rfl (me_ix rfl (me_ix rfl (me_var 1) (me_int)) (me_int)) (me_ix rfl (me_ix rfl (me_var 1) (me_int)) (me_int))) (ma_nil))))
    (ms_cons (ms_expr (me_bm rfl PySem.F.plainAttrs_list PySem.F.slot_list_append PySem.F.type_list_append mt_append bs_append (.inl rfl) (me_dget (hu_of rg.r) (me_var 0) (me_str)) (ma_cons (me_var 4) (ma_nil))))
    (ms_cons (ms_if (mt_cmp (op_eqU rg.r.units) os_eq (me_var 2) (me_str)) (ms_one (ms_ret (me_tup (ma_cons (me_str) (ma_cons (me_ix rfl (me_dget (hu_of rg.r) (me_ix rfl (me_dget (hu_of rg.r) (me_var 0) (me_str)) (me_var 4)) (me_str)) (me_var 5)) (ma_nil)))))) (ms_nil))
    (ms_cons (ms_asg (me_ix rfl (me_var 1) (me_int)) (mg_ix (me_dget (hu_of rg.r) (me_ix rfl (me_dget (hu_of rg.r) (me_var 0) (me_str)) (me_var 4)) (me_str)) (me_var 5)))
    (ms_one (ms_ret (me_tup (ma_cons (me_str) (ma_cons (me_non) (ma_nil))))))))))))))))
theorem sc_Rooms_part_of : FnScope ["self", "word", "start", "many", "first", "size"] ["self", "word", "start", "many"] (defScope s_Rooms_part_of) := ⟨rfl, rfl, rfl, by decide +kernel, rfl, by decide +kernel, by decide +kernel⟩
theorem ok_Rooms_part_of (T : Tt K mg) (B : TbL tq_ K mg base) : OkD P w K mg base 4 dd_Rooms_part_of ["self", "word", "start", "many"] f_Rooms_part_of (Gk K rts) := okD_of (N := ["self", "word", "start", "many", "first", "size"]) (ps := ["self", "word", "start", "many"]) (m := b_Rooms_part_of) (d := dd_Rooms_part_of) (G := Gk K rts) T 34 sc_Rooms_part_of fun cdv A outer s H E rg =>
   (ms_cons (ms_if (mt_cmp (op_neU rg.r.units) os_ne (me_ix rfl (me_var 1) (me_int)) (me_str)) (ms_one (ms_raise (c := 2) (xc_Trap T) rg (by decide) rfl tk_of rfl (T.glo 2) (ma_cons (me_str) (ma_nil)) (by decide))) (ms_nil))
    (ms_cons (ms_par (i := 4) (j := 5) rfl sc_Rooms_part_of.nd rfl rfl (by decide) rfl rfl (ma_cons (me_call (OkD.calls (ok_number_of T B) form_number_of_1 hx_of rg) rfl (T.glo 16) (T.kp 4) (ma_cons (me_var 2) (ma_nil))) (ma_cons (me_call (OkD.calls (ok_number_of T B) form_number_of_1 hx_of rg) rfl (T.glo 16) (T.kp 4) (ma_cons (me_var 3) (ma_nil))) (ma_nil))))
    (ms_cons (ms_expr (me_meth (by decide +kernel) (meths_cons (T.cls 9) (T.meth 21) (OkD.calls (ok_Rooms_need_there T B) form_Rooms_need_there_2 hx_of rg) meths_nil) (me_var 0) (ma_cons (me_var 1) (ma_nil))))
    (ms_cons (ms_if (PW.pt (mw_or (mt_cmp op_lt os_cmp (me_var 4) (me_int)) (mw_or (mt_cmp op_lt os_cmp (me_var 5) (me_int)) (mw_or1 (mt_cmp op_gt os_cmp (me_addK rfl (me_var 4) (me_var 5)) (me_ix rfl (me_var 1) (me_int))))))) (ms_one (ms_raise (c := 2) (xc_Trap T) rg (by decide) rfl tk_of rfl (T.glo 2) (ma_cons (me_str) (ma_nil)) (by decide))) (ms_nil))
    (ms_one (ms_ret (me_tup (ma_cons (me_str) (ma_cons (me_ix rfl (me_var 1) (me_int)) (ma_cons (me_addK rfl (me_ix rfl (me_var 1) (me_int)) (me_var 4)) (ma_cons (me_var 5) (ma_nil))))))))))))
theorem sc_Rooms_size_of : FnScope ["self", "word"] ["self", "word"] (defScope s_Rooms_size_of) := ⟨rfl, rfl, rfl, by decide +kernel, rfl, by decide +kernel, by decide +kernel⟩
theorem ok_Rooms_size_of (T : Tt K mg) (B : TbL tq_ K mg base) : OkD P w K mg base 4 dd_Rooms_size_of ["self", "word"] f_Rooms_size_of (Gk K rts) := okD_of (N := ["self", "word"]) (ps := ["self", "word"]) (m := b_Rooms_size_of) (d := dd_Rooms_size_of) (G := Gk K rts) T 35 sc_Rooms_size_of fun cdv A outer s H E rg =>
   (ms_cons (ms_if (mt_cmp (op_neU rg.r.units) os_ne (me_ix rfl (me_var 1) (me_int)) (me_str)) (ms_one (ms_raise (c := 2) (xc_Trap T) rg (by decide) rfl tk_of rfl (T.glo 2) (ma_cons (me_str) (ma_nil)) (by decide))) (ms_nil))
    (ms_cons (ms_expr (me_meth (by decide +kernel) (meths_cons (T.cls 9) (T.meth 21) (OkD.calls (ok_Rooms_need_there T B) form_Rooms_need_there_2 hx_of rg) meths_nil) (me_var 0) (ma_cons (me_var 1) (ma_nil))))
    (ms_one (ms_ret (me_tup (ma_cons (me_str) (ma_cons (me_ix rfl (me_var 1) (me_int)) (ma_nil))))))))
theorem sc_asked : FnScope ["_law_rooms", "_law_deed", "_law_by_name", "_law_kind", "_law_rest"] ["_law_rooms", "_law_deed", "_law_by_name"] (defScope s_asked) := ⟨rfl, rfl, rfl, by decide +kernel, rfl, by decide +kernel, by decide +kernel⟩
theorem ok_asked (T : Tt K mg) (B : TbL tq_ K mg base) : OkD P w K mg base 6 dd_asked ["_law_rooms", "_law_deed", "_law_by_name"] f_asked (Gk K rts) := okD_of (N := ["_law_rooms", "_law_deed", "_law_by_name", "_law_kind", "_law_rest"]) (ps := ["_law_rooms", "_law_deed", "_law_by_name"]) (m := b_asked) (d := dd_asked) (G := Gk K rts) T 36 sc_asked fun cdv A outer s H E rg =>
   (ms_cons (ms_par (i := 3) (j := 4) rfl sc_asked.nd rfl rfl (by decide) rfl rfl (ma_cons (me_ix rfl (me_var 1) (me_int)) (ma_cons (me_slX rfl (me_var 1) (mo_some (me_int)) mo_none) (ma_nil))))
    (ms_cons (ms_if (mt_cmp (op_eqU rg.r.units) os_eq (me_var 3) (me_str)) (ms_one (ms_ret (me_if (mt_val (me_var 2)) (me_methK0 (by decide +kernel) (meths_cons (T.cls 9) (T.meth 20) (OkD.calls (ok_Rooms_make_room T B) form_Rooms_make_room_1_owner_many hx_of rg) meths_nil) (me_var 0) (mk_cons (me_ix rfl (me_var 4) (me_int)) (mk_cons (me_ix rfl (me_var 4) (me_int)) (mk_nil)))) (me_meth (by decide +kernel) (meths_cons (T.cls 9) (T.meth 20) (OkD.calls (ok_Rooms_make_room T B) form_Rooms_make_room_3 hx_of rg) meths_nil) (me_var 0) (ma_cons (me_ix rfl (me_var 4) (me_int)) (ma_cons (me_ix rfl (me_var 4) (me_int)) (ma_nil))))))) (ms_nil))
    (ms_cons (ms_if (mt_cmp (op_eqU rg.r.units) os_eq (me_var 3) (me_str)) (ms_one (ms_ret (me_if (mt_val (me_var 2)) (me_methK0 (by decide +kernel) (meths_cons (T.cls 9) (T.meth 24) (OkD.calls (ok_Rooms_word_at T B) form_Rooms_word_at_1_at_word hx_of rg) meths_nil) (me_var 0) (mk_cons (me_ix rfl (me_var 4) (me_int)) (mk_cons (me_ix rfl (me_var 4) (me_int)) (mk_nil)))) (me_meth (by decide +kernel) (meths_cons (T.cls 9) (T.meth 24) (OkD.calls (ok_Rooms_word_at T B) form_Rooms_word_at_3 hx_of rg) meths_nil) (me_var 0) (ma_cons (me_ix rfl (me_var 4) (me_int)) (ma_cons (me_ix rfl (me_var 4) (me_int)) (ma_nil))))))) (ms_nil))
    (ms_cons (ms_if (mt_cmp (op_eqU rg.r.units) os_eq (me_var 3) (me_str)) (ms_cons (ms_if (mt_val (me_var 2)) (ms_one (ms_ret (me_methK0 (by decide +kernel) (meths_cons (T.cls 9) (T.meth 23) (OkD.calls (ok_Rooms_put_at T B) form_Rooms_put_at_1_other_at_word hx_of rg) meths_nil) (me_var 0) (mk_cons (me_ix rfl (me_var 4) (me_int)) (mk_cons (me_ix rfl (me_var 4) (me_int)) (mk_cons (me_ix rfl (me_var 4) (me_int)) (mk_nil))))))) (ms_nil))
    (ms_one (ms_ret (me_meth (by decide +kernel) (meths_cons (T.cls 9) (T.meth 23) (OkD.calls (ok_Rooms_put_at T B) form_Rooms_put_at_4 hx_of rg) meths_nil) (me_var 0) (ma_cons (me_ix rfl (me_var 4) (me_int)) (ma_cons (me_ix rfl (me_var 4) (me_int)) (ma_cons (me_ix rfl (me_var 4) (me_int)) (ma_nil)))))))) (ms_nil))
    (ms_cons (ms_if (mt_cmp (op_eqU rg.r.units) os_eq (me_var 3) (me_str)) (ms_cons (ms_if (mt_val (me_var 2)) (ms_one (ms_ret (me_methK0 (by decide +kernel) (meths_cons (T.cls 9) (T.meth 54) (OkD.calls (ok_Rooms_part_of T B) form_Rooms_part_of_1_many_start_word hx_of rg) meths_nil) (me_var 0) (mk_cons (me_ix rfl (me_var 4) (me_int)) (mk_cons (me_ix rfl (me_var 4) (me_int)) (mk_cons (me_ix rfl (me_var 4) (me_int)) (mk_nil))))))) (ms_nil))
    (ms_one (ms_ret (me_meth (by decide +kernel) (meths_cons (T.cls 9) (T.meth 54) (OkD.calls (ok_Rooms_part_of T B) form_Rooms_part_of_4 hx_of rg) meths_nil) (me_var 0) (ma_cons (me_ix rfl (me_var 4) (me_int)) (ma_cons (me_ix rfl (me_var 4) (me_int)) (ma_cons (me_ix rfl (me_var 4) (me_int)) (ma_nil)))))))) (ms_nil))
    (ms_one (ms_ret (me_if (mt_val (me_var 2)) (me_methK0 (by decide +kernel) (meths_cons (T.cls 9) (T.meth 55) (OkD.calls (ok_Rooms_size_of T B) form_Rooms_size_of_1_word hx_of rg) meths_nil) (me_var 0) (mk_cons (me_ix rfl (me_var 4) (me_int)) (mk_nil))) (me_meth (by decide +kernel) (meths_cons (T.cls 9) (T.meth 55) (OkD.calls (ok_Rooms_size_of T B) form_Rooms_size_of_2 hx_of rg) meths_nil) (me_var 0) (ma_cons (me_ix rfl (me_var 4) (me_int)) (ma_nil)))))))))))
theorem sc_done : FnScope ["_law_rooms", "_law_deed", "_law_by_name", "e", "_law_caught", "_law_found"] ["_law_rooms", "_law_deed", "_law_by_name"] (defScope s_done) := ⟨rfl, rfl, rfl, by decide +kernel, rfl, by decide +kernel, by decide +kernel⟩
theorem ok_done (T : Tt K mg) (B : TbL tq_ K mg base) : OkD P w K mg base 7 dd_done ["_law_rooms", "_law_deed", "_law_by_name"] f_done (Gk K rts) := okD_of (N := ["_law_rooms", "_law_deed", "_law_by_name", "e", "_law_caught", "_law_found"]) (ps := ["_law_rooms", "_law_deed", "_law_by_name"]) (m := b_done) (d := dd_done) (G := Gk K rts) T 37 sc_done fun cdv A outer s H E rg =>
   (ms_cons (ms_asg (me_tup (ma_cons (me_non) (ma_cons (me_non) (ma_nil)))) (mg_tup rfl rfl (mgs_cons (mg_name (i := 4) sc_done.nd rfl (Or.inl rfl)) (mgs_cons (mg_name (i := 5) sc_done.nd rfl (Or.inl rfl)) (mgs_nil)))))
    (ms_cons (ms_try (m := fun cls => PySem.W.exmOne K cls (.ref (ga K "Trap"))) (i := 3) (ks := [1, 2]) (cs := [2]) rfl rfl rfl sc_done.nd rfl rfl (tst_one (names_own (x := "Trap") (by rfl) (T.glo 2))) tk_of (tryB1_ok (exb_7 T)) (fun W pn xe tk po => ms_one (ms_set 5 sc_done.nd rfl (Or.inl rfl) (me_call (OkD.calls (ok_asked T B) form_asked_3 (passW tk) rg) rfl (T.glo 56) (T.kp 36) (ma_cons (me_var 0) (ma_cons (me_var 1) (ma_cons (me_var 2) (ma_nil))))))) (fun a pn => ms_one (ms_set 4 sc_done.nd rfl (Or.inl rfl) (me_var 3))))
    (ms_one (ms_ret (me_if (mt_isN (me_var 4)) (me_tup (ma_cons (me_str) (ma_cons (me_var 5) (ma_nil)))) (me_tup (ma_cons (me_str) (ma_cons (me_xf rfl (hX_cons (x := "Trap") rfl (exb_3 T) (by simp) hX_nil) (by decide +kernel) (me_var 4)) (ma_nil)))))))))
theorem sc_noted : FnScope ["_law_own", "_law_told"] ["_law_own", "_law_told"] (defScope s_noted) := ⟨rfl, rfl, rfl, by decide +kernel, rfl, by decide +kernel, by decide +kernel⟩
theorem ok_noted (T : Tt K mg) (B : TbL tq_ K mg base) : OkD P w K mg base 1 dd_noted ["_law_own", "_law_told"] f_noted (Gk K rts) := okD_of (N := ["_law_own", "_law_told"]) (ps := ["_law_own", "_law_told"]) (m := b_noted) (d := dd_noted) (G := Gk K rts) T 38 sc_noted fun cdv A outer s H E rg =>
   (ms_one (ms_if (PW.pt (mw_and (mt_cmp (op_eqU rg.r.units) os_eq (me_ix rfl (me_var 1) (me_int)) (me_str)) (mw_and (mt_notN (me_ix rfl (me_var 1) (me_int))) (mw_and1 (mt_cmp (op_eqU rg.r.units) os_eq (me_ix rfl (me_ix rfl (me_var 1) (me_int)) (me_int)) (me_str)))))) (ms_one (ms_expr (me_bm rfl PySem.F.plainAttrs_list PySem.F.slot_list_append PySem.F.type_list_append mt_append bs_append (.inl rfl) (me_dget (hu_of rg.r) (me_var 0) (me_str)) (ma_cons (me_ix rfl (me_var 1) (me_int)) (ma_nil))))) (ms_nil)))
theorem sc_Rooms_len : FnScope ["self"] ["self"] (defScope s_Rooms_len) := ⟨rfl, rfl, rfl, by decide +kernel, rfl, by decide +kernel, by decide +kernel⟩
theorem ok_Rooms_len (T : Tt K mg) (B : TbL tq_ K mg base) : OkD P w K mg base 1 dd_Rooms_len ["self"] f_Rooms_len (Gk K rts) := okD_of (N := ["self"]) (ps := ["self"]) (m := b_Rooms_len) (d := dd_Rooms_len) (G := Gk K rts) T 39 sc_Rooms_len fun cdv A outer s H E rg =>
   (ms_one (ms_ret (me_bi cl_len bs_len rfl (T.free 18) rfl (ma_cons (me_fld rfl (hC_cons (T.cls 9) (T.noat 11) hC_nil) (by decide +kernel) (me_var 0)) (ma_nil)))))
theorem sc_Rooms_need_made : FnScope ["self", "number"] ["self", "number"] (defScope s_Rooms_need_made) := ⟨rfl, rfl, rfl, by decide +kernel, rfl, by decide +kernel, by decide +kernel⟩
theorem ok_Rooms_need_made (T : Tt K mg) (B : TbL tq_ K mg base) : OkD P w K mg base 3 dd_Rooms_need_made ["self", "number"] f_Rooms_need_made (Gk K rts) := okD_of (N := ["self", "number"]) (ps := ["self", "number"]) (m := b_Rooms_need_made) (d := dd_Rooms_need_made) (G := Gk K rts) T 40 sc_Rooms_need_made fun cdv A outer s H E rg =>
   (ms_one (ms_if (PW.pt (mw_or (mt_not (mt_val (me_call (OkD.calls (ok_is_number T B) form_is_number_1 hx_of rg) rfl (T.glo 25) (T.kp 10) (ma_cons (me_var 1) (ma_nil))))) (mw_or1 (mt_not (mt_chain op_le op_lt os_cmp os_cmp (me_int) (me_var 1) (me_bi cl_len bs_len rfl (T.free 18) rfl (ma_cons (me_fld rfl (hC_cons (T.cls 9) (T.noat 11) hC_nil) (by decide +kernel) (me_var 0)) (ma_nil)))))))) (ms_one (ms_raise (c := 1) (xc_NoSuch T) rg (by decide) rfl tk_of rfl (T.glo 0) (ma_cons (me_var 1) (ma_nil)) (by decide))) (ms_nil)))
theorem sc_Rooms_places_of : FnScope ["self", "number", "places"] ["self", "number"] (defScope s_Rooms_places_of) := ⟨rfl, rfl, rfl, by decide +kernel, rfl, by decide +kernel, by decide +kernel⟩
theorem ok_Rooms_places_of (T : Tt K mg) (B : TbL tq_ K mg base) : OkD P w K mg base 4 dd_Rooms_places_of ["self", "number"] f_Rooms_places_of (Gk K rts) := okD_of (N := ["self", "number", "places"]) (ps := ["self", "number"]) (m := b_Rooms_places_of) (d := dd_Rooms_places_of) (G := Gk K rts) T 41 sc_Rooms_places_of fun cdv A outer s H E rg =>
   (ms_cons (ms_expr (me_meth (by decide +kernel) (meths_cons (T.cls 9) (T.meth 60) (OkD.calls (ok_Rooms_need_made T B) form_Rooms_need_made_2 hx_of rg) meths_nil) (me_var 0) (ma_cons (me_var 1) (ma_nil))))
    (ms_cons (ms_set 2 sc_Rooms_places_of.nd rfl (Or.inl rfl) (me_ix rfl (me_fld rfl (hC_cons (T.cls 9) (T.noat 12) hC_nil) (by decide +kernel) (me_var 0)) (me_var 1)))
    (ms_one (ms_ret (me_if (mt_isN (me_var 2)) (me_lst (ma_nil)) (me_bty call_list_of bs_list rfl (T.free 35) rfl (ma_cons (me_var 2) (ma_nil))))))))
theorem sc_spoilt : FnScope ["_law_rooms", "_law_told", "_law_number"] ["_law_rooms"] (defScope s_spoilt) := ⟨rfl, rfl, rfl, by decide +kernel, rfl, by decide +kernel, by decide +kernel⟩
theorem ok_spoilt (T : Tt K mg) (B : TbL tq_ K mg base) : OkD P w K mg base 5 dd_spoilt ["_law_rooms"] f_spoilt (Gk K rts) := okD_of (N := ["_law_rooms", "_law_told", "_law_number"]) (ps := ["_law_rooms"]) (m := b_spoilt) (d := dd_spoilt) (G := Gk K rts) T 42 sc_spoilt fun cdv A outer s H E rg =>
   (ms_one (ms_for hp_of rfl (mi_seq rfl (me_addK rfl (me_lstK (ma_cons (me_meth0 (by decide +kernel) (meths_cons (T.cls 9) (T.meth 28) (OkD.calls (ok_Rooms_there T B) form_Rooms_there_1 hx_of rg) meths_nil) (me_var 0)) (ma_cons (me_meth0 (by decide +kernel) (meths_cons (T.cls 9) (T.meth 29) (OkD.calls (ok_Rooms_owners T B) form_Rooms_owners_1 hx_of rg) meths_nil) (me_var 0)) (ma_nil)))) (me_compK (own := [("_law_number", 2)]) (one := true) (is := [2]) rfl sc_spoilt.nd (mi_rng1 (h1 := aLen1) rfl (T.free 41) (ma_cons (me_bi (cl_lenU (G := Gk K rts) rfl (slotF_cons (c := 0) (T.meth 59) (OkD.callsIn (ok_Rooms_len T B) form_Rooms_len_1 (rg_in1 rg) (fun I => I.env0.in1)) slotF_nil)) bs_lenU rfl (T.free 18) rfl (ma_cons (me_var 0) (ma_nil))) (ma_nil))) (blkOk_by (N := ["_law_rooms", "_law_told", "_law_number"]) (sc := defScope s_spoilt) (by decide +kernel)) (bd_one (by decide)) (fun _ _ _ _ _ => pg_name (i := 2) sc_spoilt.nd rfl (by first | exact Or.inl rfl | exact Or.inr rfl)) (fun _ _ _ _ _ => mts_nil) (fun _ _ _ _ _ => me_meth (by decide +kernel) (meths_cons (T.cls 9) (T.meth 61) (OkD.calls (ok_Rooms_places_of T B) form_Rooms_places_of_2 passEW rg) meths_nil) (me_var 0) (ma_cons (me_var 2) (ma_nil)))))) (mg_name (i := 1) sc_spoilt.nd rfl (Or.inl rfl)) (ms_cons (ms_expr (me_bm rfl PySem.F.plainAttrs_list PySem.F.slot_list_append PySem.F.type_list_append mt_append bs_append (.inl rfl) (me_var 1) (ma_cons (me_tup (ma_cons (me_str) (ma_cons (me_int) (ma_nil)))) (ma_nil))))
    (ms_cons (ms_expr (me_bm0 rfl PySem.F.plainAttrs_list PySem.F.slot_list_reverse PySem.F.type_list_reverse mt_reverse bs_reverse (.inl rfl) (me_var 1)))
    (ms_one (ms_expr (me_bm0 rfl PySem.F.plainAttrs_list PySem.F.slot_list_clear PySem.F.type_list_clear mt_clear bs_clear (.inl rfl) (me_var 1))))))))
theorem sc_Rooms_touches : FnScope ["self"] ["self"] (defScope s_Rooms_touches) := ⟨rfl, rfl, rfl, by decide +kernel, rfl, by decide +kernel, by decide +kernel⟩
theorem ok_Rooms_touches (T : Tt K mg) (B : TbL tq_ K mg base) : OkD P w K mg base 1 dd_Rooms_touches ["self"] f_Rooms_touches (Gk K rts) := okD_of (N := ["self"]) (ps := ["self"]) (m := b_Rooms_touches) (d := dd_Rooms_touches) (G := Gk K rts) T 43 sc_Rooms_touches fun cdv A outer s H E rg =>
   (ms_one (ms_ret (me_bty call_tuple_of bs_tuple rfl (T.free 63) rfl (ma_cons (me_fld rfl (hC_cons (T.cls 9) (T.noat 13) hC_nil) (by decide +kernel) (me_var 0)) (ma_nil)))))
theorem sc_Rooms_repr : FnScope ["self"] ["self"] (defScope s_Rooms_repr) := ⟨rfl, rfl, rfl, by decide +kernel, rfl, by decide +kernel, by decide +kernel⟩
theorem ok_Rooms_repr (T : Tt K mg) (B : TbL tq_ K mg base) : OkD P w K mg base 1 dd_Rooms_repr ["self"] f_Rooms_repr (Gk K rts) := okD_of (N := ["self"]) (ps := ["self"]) (m := b_Rooms_repr) (d := dd_Rooms_repr) (G := Gk K rts) T 44 sc_Rooms_repr fun cdv A outer s H E rg =>
   (ms_one (ms_ret (me_fs (.cons (me_str) (.cons (me_fmt (me_bi cl_len bs_len rfl (T.free 18) rfl (ma_cons (me_fld rfl (hC_cons (T.cls 9) (T.noat 11) hC_nil) (by decide +kernel) (me_var 0)) (ma_nil)))) (.cons (me_str) .nil))))))
theorem sc_Rooms_owner_of : FnScope ["self", "number"] ["self", "number"] (defScope s_Rooms_owner_of) := ⟨rfl, rfl, rfl, by decide +kernel, rfl, by decide +kernel, by decide +kernel⟩
theorem ok_Rooms_owner_of (T : Tt K mg) (B : TbL tq_ K mg base) : OkD P w K mg base 4 dd_Rooms_owner_of ["self", "number"] f_Rooms_owner_of (Gk K rts) := okD_of (N := ["self", "number"]) (ps := ["self", "number"]) (m := b_Rooms_owner_of) (d := dd_Rooms_owner_of) (G := Gk K rts) T 45 sc_Rooms_owner_of fun cdv A outer s H E rg =>
   (ms_cons (ms_expr (me_meth (by decide +kernel) (meths_cons (T.cls 9) (T.meth 60) (OkD.calls (ok_Rooms_need_made T B) form_Rooms_need_made_2 hx_of rg) meths_nil) (me_var 0) (ma_cons (me_var 1) (ma_nil))))
    (ms_one (ms_ret (me_ix rfl (me_fld rfl (hC_cons (T.cls 9) (T.noat 11) hC_nil) (by decide +kernel) (me_var 0)) (me_var 1)))))
theorem sc_Rooms_is_gone : FnScope ["self", "number"] ["self", "number"] (defScope s_Rooms_is_gone) := ⟨rfl, rfl, rfl, by decide +kernel, rfl, by decide +kernel, by decide +kernel⟩
theorem ok_Rooms_is_gone (T : Tt K mg) (B : TbL tq_ K mg base) : OkD P w K mg base 4 dd_Rooms_is_gone ["self", "number"] f_Rooms_is_gone (Gk K rts) := okD_of (N := ["self", "number"]) (ps := ["self", "number"]) (m := b_Rooms_is_gone) (d := dd_Rooms_is_gone) (G := Gk K rts) T 46 sc_Rooms_is_gone fun cdv A outer s H E rg =>
   (ms_cons (ms_expr (me_meth (by decide +kernel) (meths_cons (T.cls 9) (T.meth 60) (OkD.calls (ok_Rooms_need_made T B) form_Rooms_need_made_2 hx_of rg) meths_nil) (me_var 0) (ma_cons (me_var 1) (ma_nil))))
    (ms_one (ms_ret (me_isN (me_ix rfl (me_fld rfl (hC_cons (T.cls 9) (T.noat 12) hC_nil) (by decide +kernel) (me_var 0)) (me_var 1))))))
theorem sc_alike : FnScope ["_law_rooms", "_law_own", "_law_rows", "_law_there", "_law_told", "_law_due_here", "_law_number", "_law_row", "_law_places"] ["_law_rooms", "_law_own"] (defScope s_alike) := ⟨rfl, rfl, rfl, by decide +kernel, rfl, by decide +kernel, by decide +kernel⟩
theorem ok_alike (T : Tt K mg) (B : TbL tq_ K mg base) : OkD P w K mg base 5 dd_alike ["_law_rooms", "_law_own"] f_alike (Gk K rts) := okD_of (N := ["_law_rooms", "_law_own", "_law_rows", "_law_there", "_law_told", "_law_due_here", "_law_number", "_law_row", "_law_places"]) (ps := ["_law_rooms", "_law_own"]) (m := b_alike) (d := dd_alike) (G := Gk K rts) T 47 sc_alike fun cdv A outer s H E rg =>
   (ms_cons (ms_set 2 sc_alike.nd rfl (Or.inr rfl) (me_dget (hu_of rg.r) (me_var 1) (me_str)))
    (ms_cons (ms_setCompK 3 (own := [("_law_number", 6), ("_law_row", 7)]) (one := false) (is := [6, 7]) rfl sc_alike.nd rfl rfl (sw_true rfl rfl rfl (by decide +kernel)) (mi_enum rfl rfl (T.free 27) (ma_cons (me_var 2) ma_nil)) (blkOk_by (N := ["_law_rooms", "_law_own", "_law_rows", "_law_there", "_law_told", "_law_due_here", "_law_number", "_law_row", "_law_places"]) (sc := defScope s_alike) (by decide +kernel)) (bd_tup (by decide)) (fun _ _ _ _ _ => pg_tup rfl (pgs_cons (pg_name (i := 6) sc_alike.nd rfl (by first | exact Or.inl rfl | exact Or.inr rfl)) (pgs_cons (pg_name (i := 7) sc_alike.nd rfl (by first | exact Or.inl rfl | exact Or.inr rfl)) (pgs_nil))) rfl rfl) (fun _ _ _ _ _ => mts_one (mt_notN (me_dget (hu_of rg.r) (me_var 7) (me_str)))) (fun _ _ _ _ _ => me_var 6))
    (ms_cons (ms_set 4 sc_alike.nd rfl (Or.inl rfl) (me_lst (ma_cons (me_meth0 (by decide +kernel) (meths_cons (T.cls 9) (T.meth 64) (OkD.calls (ok_Rooms_touches T B) form_Rooms_touches_1 hx_of rg) meths_nil) (me_var 0)) (ma_cons (me_meth0 (by decide +kernel) (meths_cons (T.cls 9) (T.meth 28) (OkD.calls (ok_Rooms_there T B) form_Rooms_there_1 hx_of rg) meths_nil) (me_var 0)) (ma_cons (me_bi (cl_lenU (G := Gk K rts) rfl (slotF_cons (c := 0) (T.meth 59) (OkD.callsIn (ok_Rooms_len T B) form_Rooms_len_1 (rg_in1 rg) (fun I => I.env0.in1)) slotF_nil)) bs_lenU rfl (T.free 18) rfl (ma_cons (me_var 0) (ma_nil))) (ma_cons (me_bi (cl_reprU (G := Gk K rts) rfl rg (slotF_cons (c := 0) (T.meth 65) (OkD.callsIn (ok_Rooms_repr T B) form_Rooms_repr_1 (rg_in1 rg) (fun I => I.env0.in1)) slotF_nil)) bs_reprU rfl (T.free 53) rfl (ma_cons (me_var 0) (ma_nil))) (ma_nil)))))))
    (ms_cons (ms_set 5 sc_alike.nd rfl (Or.inl rfl) (me_lst (ma_cons (me_bty call_tuple_of bs_tuple rfl (T.free 63) rfl (ma_cons (me_dget (hu_of rg.r) (me_var 1) (me_str)) (ma_nil))) (ma_cons (me_var 3) (ma_cons (me_bi cl_len bs_len rfl (T.free 18) rfl (ma_cons (me_var 2) (ma_nil))) (ma_cons (me_addK rfl (me_addK rfl (me_str) (me_bty cl_str bs_str rfl (T.free 66) rfl (ma_cons (me_bi cl_len bs_len rfl (T.free 18) rfl (ma_cons (me_var 2) (ma_nil))) (ma_nil)))) (me_str)) (ma_nil)))))))
    (ms_cons (ms_expr (me_bm rfl PySem.F.plainAttrs_list PySem.F.slot_list_append PySem.F.type_list_append mt_append bs_append (.inl rfl) (me_var 4) (ma_cons (me_meth0 (by decide +kernel) (meths_cons (T.cls 9) (T.meth 29) (OkD.calls (ok_Rooms_owners T B) form_Rooms_owners_1 hx_of rg) meths_nil) (me_var 0)) (ma_nil))))
    (ms_cons (ms_expr (me_bm rfl PySem.F.plainAttrs_list PySem.F.slot_list_append PySem.F.type_list_append mt_append bs_append (.inl rfl) (me_var 5) (ma_cons (me_sortSet rfl rfl rfl (T.free 26) rfl rfl (T.free 67) rfl (me_compK (own := [("_law_number", 6)]) (one := true) (is := [6]) rfl sc_alike.nd (mi_seq rfl (me_var 3)) (blkOk_by (N := ["_law_rooms", "_law_own", "_law_rows", "_law_there", "_law_told", "_law_due_here", "_law_number", "_law_row", "_law_places"]) (sc := defScope s_alike) (by decide +kernel)) (bd_one (by decide)) (fun _ _ _ _ _ => pg_name (i := 6) sc_alike.nd rfl (by first | exact Or.inl rfl | exact Or.inr rfl)) (fun _ _ _ _ _ => mts_nil) (fun _ _ _ _ _ => me_dget (hu_of rg.r) (me_ix rfl (me_var 2) (me_var 6)) (me_str)))) (ma_nil))))
    (ms_cons (ms_for hp_of rfl (mi_enum rfl rfl (T.free 27) (ma_cons (me_var 2) ma_nil)) (mg_tup rfl rfl (mgs_cons (mg_name (i := 6) sc_alike.nd rfl (Or.inl rfl)) (mgs_cons (mg_name (i := 7) sc_alike.nd rfl (Or.inl rfl)) (mgs_nil)))) (ms_cons (ms_set 4 sc_alike.nd rfl (Or.inl rfl) (me_addK rfl (me_var 4) (me_lstK (ma_cons (me_meth (by decide +kernel) (meths_cons (T.cls 9) (T.meth 68) (OkD.calls (ok_Rooms_owner_of T B) form_Rooms_owner_of_2 hx_of rg) meths_nil) (me_var 0) (ma_cons (me_var 6) (ma_nil))) (ma_cons (me_meth (by decide +kernel) (meths_cons (T.cls 9) (T.meth 69) (OkD.calls (ok_Rooms_is_gone T B) form_Rooms_is_gone_2 hx_of rg) meths_nil) (me_var 0) (ma_cons (me_var 6) (ma_nil))) (ma_cons (me_meth (by decide +kernel) (meths_cons (T.cls 9) (T.meth 61) (OkD.calls (ok_Rooms_places_of T B) form_Rooms_places_of_2 hx_of rg) meths_nil) (me_var 0) (ma_cons (me_var 6) (ma_nil))) (ma_nil)))))))
    (ms_cons (ms_set 8 sc_alike.nd rfl (Or.inl rfl) (me_dget (hu_of rg.r) (me_var 7) (me_str)))
    (ms_one (ms_set 5 sc_alike.nd rfl (Or.inl rfl) (me_addK rfl (me_var 5) (me_lstK (ma_cons (me_dget (hu_of rg.r) (me_var 7) (me_str)) (ma_cons (me_isN (me_var 8)) (ma_cons (me_if (mt_isN (me_var 8)) (me_lstK (ma_nil)) (me_var 8)) (ma_nil)))))))))))
    (ms_one (ms_ret (me_cmp (op_eqU rg.r.units) os_eq (me_bi (cl_repr rg) bs_repr rfl (T.free 53) rfl (ma_cons (me_var 4) (ma_nil))) (me_bi (cl_repr rg) bs_repr rfl (T.free 53) rfl (ma_cons (me_var 5) (ma_nil)))))))))))))
theorem sc_kept : FnScope ["_law_own"] ["_law_own"] (defScope s_kept) := ⟨rfl, rfl, rfl, by decide +kernel, rfl, by decide +kernel, by decide +kernel⟩
theorem ok_kept (T : Tt K mg) (B : TbL tq_ K mg base) : OkD P w K mg base 1 dd_kept ["_law_own"] f_kept (Gk K rts) := okD_of (N := ["_law_own"]) (ps := ["_law_own"]) (m := b_kept) (d := dd_kept) (G := Gk K rts) T 48 sc_kept fun cdv A outer s H E rg =>
   (ms_one (ms_ret (me_bi (cl_reprR rg) bs_reprR rfl (T.free 53) rfl (ma_cons (me_tup (ma_cons (me_dget (hu_of rg.r) (me_var 0) (me_str)) (ma_cons (me_dget (hu_of rg.r) (me_var 0) (me_str)) (ma_cons (me_dget (hu_of rg.r) (me_var 0) (me_str)) (ma_nil))))) (ma_nil)))))
theorem sc_equal_right : FnScope ["_law_all_of", "_law_rooms", "_law_own", "_law_thing", "_law_own_other", "_law_its", "_law_is_same"] ["_law_all_of"] (defScope s_equal_right) := ⟨rfl, rfl, rfl, by decide +kernel, rfl, by decide +kernel, by decide +kernel⟩
theorem ok_equal_right (T : Tt K mg) (B : TbL tq_ K mg base) : OkD P w K mg base 4 dd_equal_right ["_law_all_of"] f_equal_right (Gk K rts) := okD_of (N := ["_law_all_of", "_law_rooms", "_law_own", "_law_thing", "_law_own_other", "_law_its", "_law_is_same"]) (ps := ["_law_all_of"]) (m := b_equal_right) (d := dd_equal_right) (G := Gk K rts) T 49 sc_equal_right fun cdv A outer s H E rg =>
   (ms_cons (ms_for hp_of rfl (mi_seq rfl (me_var 0)) (mg_tup rfl rfl (mgs_cons (mg_name (i := 1) sc_equal_right.nd rfl (Or.inl rfl)) (mgs_cons (mg_name (i := 2) sc_equal_right.nd rfl (Or.inl rfl)) (mgs_nil)))) (ms_cons (ms_for hp_of rfl (mi_seq rfl (me_var 0)) (mg_tup rfl rfl (mgs_cons (mg_name (i := 4) sc_equal_right.nd rfl (Or.inl rfl)) (mgs_cons (mg_name (i := 5) sc_equal_right.nd rfl (Or.inl rfl)) (mgs_nil)))) (ms_cons (ms_set 6 sc_equal_right.nd rfl (Or.inl rfl) (me_cmp (op_eqU rg.r.units) os_eq (me_call (OkD.calls (ok_kept T B) form_kept_1 hx_of rg) rfl (T.glo 71) (T.kp 48) (ma_cons (me_var 2) (ma_nil))) (me_call (OkD.calls (ok_kept T B) form_kept_1 hx_of rg) rfl (T.glo 71) (T.kp 48) (ma_cons (me_var 5) (ma_nil)))))
    (ms_one (ms_if (PW.pt (mw_or (mt_cmp (op_neU rg.r.units) os_ne (me_cmp (op_eqA (G := Gk K rts) rfl rg (slotE_cons (c := 0) (T.meth 33) (exb_5 T) (OkD.callsIn (ok_Rooms_eq T B) form_Rooms_eq_2 rg (fun I => I.env0)) slotE_nil)) os_eqOf (me_var 1) (me_var 4)) (me_var 6)) (mw_or1 (mt_cmp (op_eqU rg.r.units) os_eq (me_cmp (op_neA (G := Gk K rts) rfl rg (slotE_cons (c := 0) (T.meth 33) (exb_5 T) (OkD.callsIn (ok_Rooms_eq T B) form_Rooms_eq_2 (rg_in1 rg) (fun I => I.env0.in1)) slotE_nil)) os_neOf (me_var 1) (me_var 4)) (me_var 6))))) (ms_one (ms_ret (me_bl))) (ms_nil)))))
    (ms_one (ms_for hp_of rfl (mi_seq rfl (me_lstK (ma_cons (me_non) (ma_cons (me_int) (ma_cons (me_str) (ma_cons (me_lstK (ma_nil)) (ma_cons (me_dget (hu_of rg.r) (me_var 2) (me_str)) (ma_cons (me_meth0 (by decide +kernel) (meths_cons (T.cls 9) (T.meth 64) (OkD.calls (ok_Rooms_touches T B) form_Rooms_touches_1 hx_of rg) meths_nil) (me_var 1)) (ma_nil))))))))) (mg_name (i := 3) sc_equal_right.nd rfl (Or.inl rfl)) (ms_one (ms_if (PW.pt (mw_or (mt_cmp (op_eqA (G := Gk K rts) rfl rg (slotE_cons (c := 0) (T.meth 33) (exb_5 T) (OkD.callsIn (ok_Rooms_eq T B) form_Rooms_eq_2 rg (fun I => I.env0)) slotE_nil)) os_eqOf (me_var 1) (me_var 3)) (mw_or1 (mt_cmp (op_eqRA (G := Gk K rts) rfl rg (slotR_cons (c := 0) (T.meth 33) (exb_8 T) (OkD.callsIn (ok_Rooms_eq T B) form_Rooms_eq_2 rg (fun I => I.env0)) slotR_nil)) os_eqR (me_var 3) (me_var 1))))) (ms_one (ms_ret (me_bl))) (ms_nil)))))))
    (ms_one (ms_ret (me_bl))))
theorem sc_law : FnScope ["_law_script", "_law_draw", "_law_ceiling", "_law_all_of", "_law_turn", "_law_way", "_law_rooms", "_law_own", "_law_one", "_law_its", "_law_deed", "_law_due_here"] ["_law_script"] (defScope s_law) := ⟨rfl, rfl, rfl, by decide +kernel, rfl, by decide +kernel, by decide +kernel⟩
theorem ok_law (T : Tt K mg) (B : TbL tq_ K mg base) : OkD P w K mg base 8 dd_law ["_law_script"] f_law (Gk K rts) := okD_of (N := ["_law_script", "_law_draw", "_law_ceiling", "_law_all_of", "_law_turn", "_law_way", "_law_rooms", "_law_own", "_law_one", "_law_its", "_law_deed", "_law_due_here"]) (ps := ["_law_script"]) (m := b_law) (d := dd_law) (G := Gk K rts) T 50 sc_law fun cdv A outer s H E rg =>
   (ms_cons (ms_if (mt_not (mt_val (me_call0 (OkD.calls (ok_near_right T B) form_near_right_0 hx_of rg) rfl (T.glo 37) (T.kp 19)))) (ms_one (ms_ret (me_bl))) (ms_nil))
    (ms_cons (ms_for hp_of rfl (mi_seq rfl (me_call (OkD.calls (ok_draws T B) form_draws_1 hx_of rg) rfl (T.glo 38) (T.kp 20) (ma_cons (me_var 0) (ma_nil)))) (mg_name (i := 1) sc_law.nd rfl (Or.inl rfl)) (ms_cons (ms_set 2 sc_law.nd rfl (Or.inl rfl) (me_ix rfl (me_lstK (ma_cons (me_int) (ma_cons (me_int) (ma_cons (me_int) (ma_nil))))) (me_call (OkD.calls (ok_take T B) form_take_2 hx_of rg) rfl (T.glo 39) (T.kp 21) (ma_cons (me_var 1) (ma_cons (me_int) (ma_nil))))))
    (ms_cons (ms_set 3 sc_law.nd rfl (Or.inl rfl) (me_lst (ma_cons (me_tup (ma_cons (me_callK0 (OkD.makes (c := 0) (ok_Rooms_init T B) form_Rooms_init_1_most (T.mkr 14) hx_of rg) rfl (T.glo 15) (T.mkr 14).kp (mk_cons (me_var 2) (mk_nil))) (ma_cons (me_call (OkD.calls (ok_begun T B) form_begun_1 hx_of rg) rfl (T.glo 40) (T.kp 22) (ma_cons (me_var 2) (ma_nil))) (ma_nil)))) (ma_cons (me_tup (ma_cons (me_callK0 (OkD.makes (c := 0) (ok_Rooms_init T B) form_Rooms_init_1_most (T.mkr 14) hx_of rg) rfl (T.glo 15) (T.mkr 14).kp (mk_cons (me_int) (mk_nil))) (ma_cons (me_call (OkD.calls (ok_begun T B) form_begun_1 hx_of rg) rfl (T.glo 40) (T.kp 22) (ma_cons (me_int) (ma_nil))) (ma_nil)))) (ma_nil)))))
    (ms_cons (ms_for hp_of rfl (mi_rng1 (h1 := aLen1) rfl (T.free 41) (ma_cons (me_int) (ma_nil))) (mg_name (i := 4) sc_law.nd rfl (Or.inl rfl)) (ms_cons (ms_asg (me_ix rfl (me_var 3) (me_call (OkD.calls (ok_take T B) form_take_2 hx_of rg) rfl (T.glo 39) (T.kp 21) (ma_cons (me_var 1) (ma_cons (me_bi cl_len bs_len rfl (T.free 18) rfl (ma_cons (me_var 3) (ma_nil))) (ma_nil))))) (mg_tup rfl rfl (mgs_cons (mg_name (i := 6) sc_law.nd rfl (Or.inl rfl)) (mgs_cons (mg_name (i := 7) sc_law.nd rfl (Or.inl rfl)) (mgs_nil)))))
    (ms_cons (ms_set 5 sc_law.nd rfl (Or.inl rfl) (me_call (OkD.calls (ok_take T B) form_take_2 hx_of rg) rfl (T.glo 39) (T.kp 21) (ma_cons (me_var 1) (ma_cons (me_int) (ma_nil)))))
    (ms_cons (ms_if (PW.pt (mw_and (mt_cmp (op_eqU rg.r.units) os_eq (me_var 5) (me_int)) (mw_and1 (mt_cmp op_lt os_cmp (me_bi cl_len bs_len rfl (T.free 18) rfl (ma_cons (me_var 3) (ma_nil))) (me_int))))) (ms_one (ms_expr (me_bm rfl PySem.F.plainAttrs_list PySem.F.slot_list_append PySem.F.type_list_append mt_append bs_append (.inl rfl) (me_var 3) (ma_cons (me_tup (ma_cons (me_meth0 (by decide +kernel) (meths_cons (T.cls 9) (T.meth 36) (OkD.calls (ok_Rooms_rooms_twin T B) form_Rooms_rooms_twin_1 hx_of rg) meths_nil) (me_var 6)) (ma_cons (me_call (OkD.calls (ok_copied T B) form_copied_1 hx_of rg) rfl (T.glo 42) (T.kp 23) (ma_cons (me_var 7) (ma_nil))) (ma_nil)))) (ma_nil))))) (ms_one (ms_if (mt_cmp (op_eqU rg.r.units) os_eq (me_var 5) (me_int)) (ms_one (ms_if (mt_not (mt_val (me_call (OkD.calls (ok_owner_right T B) form_owner_right_3 hx_of rg) rfl (T.glo 43) (T.kp 24) (ma_cons (me_var 1) (ma_cons (me_var 6) (ma_cons (me_var 7) (ma_nil))))))) (ms_one (ms_ret (me_bl))) (ms_nil))) (ms_cons (ms_set 10 sc_law.nd rfl (Or.inl rfl) (me_call (OkD.calls (ok_any_deed T B) form_any_deed_2 hx_of rg) rfl (T.glo 47) (T.kp 28) (ma_cons (me_var 1) (ma_cons (me_var 7) (ma_nil)))))
    (ms_cons (ms_set 11 sc_law.nd rfl (Or.inl rfl) (me_call (OkD.calls (ok_due T B) form_due_2 hx_of rg) rfl (T.glo 52) (T.kp 33) (ma_cons (me_var 7) (ma_cons (me_var 10) (ma_nil)))))
    (ms_cons (ms_if (mt_cmp (op_neU rg.r.units) os_ne (me_bi (cl_repr rg) bs_repr rfl (T.free 53) rfl (ma_cons (me_call (OkD.calls (ok_done T B) form_done_3 hx_of rg) rfl (T.glo 57) (T.kp 37) (ma_cons (me_var 6) (ma_cons (me_var 10) (ma_cons (me_cmp (op_eqU rg.r.units) os_eq (me_var 5) (me_int)) (ma_nil))))) (ma_nil))) (me_bi (cl_repr rg) bs_repr rfl (T.free 53) rfl (ma_cons (me_var 11) (ma_nil)))) (ms_one (ms_ret (me_bl))) (ms_nil))
    (ms_one (ms_expr (me_call (OkD.calls (ok_noted T B) form_noted_2 hx_of rg) rfl (T.glo 58) (T.kp 38) (ma_cons (me_var 7) (ma_cons (me_var 11) (ma_nil))))))))))))
    (ms_cons (ms_expr (me_call (OkD.calls (ok_spoilt T B) form_spoilt_1 hx_of rg) rfl (T.glo 62) (T.kp 42) (ma_cons (me_var 6) (ma_nil))))
    (ms_one (ms_for hp_of rfl (mi_seq rfl (me_var 3)) (mg_tup rfl rfl (mgs_cons (mg_name (i := 8) sc_law.nd rfl (Or.inl rfl)) (mgs_cons (mg_name (i := 9) sc_law.nd rfl (Or.inl rfl)) (mgs_nil)))) (ms_one (ms_if (mt_not (mt_val (me_call (OkD.calls (ok_alike T B) form_alike_2 hx_of rg) rfl (T.glo 70) (T.kp 47) (ma_cons (me_var 8) (ma_cons (me_var 9) (ma_nil)))))) (ms_one (ms_ret (me_bl))) (ms_nil))))))))))
    (ms_one (ms_if (mt_not (mt_val (me_call (OkD.calls (ok_equal_right T B) form_equal_right_1 hx_of rg) rfl (T.glo 72) (T.kp 49) (ma_cons (me_var 3) (ma_nil))))) (ms_one (ms_ret (me_bl))) (ms_nil)))))))
    (ms_one (ms_ret (me_bl)))))
end
end Lw
end
section
set_option maxHeartbeats 0
namespace Lw
open PySem PySem.Spec PyProof.Rows L2 Mo He
theorem ob_eq (s : PySem.W.SharedT) : ob_ s = hk_.obs s.abs := obsMA_eq (HandSHeadRun.getT_eq s)
end Lw
open PySem PySem.W PySem.Calls PyProof.Rows
theorem Lw.holds_of (LT : ∀ ns : List Int, ns.length ≤ 63 → ∃ h', Lw.f_law [Mo.D.kl (ns.map Mo.D.int)] Mo.Hm.start = Mo.R.ok (Mo.D.bl true) h') : PySem.Challenge.rw_tagmill_k21_whole_histories_of_rooms.Holds := by
  w_on; o_law
  refine HandSHeadRun.head_any (r := OpenLaw.row PySem.Challenge.rw_tagmill_k21_whole_histories_of_rooms) (q := view (OpenLaw.row PySem.Challenge.rw_tagmill_k21_whole_histories_of_rooms).prog [41]) (H := Lw.hk_) (ob := Lw.ob_) (M := 6000) (loose := Lw.loose_) (d := HandSHeadRun.topDef (OpenLaw.row PySem.Challenge.rw_tagmill_k21_whole_histories_of_rooms).prog 41) (kwd := []) Lw.ob_eq
    (by kernel_rfl) (fun s => by kernel_rfl) Lw.run_ (by kernel_rfl) (by kernel_rfl) (by kernel_rfl) (by rfl) (by first | assumption | decide +kernel) (by decide +kernel) ⟨rfl, rfl, rfl, rfl, rfl, by decide +kernel⟩ ?hw ?hc
  case hw => w_witness2
  case hc =>
    refine Mo.law_endE (l := PySem.Challenge.rw_tagmill_k21_whole_histories_of_rooms) (n := 63) (k := 8) (x := "_law_script") (d := Lw.dd_law) (G := fun K => Lw.Gk K []) (F := Lw.f_law) (fa := Lw.fa_) (fn := Lw.fn_) (tq := Lw.tq_) (ex := Lw.ex_) 50 rfl rfl (by decide) (by kernel_rfl) ⟨⟨rfl, by decide, by decide⟩, rfl⟩ (fun _ => rfl) (fun _ => rfl) (fun _ => rfl) (fun w h Y => Y) (fun K mg T => ?_) rfl (fun _ _ _ _ _ _ us hl => match us, hl with | [_], _ => rfl) (fun w mg K base T B => Lw.ok_law T B) LT
    have e : (HandSHeadRun.topDef (OpenLaw.row PySem.Challenge.rw_tagmill_k21_whole_histories_of_rooms).prog 41).name = ("law" : PySem.Str) := by kernel_rfl
    rw [e]
    exact T.glo 73
end
local macro_rules | `(tactic| walk_at "mH") => `(tactic| (first | assumption | ((repeat (first | ((with_reducible refine Eq.trans (Mo.put_ne ?_) ?_); (focus (first | omega | (simp only [Mo.put_n, Mo.new_n, Mo.del_n]; omega)))) | ((with_reducible refine Eq.trans (Mo.new_ne ?_) ?_); (focus (first | omega | (simp only [Mo.put_n, Mo.new_n, Mo.del_n]; omega)))) | ((with_reducible refine Eq.trans (Mo.del_ne ?_) ?_); (focus (first | omega | (simp only [Mo.put_n, Mo.new_n, Mo.del_n]; omega)))) | ((refine Mo.Fz.at (by assumption) ?_ ?_ ?_); (focus (first | omega | (simp only [Mo.put_n, Mo.new_n, Mo.del_n]; omega))); (focus (first | exact id | (intro z; (try dsimp only at z); omega)))))); (first | assumption | ((with_reducible refine Eq.trans (Mo.new_eq ?_) ?_); (focus (first | exact rfl | omega | (simp only [Mo.put_n, Mo.new_n, Mo.del_n]; omega))); (exact rfl)) | ((with_reducible refine Eq.trans (Mo.put_eq ?_) ?_); (focus (first | exact rfl | omega | (simp only [Mo.put_n, Mo.new_n, Mo.del_n]; omega))); (exact rfl))))))
local macro_rules | `(tactic| walk_at "mA") => `(tactic| (first | omega | exact Nat.le_of_ble_eq_true rfl | (simp only [List.length_cons, List.length_nil, List.length_map, List.length_append]; omega) | (unfold Mo.SL; omega) | (simp only [List.length_cons, List.length_nil, List.length_append, List.length_map]; unfold Mo.SL; omega) | decide | assumption))
local macro_rules | `(tactic| walk_at "mL") => `(tactic| (first | exact rfl | decide +kernel))
local macro_rules | `(tactic| walk_at "mC") => `(tactic| (first | exact rfl | assumption | (simp only [Bool.not_eq_eq_eq_not, Bool.not_true, Bool.not_false, decide_eq_true_eq, decide_eq_false_iff_not]; omega) | (simp only [Bool.not_eq_eq_eq_not, Bool.not_true, Bool.not_false, decide_eq_true_eq, decide_eq_false_iff_not, List.length_map, List.length_cons, List.length_nil, List.length_append]; omega)))
local macro_rules | `(tactic| walk_at "m1") => `(tactic| (first | ((with_reducible refine' Mo.ev_var ?e1 ?qq); (case e1 => exact rfl)) | with_reducible refine Mo.ev_c ?_ | with_reducible refine Mo.ev_op ?_ | with_reducible refine Mo.ev_cons ?_ | with_reducible refine Mo.ev_nil ?_ | with_reducible refine Mo.es_seq ?_ | with_reducible refine Mo.es_asg ?_ | with_reducible refine Mo.es_expr ?_ | with_reducible refine Mo.es_ret ?_ | with_reducible refine Mo.es_retN ?_ | with_reducible refine Mo.es_if ?_ | with_reducible refine Mo.es_next ?_ | with_reducible refine Mo.es_par2 ?_ | with_reducible refine Mo.es_par3 ?_ | with_reducible refine Mo.es_break ?_ | with_reducible refine Mo.es_cont ?_ | with_reducible refine Mo.es_fld ?_ | with_reducible refine Mo.es_dputS ?_ | with_reducible refine Mo.es_for ?_ | with_reducible refine Mo.ev_op ?_ | with_reducible refine Mo.ev_un ?_ | with_reducible refine Mo.ev_cons ?_ | with_reducible refine Mo.ev_nil ?_ | with_reducible refine Mo.ev_c ?_ | with_reducible refine Mo.ev_tup ?_ | with_reducible refine Mo.ev_lst ?_ | with_reducible refine Mo.ev_lstK ?_ | with_reducible refine Mo.ev_eIf ?_ | with_reducible refine Mo.ev_and ?_ | with_reducible refine Mo.ev_or ?_ | with_reducible refine Mo.ev_not ?_ | with_reducible refine Mo.ev_chain ?_ | with_reducible refine Mo.ev_tB ?_ | with_reducible refine Mo.ev_tAnd ?_ | with_reducible refine Mo.ev_tOr ?_ | with_reducible refine Mo.ev_tNot ?_ | with_reducible refine Mo.ev_tYes ?_ | with_reducible refine Mo.ev_add ?_ | with_reducible refine Mo.ev_addKI ?_ | with_reducible refine Mo.ev_addMI ?_ | with_reducible refine Mo.ev_addII ?_ | with_reducible refine Mo.ev_sub ?_ | with_reducible refine Mo.ev_neg ?_ | with_reducible refine Mo.ev_lt ?_ | with_reducible refine Mo.ev_le ?_ | with_reducible refine Mo.ev_gt ?_ | with_reducible refine Mo.ev_ge ?_ | with_reducible refine Mo.ev_eqI ?_ | with_reducible refine Mo.ev_neI ?_ | with_reducible refine Mo.ev_eqS ?_ | with_reducible refine Mo.ev_neS ?_ | with_reducible refine Mo.ev_isN ?_ | with_reducible refine Mo.ev_notN ?_ | with_reducible refine Mo.ev_oNone ?_ | with_reducible refine Mo.ev_oSome ?_ | with_reducible refine Mo.ev_sl ?_ | with_reducible refine Mo.ev_slX ?_ | with_reducible refine Mo.ev_slXT ?_ | with_reducible refine Mo.ev_slXK ?_ | with_reducible refine Mo.ev_fld ?_ | with_reducible refine Mo.ev_call ?_ | with_reducible refine Mo.ev_meth ?_ | with_reducible refine Mo.ev_new ?_ | with_reducible refine Mo.ev_bi ?_ | with_reducible refine Mo.ev_lenT ?_ | with_reducible refine Mo.ev_lenK ?_ | with_reducible refine Mo.ev_listT ?_ | with_reducible refine Mo.ev_listK ?_ | with_reducible refine Mo.ev_listKT ?_ | with_reducible refine Mo.ev_listKK ?_ | with_reducible refine Mo.ev_tupT ?_ | with_reducible refine Mo.ev_tupK ?_ | with_reducible refine Mo.ev_bm ?_ | with_reducible refine Mo.ev_pnil ?_ | with_reducible refine Mo.ev_pcons ?_ | with_reducible refine Mo.ev_dict ?_ | with_reducible refine Mo.ev_gN ?_ | with_reducible refine Mo.ev_gnil ?_ | with_reducible refine Mo.ev_gcons ?_ | with_reducible refine Mo.ev_gIx ?_ | with_reducible refine Mo.ev_gFld ?_ | with_reducible refine Mo.ev_iSeq ?_ | with_reducible refine Mo.ev_rng1 ?_ | with_reducible refine Mo.ev_rng2 ?_ | with_reducible refine Mo.ev_enum ?_ | with_reducible refine Mo.ev_comp ?_ | with_reducible refine Mo.ev_compK ?_ | with_reducible refine Mo.ev_frz ?_ | with_reducible refine Mo.ev_frzK ?_ | with_reducible refine Mo.ev_is ?_ | with_reducible refine Mo.ev_strS ?_ | with_reducible refine Mo.nb ?_ | with_reducible refine Mo.ni ?_ | with_reducible refine Mo.nn ?_ | with_reducible refine Mo.p2 ?_ | with_reducible refine Mo.p3 ?_ | with_reducible refine Mo.sqK ?_ | with_reducible refine Mo.itT ?_ | with_reducible refine Mo.itK ?_ | ((with_reducible refine' Mo.ev_var ?e1 ?qq); (case e1 => exact rfl)) | ((with_reducible refine' Mo.ev_mod ?e1 ?qq); (case e1 => walk_at "mA")) | ((with_reducible refine' Mo.ev_fdiv ?e1 ?qq); (case e1 => walk_at "mA")) | ((with_reducible refine' Mo.ev_mul ?e1 ?qq); (case e1 => walk_at "mA")) | ((with_reducible refine' Mo.ev_mulK ?e1 ?qq); (case e1 => walk_at "mA")) | ((with_reducible refine' Mo.ev_pow ?e1 ?qq); (case e1 => walk_at "mA")) | ((with_reducible refine' Mo.ev_ixT ?e1 ?qq); (case e1 => exact rfl)) | ((with_reducible refine' Mo.ev_ixK ?e1 ?qq); (case e1 => exact rfl)) | ((with_reducible refine' Mo.ev_dgetS ?e1 ?e2 ?qq); (case e1 => walk_at "mH"); (case e2 => walk_at "mL")) | ((with_reducible refine' Mo.ev_lenL ?e1 ?qq); (case e1 => walk_at "mH")) | ((with_reducible refine' Mo.ev_lenD ?e1 ?qq); (case e1 => walk_at "mH")) | ((with_reducible refine' Mo.ev_listL ?e1 ?qq); (case e1 => walk_at "mH")) | ((with_reducible refine' Mo.ev_listKL ?e1 ?qq); (case e1 => walk_at "mH")) | ((with_reducible refine' Mo.ev_frzL ?e1 ?qq); (case e1 => walk_at "mH")) | ((with_reducible refine' Mo.ev_tupL ?e1 ?qq); (case e1 => walk_at "mH")) | ((with_reducible refine' Mo.ev_append ?e1 ?e2 ?qq); (case e1 => walk_at "mH"); (case e2 => walk_at "mA")) | ((with_reducible refine' Mo.tl ?e1 ?qq); (case e1 => exact rfl)) | ((with_reducible refine' Mo.sqL ?e1 ?qq); (case e1 => walk_at "mH")) | ((with_reducible refine' Mo.itL ?e1 ?qq); (case e1 => walk_at "mH")) | ((with_reducible refine' Mo.fl ?e1 ?e2 ?e3 ?qq); (case e1 => walk_at "mH"); (case e2 => exact rfl); (case e3 => walk_at "mL")) | ((with_reducible refine' Mo.sm ?e1 ?e2 ?e3 ?qq); (case e1 => walk_at "mH"); (case e2 => exact rfl); (case e3 => walk_at "mL")) | ((with_reducible refine' Mo.pf ?e1 ?e2 ?e3 ?qq); (case e1 => walk_at "mH"); (case e2 => exact rfl); (case e3 => exact rfl)) | ((with_reducible refine' Mo.dp ?e1 ?e2 ?e3 ?qq); (case e1 => walk_at "mH"); (case e2 => exact rfl); (case e3 => walk_at "mA")) | ((with_reducible refine' Mo.r1 ?e1 ?qq); (case e1 => walk_at "mA")) | ((with_reducible refine' Mo.r2 ?e1 ?qq); (case e1 => walk_at "mA")) | ((with_reducible refine' Mo.tyL ?e1 ?qq); (case e1 => walk_at "mH")) | ((with_reducible refine' Mo.tyDc ?e1 ?qq); (case e1 => walk_at "mH")) | ((with_reducible refine' Mo.ev_gT ?e1 ?qq); (case e1 => exact rfl)) | ((with_reducible refine' Mo.ev_callP ?e1 ?e2 ?qq); (case e1 => exact rfl); (case e2 => exact rfl)) | ((with_reducible refine' Mo.kd ?e1 ?e2 ?e3 ?qq); (case e1 => exact rfl); (case e2 => exact rfl); (case e3 => exact rfl)) | ((with_reducible refine' Mo.ev_isi ?e1 ?qq); (case e1 => exact rfl)) | ((with_reducible refine' Mo.sel_t ?e1 ?qq); (case e1 => walk_at "mC")) | ((with_reducible refine' Mo.sel_f ?e1 ?qq); (case e1 => walk_at "mC")) | with_reducible refine Mo.es_raise ?_ | ((with_reducible refine Mo.rz ?_ ?_); (· exact rfl))))
section
namespace Lw
open PySem Mo
inductive Wd where
  | num (n : Int) | room (r s z : Int) | proc (a b : Int)
def Wd.d : Wd → D
  | .num n => .tup [.str q_num, .int n]
  | .room r s z => .tup [.str q_room, .int r, .int s, .int z]
  | .proc a b => .tup [.str q_proc, .int a, .int b]
def Ownr (i : Int) : Prop := -1 ≤ i ∧ i ≤ 100000000000000000000
def Sm (i : Int) : Prop := -10000000000000000000000000 ≤ i ∧ i ≤ 10000000000000000000000000
def Wd.ok : Wd → Prop
  | .num n => Sm n
  | .room r s z => 0 ≤ r ∧ 0 ≤ s ∧ 0 ≤ z ∧ Sm r ∧ Sm s ∧ z ≤ 1000
  | .proc a b => Sm a ∧ Sm b
structure RmS where
  mo : Int
  own : List Int
  pl : List (Option (List Wd))
  tc : List Int
def leadS (pl : List (Option (List Wd))) (r st sz : Int) : Option Str := match pl[r.toNat]? with
  | some (some ws) => if st + sz > ws.length then some q_bounds else none
  | _ => some q_gone
inductive Rs where
  | told (x : Option Wd) | trap (e : Str)
def oD : Option Wd → D
  | some w => w.d
  | none => .non
def Rs.d : Rs → D
  | .told x => .tup [.str q_told, oD x]
  | .trap e => .tup [.str q_trap, .str e]
inductive Dd where
  | make (many : Wd) (owner : Int) | look (w a : Wd) | put (w a o : Wd) | part (w a b : Wd) | size (w : Wd)
def Dd.d : Dd → D
  | .make m o => .tup [.str q_make, m.d, .int o]
  | .look w a => .tup [.str q_look, w.d, a.d]
  | .put w a o => .tup [.str q_put, w.d, a.d, o.d]
  | .part w a b => .tup [.str q_part, w.d, a.d, b.d]
  | .size w => .tup [.str q_size, w.d]
def Dd.ok : Dd → Prop
  | .make m o => m.ok ∧ Ownr o
  | .look w a => w.ok ∧ a.ok
  | .put w a o => w.ok ∧ a.ok ∧ o.ok
  | .part w a b => w.ok ∧ a.ok ∧ b.ok
  | .size w => w.ok
def zeros (n : Int) : List Wd := List.replicate n.toNat (.num 0)
def makeS (s : RmS) (m : Wd) (o : Int) : Rs × RmS := match m with
  | .num n => if 0 ≤ n ∧ n ≤ 64 then if s.own.length ≥ s.mo then (.trap q_full, s) else
      (.told (some (.room s.own.length 0 n)), { s with own := s.own ++ [o], pl := s.pl ++ [some (zeros n)], tc := s.tc ++ [(s.own.length : Int)] }) else (.trap q_size, s)
  | _ => (.trap q_kind, s)
def placeS (pl : List (Option (List Wd))) (w a : Wd) : Except Str (Int × Int) := match w, a with
  | .room r st sz, .num k => match leadS pl r st sz with
    | some e => .error e
    | none => if 0 ≤ k ∧ k < sz then .ok (r, st + k) else .error q_bounds
  | _, _ => .error q_kind
def roomAt (pl : List (Option (List Wd))) (r : Int) : List Wd := match pl[r.toNat]? with
  | some (some ws) => ws
  | _ => []
def lookS (s : RmS) (w a : Wd) : Rs × RmS := match placeS s.pl w a with
  | .error e => (.trap e, s)
  | .ok (r, p) => (.told (roomAt s.pl r)[p.toNat]?, { s with tc := s.tc ++ [r] })
def putS (s : RmS) (w a o : Wd) : Rs × RmS := match placeS s.pl w a with
  | .error e => (.trap e, s)
  | .ok (r, p) => (.told none, { s with tc := s.tc ++ [r], pl := s.pl.set r.toNat (some ((roomAt s.pl r).set p.toNat o)) })
def partS (s : RmS) (w a b : Wd) : Rs := match w, a, b with
  | .room r st sz, .num i, .num j => match leadS s.pl r st sz with
    | some e => .trap e
    | none => if i < 0 ∨ j < 0 ∨ i + j > sz then .trap q_bounds else .told (some (.room r (st + i) j))
  | _, _, _ => .trap q_kind
def sizeS (s : RmS) (w : Wd) : Rs := match w with
  | .room r st sz => match leadS s.pl r st sz with
    | some e => .trap e
    | none => .told (some (.num sz))
  | _ => .trap q_kind
def stepS (s : RmS) : Dd → Rs × RmS
  | .make m o => makeS s m o
  | .look w a => lookS s w a
  | .put w a o => putS s w a o
  | .part w a b => (partS s w a b, s)
  | .size w => (sizeS s w, s)
structure SOk (s : RmS) (n : Nat) : Prop where
  o : s.own.length ≤ n
  l : s.pl.length = s.own.length
  t : s.tc.length ≤ n
  so : ∀ x ∈ s.own, Ownr x
  st : ∀ x ∈ s.tc, Sm x
  w : ∀ ws, some ws ∈ s.pl → ws.length ≤ 64 ∧ ∀ x ∈ ws, x.ok
theorem placeS_ok {pl : List (Option (List Wd))} {w a : Wd} {r p : Int} (hw : w.ok) (e : placeS pl w a = .ok (r, p)) : ∃ st sz k ws, w = .room r st sz ∧ a = .num k ∧ pl[r.toNat]? = some (some ws) ∧ p = st + k ∧ 0 ≤ r ∧ 0 ≤ st ∧ 0 ≤ k ∧ k < sz ∧ st + sz ≤ ws.length ∧ leadS pl r st sz = none := by
  unfold placeS at e
  split at e
  · rename_i r' st sz k
    split at e
    · cases e
    · rename_i h
      split at e
      · rename_i c
        cases e
        have h' := h
        unfold leadS at h'
        split at h'
        · rename_i ws h2
          split at h'
          · cases h'
          · rename_i h3
            exact ⟨st, sz, k, ws, rfl, rfl, h2, rfl, hw.1, hw.2.1, c.1, c.2, by omega, h⟩
        · cases h'
      · cases e
  · cases e
theorem roomAt_eq {pl : List (Option (List Wd))} {r : Int} {ws : List Wd} (e : pl[r.toNat]? = some (some ws)) : roomAt pl r = ws := by unfold roomAt; rw [e]
theorem zeros_len (n : Int) : (zeros n).length = n.toNat := List.length_replicate
theorem SOk.step {s : RmS} {n : Nat} (h : SOk s n) (hn : n ≤ 1000000) {d : Dd} (hd : d.ok) : SOk (stepS s d).2 (n + 1) := by
  have up : SOk s (n + 1) := ⟨Nat.le_succ_of_le h.o, h.l, Nat.le_succ_of_le h.t, h.so, h.st, h.w⟩
  have add : ∀ {p : Int → Prop} (x : Int) {xs : List Int}, (∀ y ∈ xs, p y) → p x → ∀ y ∈ xs ++ [x], p y := fun {p} x xs k kx y hy => by
    rcases List.mem_append.mp hy with hy | hy
    · exact k y hy
    · rw [List.mem_singleton.mp hy]; exact kx
  cases d with
  | make m o =>
    simp only [stepS, makeS]
    split
    · split
      · split
        · exact up
        · rename_i c1 c2
          refine ⟨?_, ?_, ?_, add _ h.so hd.2, add _ h.st ?_, fun ws hw => ?_⟩
          · have := h.o; simp only [List.length_append, List.length_singleton]; omega
          · simp only [List.length_append, List.length_singleton, h.l]
          · have := h.t; simp only [List.length_append, List.length_singleton]; omega
          · have := h.o; unfold Sm; omega
          · rcases List.mem_append.mp hw with hw | hw
            · exact h.w ws hw
            · have e := List.mem_singleton.mp hw
              cases e
              refine ⟨by rw [zeros_len]; omega, fun x hx => ?_⟩
              rw [List.eq_of_mem_replicate hx]
              exact ⟨by omega, by omega⟩
      · exact up
    · exact up
  | look w a =>
    simp only [stepS, lookS]
    split
    · exact up
    · rename_i r p e
      obtain ⟨st, sz, k, ws, e1, e2, e3, e4, k1, k2, k3, k4, k5, _⟩ := placeS_ok hd.1 e
      subst e1
      refine ⟨Nat.le_succ_of_le h.o, h.l, ?_, h.so, add _ h.st hd.1.2.2.2.1, h.w⟩
      have := h.t; simp only [List.length_append, List.length_singleton]; omega
  | put w a o =>
    simp only [stepS, putS]
    split
    · exact up
    · rename_i r p e
      obtain ⟨st, sz, k, ws, e1, e2, e3, e4, k1, k2, k3, k4, k5, _⟩ := placeS_ok hd.1 e
      subst e1
      refine ⟨Nat.le_succ_of_le h.o, by rw [List.length_set]; exact h.l, ?_, h.so, add _ h.st hd.1.2.2.2.1, fun us hu => ?_⟩
      · have := h.t; simp only [List.length_append, List.length_singleton]; omega
      · rcases List.mem_or_eq_of_mem_set hu with hu | hu
        · exact h.w us hu
        · cases hu
          rw [roomAt_eq e3]
          obtain ⟨w1, w2⟩ := h.w ws (List.mem_of_getElem? e3)
          refine ⟨by rw [List.length_set]; exact w1, fun x hx => ?_⟩
          rcases List.mem_or_eq_of_mem_set hx with hx | hx
          · exact w2 x hx
          · rw [hx]; exact hd.2.2
  | part w a b => exact up
  | size w => exact up
theorem told_ok {s : RmS} {n : Nat} (h : SOk s n) (hn : n ≤ 1000000) {d : Dd} (hd : d.ok) {w : Wd} (e : (stepS s d).1 = .told (some w)) : w.ok := by
  cases d with
  | make m o =>
    simp only [stepS, makeS] at e
    split at e
    · split at e
      · split at e
        · cases e
        · cases e
          have := h.o
          rename_i c1 c2
          exact ⟨by omega, by omega, by omega, ⟨by omega, by omega⟩, ⟨by omega, by omega⟩, by omega⟩
      · cases e
    · cases e
  | look w a =>
    simp only [stepS, lookS] at e
    split at e
    · cases e
    · rename_i r p e0
      obtain ⟨st, sz, k, ws, e1, e2, e3, e4, k1, k2, k3, k4, k5, _⟩ := placeS_ok hd.1 e0
      simp only [roomAt_eq e3] at e
      injection e with e
      exact (h.w ws (List.mem_of_getElem? e3)).2 _ (List.mem_of_getElem? e)
  | put w a o =>
    simp only [stepS, putS] at e
    split at e
    · cases e
    · cases e
  | part w a b =>
    simp only [stepS, partS] at e
    split at e
    · rename_i r st sz i j
      split at e
      · cases e
      · rename_i hl
        split at e
        · cases e
        · rename_i c
          cases e
          obtain ⟨h1, h2, h3, ⟨h4, h5⟩, ⟨h6, h7⟩, h8⟩ := hd.1
          unfold leadS at hl
          split at hl
          · rename_i ws e5
            have := (h.w ws (List.mem_of_getElem? e5)).1
            split at hl
            · cases hl
            · exact ⟨h1, by omega, by omega, ⟨h4, h5⟩, ⟨by omega, by omega⟩, by omega⟩
          · cases hl
    · cases e
  | size w =>
    simp only [stepS, sizeS] at e
    split at e
    · split at e
      · cases e
      · cases e
        have h1 := hd.2.2.1
        have h2 := hd.2.2.2.2.2
        exact ⟨by omega, by omega⟩
    · cases e
end Lw
end
section
namespace Lw
open PySem Mo
abbrev cT : Nat := 2
abbrev xW (e : Str) : O := .xd [(q_word, .str e)]
abbrev dW (ws : List Wd) : List D := ws.map Wd.d
abbrev dI (ks : List Int) : List D := ks.map .int
theorem nthN {α : Type} {xs : List α} {z : Int} (k : 0 ≤ z) : nth xs z = xs[z.toNat]? := by
  unfold nth ixI
  by_cases c : z < xs.length
  · rw [if_pos k, if_pos c]
    rfl
  · rw [if_pos k, if_neg c, List.getElem?_eq_none (by omega)]
    rfl
abbrev dicO (cs : List Int) (a lf : Int) : O := .dic [(.inr q_cells, .kl (dI cs)), (.inr q_at, .int a), (.inr q_left, .int lf)]
theorem sq_lt {a : Int} (h0 : 0 ≤ a) (h1 : a < 1000000) : 0 ≤ 7907 * a ∧ 7907 * a < 7907000000 ∧ 0 ≤ 7907 * a * a ∧ 7907 * a * a < 7907000000000000 := by
  have e1 : 0 ≤ 7907 * a := by omega
  have e2 : 7907 * a < 7907000000 := by omega
  refine ⟨e1, e2, Int.mul_nonneg e1 h0, ?_⟩
  have := Int.mul_le_mul_of_nonneg_right (show 7907 * a ≤ 7907000000 from Int.le_of_lt e2) h0
  omega
theorem nth_mod {cs : List Int} {a : Int} (hc : cs ≠ []) (h0 : 0 ≤ a) : ∃ c, nth (dI cs) (a % ((dI cs).length : Int)) = some (.int c) := by
  rw [List.length_map]
  have hp : 0 < (cs.length : Int) := by
    cases cs with
    | nil => exact absurd rfl hc
    | cons c r => simp only [List.length_cons]; omega
  have k1 := Int.emod_nonneg a (Int.ne_of_gt hp)
  have k2 := Int.emod_lt_of_pos a hp
  refine ⟨cs[(a % (cs.length : Int)).toNat]'(by omega), ?_⟩
  rw [nthN k1, List.getElem?_map, List.getElem?_eq_getElem (by omega)]
  rfl
theorem take_ok {E : XE} {Q : D → Hm → Prop} {h : Hm} {l : Nat} {a lf m : Int} {cs : List Int} (e1 : h.g l = some (dicO cs a lf)) (hc : cs ≠ []) (h0 : 0 ≤ a) (h1 : a < 900000) (hm : 0 < m) (hm2 : m < 1073741824)
    (q : ∀ v lf' : Int, 0 ≤ v → v < m → Q (.int v) (h.put l (dicO cs (a + 1) lf'))) : Ev E (f_take [.loc l, .int m] h) Q := by
  refine u_take ?_
  unfold b_take
  repeat (walk_at "m1")
  refine sel_of (fun c => ?_) (fun c => ?_)
  · repeat (walk_at "m1")
    rw [put_put]
    exact q _ _ (Int.emod_nonneg _ (by omega)) (Int.emod_lt_of_pos _ hm)
  · have p := sq_lt (a := a + 1) (by omega) (by omega)
    have hp : 0 < (cs.length : Int) := by
      cases cs with
      | nil => exact absurd rfl hc
      | cons c r => simp only [List.length_cons]; omega
    obtain ⟨c0, e3⟩ := nth_mod (a := a + 1) hc (by omega)
    repeat (walk_at "m1")
    refine ev_ixK e3 ?_
    have p3 := Int.emod_nonneg c0 (show (2147483629 : Int) ≠ 0 by omega)
    have p4 := Int.emod_lt_of_pos c0 (show (0 : Int) < 2147483629 by omega)
    repeat (walk_at "m1")
    exact q _ _ (Int.emod_nonneg _ (by omega)) (Int.emod_lt_of_pos _ hm)
structure Dr (col : Nat → Nat) (k : Nat) (h : Hm) (ld : Nat) (cs : List Int) (b : Int) : Prop where
  d : ∃ a lf, h.g ld = some (dicO cs a lf) ∧ 0 ≤ a ∧ a ≤ b
  c : cs ≠ []
  n : ld < h.n
  k : col ld = k
theorem Dr.st {col col' : Nat → Nat} {k j : Nat} {h h' : Hm} {ld : Nat} {cs : List Int} {b : Int} (w : Dr col k h ld cs b) (f : Fz (fun l => col l = j) h h') (ne : k ≠ j) (ag : ∀ l, l < h.n → col' l = col l) : Dr col' k h' ld cs b := by
  obtain ⟨⟨a, lf, e, k1, k2⟩, c, n, kk⟩ := w
  exact ⟨⟨a, lf, f.at n (by omega) e, k1, k2⟩, c, Nat.lt_of_lt_of_le n f.n, by rw [ag ld n]; exact kk⟩
theorem Dr.le {col : Nat → Nat} {k : Nat} {h : Hm} {ld : Nat} {cs : List Int} {b b' : Int} (w : Dr col k h ld cs b) (l : b ≤ b') : Dr col k h ld cs b' := let ⟨⟨a, lf, e, k1, k2⟩, c, n, kk⟩ := w; ⟨⟨a, lf, e, k1, Int.le_trans k2 l⟩, c, n, kk⟩
theorem take_w {E : XE} {Q : D → Hm → Prop} {col : Nat → Nat} {k : Nat} {h : Hm} {ld : Nat} {cs : List Int} {b m : Int} (w : Dr col k h ld cs b) (hb : b < 900000) (hm : 0 < m) (hm2 : m < 1073741824) (q : ∀ v h', 0 ≤ v → v < m → Fz (fun l => col l = k) h h' → h'.n = h.n → Dr col k h' ld cs (b + 1) → Q (.int v) h') : Ev E (f_take [.loc ld, .int m] h) Q := by
  obtain ⟨⟨a, lf, e, k1, k2⟩, c, n, kk⟩ := w
  refine take_ok e c k1 (by omega) hm hm2 fun v lf' v1 v2 => q v _ v1 v2 ((Fz.refl _ h).put _ (.inl kk)) rfl ⟨⟨_, _, put_eq rfl, by omega, by omega⟩, c, n, kk⟩
abbrev roomsF (mo : Int) (lo lp lt : Nat) : List (Str × D) := [(q_most_here, .int mo), (q_all_owners, .loc lo), (q_all_places, .loc lp), (q_touched, .loc lt)]
def pD : Option Nat → D
  | some a => .loc a
  | none => .non
structure Rm (col : Nat → Nat) (k : Nat) (h : Hm) (lr lo lp lt : Nat) (ps : List (Option Nat)) (s : RmS) : Prop where
  r : h.g lr = some (.ins 0 (roomsF s.mo lo lp lt))
  o : h.g lo = some (.lst (dI s.own))
  p : h.g lp = some (.lst (ps.map pD))
  t : h.g lt = some (.lst (dI s.tc))
  l1 : ps.length = s.own.length
  l2 : s.pl.length = s.own.length
  q : ∀ (i a : Nat), ps[i]? = some (some a) → ∃ ws, s.pl[i]? = some (some ws) ∧ h.g a = some (.lst (dW ws)) ∧ (lt < a ∧ a ≠ lp) ∧ a < h.n ∧ col a = k
  q0 : ∀ i : Nat, ps[i]? = some none → s.pl[i]? = some none
  mono : ∀ i j a b : Nat, ps[i]? = some (some a) → ps[j]? = some (some b) → i < j → a < b
  ch : lr < lo ∧ lo < lp ∧ lo < lt ∧ lp ≠ lt ∧ lp < h.n ∧ lt < h.n
  c : col lr = k ∧ col lo = k ∧ col lp = k ∧ col lt = k
section
variable {E : XE} {Q : D → Hm → Prop} {col col' : Nat → Nat} {k j : Nat} {h h' : Hm} {lr lo lp lt : Nat} {ps : List (Option Nat)} {s : RmS}
theorem Rm.st (w : Rm col k h lr lo lp lt ps s) (f : Fz (fun l => col l = j) h h') (ne : k ≠ j) (ag : ∀ l, l < h.n → col' l = col l) : Rm col' k h' lr lo lp lt ps s := by
  obtain ⟨r, o, p, t, l1, l2, q, q0, mono, ch, c⟩ := w
  have fn := f.n
  refine ⟨by walk_at "mH", by walk_at "mH", by walk_at "mH", by walk_at "mH", l1, l2, fun i a e => ?_, q0, mono, by omega, by rw [ag lr (by omega), ag lo (by omega), ag lp (by omega), ag lt (by omega)]; exact c⟩
  obtain ⟨ws, e1, e2, e3, e4, e5⟩ := q i a e
  exact ⟨ws, e1, f.at e4 (by omega) e2, e3, by omega, by rw [ag a e4]; exact e5⟩
theorem number_of_w (w : Wd) (q1 : ∀ n, w = .num n → Q (.int n) h) (q2 : (∀ n, w ≠ .num n) → E cT h.n (h.new (xW q_kind))) : Ev E (f_number_of [w.d] h) Q := by
  refine u_number_of ?_
  unfold b_number_of
  cases w with
  | num n =>
    unfold Wd.d
    repeat (walk_at "m1")
    exact q1 n rfl
  | room r st z =>
    unfold Wd.d
    repeat (walk_at "m1")
    exact q2 (fun n e => nomatch e)
  | proc a b =>
    unfold Wd.d
    repeat (walk_at "m1")
    exact q2 (fun n e => nomatch e)
theorem pl_at (w : Rm col k h lr lo lp lt ps s) {r : Int} (k0 : 0 ≤ r) (k1 : r < (ps.map pD).length) : ∃ o, ps[r.toNat]? = some o ∧ nth (ps.map pD) r = some (pD o) := by
  rw [List.length_map] at k1
  refine ⟨ps[r.toNat]'(by omega), List.getElem?_eq_getElem _, ?_⟩
  rw [nthN k0, List.getElem?_map, List.getElem?_eq_getElem (by omega)]
  rfl
theorem need_there_w (w : Rm col k h lr lo lp lt ps s) {r st sz : Int} (k0 : 0 ≤ r) (q1 : leadS s.pl r st sz = none → Q .non h) (q2 : ∀ e, leadS s.pl r st sz = some e → E cT h.n (h.new (xW e))) : Ev E (f_Rooms_need_there [.loc lr, .tup [.str q_room, .int r, .int st, .int sz]] h) Q := by
  refine u_Rooms_need_there ?_
  unfold b_Rooms_need_there
  have w1 := w.r
  have w2 := w.p
  have l1 := w.l1
  have l2 := w.l2
  repeat (walk_at "m1")
  refine sel_of (fun c => ?_) (fun c => ?_)
  · repeat (walk_at "m1")
    refine q2 _ ?_
    rw [List.length_map, decide_eq_true_eq] at c
    unfold leadS
    rw [List.getElem?_eq_none (by omega)]
  · rw [decide_eq_false_iff_not] at c
    obtain ⟨o, e1, e2⟩ := pl_at w k0 (by omega)
    repeat (walk_at "m1")
    refine ev_ixL w2 e2 ?_
    cases o with
    | none =>
      repeat (walk_at "m1")
      refine q2 _ ?_
      unfold leadS
      rw [w.q0 _ e1]
    | some a =>
      obtain ⟨ws, f1, f2, f3, f4, f5⟩ := w.q _ _ e1
      repeat (walk_at "m1")
      refine ev_ixL w2 e2 ?_
      unfold pD
      repeat (walk_at "m1")
      have ld : leadS s.pl r st sz = if st + sz > ws.length then some q_bounds else none := by
        unfold leadS
        rw [f1]
      rw [List.length_map]
      refine sel_of (fun c => ?_) (fun c => ?_)
      · repeat (walk_at "m1")
        exact q2 _ (by rw [ld, if_pos (by simpa using c)])
      · repeat (walk_at "m1")
        exact q1 (by rw [ld, if_neg (by simpa using c)])
end
end Lw
end
section
namespace Lw
open PySem Mo
section
variable {E : XE} {Q : D → Hm → Prop} {col col' : Nat → Nat} {k j : Nat} {h h' : Hm} {lr lo lp lt : Nat} {ps : List (Option Nat)} {s : RmS}
theorem placeS_e {pl : List (Option (List Wd))} {r st sz n : Int} {e : Str} (hl : leadS pl r st sz = some e) : placeS pl (.room r st sz) (.num n) = .error e := by simp only [placeS, hl]
theorem placeS_n {pl : List (Option (List Wd))} {r st sz n : Int} (hl : leadS pl r st sz = none) : placeS pl (.room r st sz) (.num n) = if 0 ≤ n ∧ n < sz then .ok (r, st + n) else .error q_bounds := by simp only [placeS, hl]
theorem partS_e {s : RmS} {r st sz n m : Int} {e : Str} (hl : leadS s.pl r st sz = some e) : partS s (.room r st sz) (.num n) (.num m) = .trap e := by simp only [partS, hl]
theorem partS_n {s : RmS} {r st sz n m : Int} (hl : leadS s.pl r st sz = none) : partS s (.room r st sz) (.num n) (.num m) = if n < 0 ∨ m < 0 ∨ n + m > sz then .trap q_bounds else .told (some (.room r (st + n) m)) := by simp only [partS, hl]
theorem sizeS_e {s : RmS} {r st sz : Int} {e : Str} (hl : leadS s.pl r st sz = some e) : sizeS s (.room r st sz) = .trap e := by simp only [sizeS, hl]
theorem sizeS_n {s : RmS} {r st sz : Int} (hl : leadS s.pl r st sz = none) : sizeS s (.room r st sz) = .told (some (.num sz)) := by simp only [sizeS, hl]
theorem dI_snoc (ks : List Int) (x : Int) : dI ks ++ [.int x] = dI (ks ++ [x]) := by simp
theorem Rm.touch (w : Rm col k h lr lo lp lt ps s) (x : Int) : Rm col k (h.put lt (.lst (dI s.tc ++ [.int x]))) lr lo lp lt ps { s with tc := s.tc ++ [x] } := by
  obtain ⟨r, o, p, t, l1, l2, q, q0, mono, ch, c⟩ := w
  rw [dI_snoc]
  refine ⟨by walk_at "mH", by walk_at "mH", by walk_at "mH", by walk_at "mH", l1, l2, fun i a e => ?_, q0, mono, ch, c⟩
  obtain ⟨ws, e1, e2, e3, e4, e5⟩ := q i a e
  exact ⟨ws, e1, by walk_at "mH", e3, e4, e5⟩
theorem Rm.place (w : Rm col k h lr lo lp lt ps s) {i a : Nat} (e : ps[i]? = some (some a)) (us : List Wd) : Rm col k (h.put a (.lst (dW us))) lr lo lp lt ps { s with pl := s.pl.set i (some us) } := by
  obtain ⟨r, o, p, t, l1, l2, q, q0, mono, ch, c⟩ := w
  obtain ⟨ws, f1, f2, f3, f4, f5⟩ := q i a e
  refine ⟨by walk_at "mH", by walk_at "mH", by walk_at "mH", by walk_at "mH", l1, by rw [List.length_set]; exact l2, fun j b eb => ?_, fun j ej => ?_, mono, ch, c⟩
  · obtain ⟨vs, g1, g2, g3, g4, g5⟩ := q j b eb
    by_cases hij : i = j
    · subst hij
      rw [e] at eb
      cases eb
      exact ⟨us, by rw [List.getElem?_set, if_pos rfl, if_pos (List.getElem?_eq_some_iff.mp f1).1], by walk_at "mH", g3, g4, g5⟩
    · have hne : a ≠ b := by
        rcases Nat.lt_or_gt_of_ne hij with z | z
        · exact Nat.ne_of_lt (mono i j a b e eb z)
        · exact Nat.ne_of_gt (mono j i b a eb e z)
      exact ⟨vs, by rw [List.getElem?_set_ne hij]; exact g1, by walk_at "mH", g3, g4, g5⟩
  · have := q0 j ej
    by_cases hij : i = j
    · subst hij
      rw [e] at ej
      cases ej
    · rw [List.getElem?_set_ne hij]; exact this
theorem place_of_w (w : Rm col k h lr lo lp lt ps s) {W a : Wd} (hw : W.ok) (q1 : ∀ r p, placeS s.pl W a = .ok (r, p) → Q (.int p) h) (q2 : ∀ e, placeS s.pl W a = .error e → E cT h.n (h.new (xW e))) : Ev E (f_Rooms_place_of [.loc lr, W.d, a.d] h) Q := by
  have w1 := w.r
  refine u_Rooms_place_of ?_
  unfold b_Rooms_place_of
  cases W with
  | num n =>
    rw [Wd.d]
    repeat (walk_at "m1")
    exact q2 _ rfl
  | proc x y =>
    rw [Wd.d]
    repeat (walk_at "m1")
    exact q2 _ rfl
  | room r st sz =>
    rw [Wd.d]
    repeat (walk_at "m1")
    refine number_of_w a (fun n ea => ?_) (fun hn => ?_)
    · subst ea
      repeat (walk_at "m1")
      refine need_there_w w hw.1 (fun hl => ?_) (fun e hl => ?_)
      · repeat (walk_at "m1")
        refine sel_of (fun c => ?_) (fun c => ?_)
        · repeat (walk_at "m1")
          by_cases c2 : n < sz
          · repeat (walk_at "m1")
            exact q1 r (st + n) ((placeS_n hl).trans (if_pos ⟨by simpa using c, c2⟩))
          · repeat (walk_at "m1")
            exact q2 _ ((placeS_n hl).trans (if_neg fun z => c2 z.2))
        · repeat (walk_at "m1")
          exact q2 _ ((placeS_n hl).trans (if_neg fun z => by rw [decide_eq_false_iff_not] at c; exact c z.1))
      · exact q2 _ (placeS_e hl)
    · refine q2 _ ?_
      cases a with
      | num n => exact absurd rfl (hn n)
      | _ => rfl
theorem word_at_w (w : Rm col k h lr lo lp lt ps s) {W a : Wd} (hw : W.ok) (ht : s.tc.length < 90000) (q1 : ∀ x h', (lookS s W a).1 = .told (some x) → Fz (fun l => col l = k) h h' → h'.n = h.n → Rm col k h' lr lo lp lt ps (lookS s W a).2 → Q x.d h') (q2 : ∀ e, (lookS s W a).1 = .trap e → (lookS s W a).2 = s → E cT h.n (h.new (xW e))) : Ev E (f_Rooms_word_at [.loc lr, W.d, a.d] h) Q := by
  have w1 := w.r
  have w2 := w.p
  have w3 := w.t
  have ch := w.ch
  have cc := w.c
  refine u_Rooms_word_at ?_
  unfold b_Rooms_word_at
  repeat (walk_at "m1")
  refine place_of_w w hw (fun r p e => ?_) (fun e he => ?_)
  · obtain ⟨st, sz, n, ws, e1, e2, e3, e4, k1, k2, k3, k4, k5, _⟩ := placeS_ok hw e
    subst e1
    have hl : r.toNat < s.pl.length := (List.getElem?_eq_some_iff.mp e3).1
    have l1 := w.l1
    have l2 := w.l2
    obtain ⟨o, f1, f2⟩ := pl_at w k1 (by rw [List.length_map]; omega)
    have eo : ∃ a, o = some a := by
      cases o with
      | none => rw [w.q0 _ f1] at e3; cases e3
      | some a => exact ⟨a, rfl⟩
    obtain ⟨b, rfl⟩ := eo
    obtain ⟨ws', g1, g2, g3, g4, g5⟩ := w.q _ _ f1
    rw [e3] at g1
    cases g1
    rw [Wd.d]
    repeat (walk_at "m1")
    refine ev_ixL (by walk_at "mH") f2 ?_
    unfold pD
    have hx : ∃ x, ws[p.toNat]? = some x := ⟨_, List.getElem?_eq_getElem (by omega)⟩
    obtain ⟨x, hx⟩ := hx
    refine ev_ixL (xs := dW ws) (d := x.d) (by walk_at "mH") (by rw [nthN (by omega), List.getElem?_map, hx]; rfl) ?_
    have es : lookS s (.room r st sz) a = (.told ws[p.toNat]?, { s with tc := s.tc ++ [r] }) := by
      unfold lookS
      rw [e]
      simp only [roomAt_eq e3]
    rw [es] at q1
    refine q1 x _ (by rw [hx]) ((Fz.refl _ h).put _ (.inl (by omega))) rfl (w.touch r)
  · refine q2 e ?_ ?_
    · unfold lookS; rw [he]
    · unfold lookS; rw [he]
theorem put_at_w (w : Rm col k h lr lo lp lt ps s) {W a o : Wd} (hw : W.ok) (ht : s.tc.length < 90000) (q1 : ∀ h', (putS s W a o).1 = .told none → Fz (fun l => col l = k) h h' → h'.n = h.n → Rm col k h' lr lo lp lt ps (putS s W a o).2 → Q .non h') (q2 : ∀ e, (putS s W a o).1 = .trap e → (putS s W a o).2 = s → E cT h.n (h.new (xW e))) : Ev E (f_Rooms_put_at [.loc lr, W.d, a.d, o.d] h) Q := by
  have w1 := w.r
  have w2 := w.p
  have w3 := w.t
  have ch := w.ch
  have cc := w.c
  refine u_Rooms_put_at ?_
  unfold b_Rooms_put_at
  repeat (walk_at "m1")
  refine place_of_w w hw (fun r p e => ?_) (fun e he => ?_)
  · obtain ⟨st, sz, n, ws, e1, e2, e3, e4, k1, k2, k3, k4, k5, _⟩ := placeS_ok hw e
    subst e1
    have hl : r.toNat < s.pl.length := (List.getElem?_eq_some_iff.mp e3).1
    have l1 := w.l1
    have l2 := w.l2
    obtain ⟨oo, f1, f2⟩ := pl_at w k1 (by rw [List.length_map]; omega)
    have eo : ∃ a, oo = some a := by
      cases oo with
      | none => rw [w.q0 _ f1] at e3; cases e3
      | some a => exact ⟨a, rfl⟩
    obtain ⟨b, rfl⟩ := eo
    obtain ⟨ws', g1, g2, g3, g4, g5⟩ := w.q _ _ f1
    rw [e3] at g1
    cases g1
    rw [Wd.d]
    repeat (walk_at "m1")
    refine ev_ixL (by walk_at "mH") f2 ?_
    unfold pD
    repeat (walk_at "m1")
    refine gi (xs := dW ws) (j := p.toNat) (by walk_at "mH") (by rw [ixI_at (by omega) (by rw [List.length_map]; omega)]) ?_
    have es : putS s (.room r st sz) a o = (.told none, { s with tc := s.tc ++ [r], pl := s.pl.set r.toNat (some (ws.set p.toNat o)) }) := by
      unfold putS
      rw [e]
      simp only [roomAt_eq e3]
    rw [es] at q1
    have em : (dW ws).set p.toNat o.d = dW (ws.set p.toNat o) := (List.map_set).symm
    rw [em]
    exact q1 _ rfl (((Fz.refl _ h).put _ (.inl (by omega))).put _ (.inl g5)) rfl ((w.touch r).place f1 _)
  · refine q2 e ?_ ?_
    · unfold putS; rw [he]
    · unfold putS; rw [he]
theorem part_of_w (w : Rm col k h lr lo lp lt ps s) {W a b : Wd} (hw : W.ok) (q1 : ∀ x, partS s W a b = .told (some x) → Q x.d h) (q2 : ∀ e, partS s W a b = .trap e → E cT h.n (h.new (xW e))) : Ev E (f_Rooms_part_of [.loc lr, W.d, a.d, b.d] h) Q := by
  have w1 := w.r
  refine u_Rooms_part_of ?_
  unfold b_Rooms_part_of
  cases W with
  | num n =>
    rw [Wd.d]
    repeat (walk_at "m1")
    exact q2 _ rfl
  | proc x y =>
    rw [Wd.d]
    repeat (walk_at "m1")
    exact q2 _ rfl
  | room r st sz =>
    rw [Wd.d]
    repeat (walk_at "m1")
    refine number_of_w a (fun n ea => ?_) (fun hn => ?_)
    · subst ea
      repeat (walk_at "m1")
      refine number_of_w b (fun m eb => ?_) (fun hm => ?_)
      · subst eb
        repeat (walk_at "m1")
        refine need_there_w w hw.1 (fun hl => ?_) (fun e hl => ?_)
        · have ep : partS s (.room r st sz) (.num n) (.num m) = if n < 0 ∨ m < 0 ∨ n + m > sz then .trap q_bounds else .told (some (.room r (st + n) m)) := by
            exact partS_n hl
          rw [ep] at q1 q2
          by_cases c1 : n < 0
          · repeat (walk_at "m1")
            exact q2 _ (if_pos (.inl c1))
          · by_cases c2 : m < 0
            · repeat (walk_at "m1")
              exact q2 _ (if_pos (.inr (.inl c2)))
            · by_cases c3 : n + m > sz
              · repeat (walk_at "m1")
                exact q2 _ (if_pos (.inr (.inr c3)))
              · repeat (walk_at "m1")
                exact q1 _ (if_neg (by omega))
        · exact q2 _ (partS_e hl)
      · refine q2 _ ?_
        cases b with
        | num n => exact absurd rfl (hm n)
        | _ => rfl
    · refine q2 _ ?_
      cases a with
      | num n => exact absurd rfl (hn n)
      | _ => rfl
theorem size_of_w (w : Rm col k h lr lo lp lt ps s) {W : Wd} (hw : W.ok) (q1 : ∀ x, sizeS s W = .told (some x) → Q x.d h) (q2 : ∀ e, sizeS s W = .trap e → E cT h.n (h.new (xW e))) : Ev E (f_Rooms_size_of [.loc lr, W.d] h) Q := by
  have w1 := w.r
  refine u_Rooms_size_of ?_
  unfold b_Rooms_size_of
  cases W with
  | num n =>
    rw [Wd.d]
    repeat (walk_at "m1")
    exact q2 _ rfl
  | proc x y =>
    rw [Wd.d]
    repeat (walk_at "m1")
    exact q2 _ rfl
  | room r st sz =>
    rw [Wd.d]
    repeat (walk_at "m1")
    refine need_there_w w hw.1 (fun hl => ?_) (fun e hl => ?_)
    · repeat (walk_at "m1")
      exact q1 (.num sz) (sizeS_n hl)
    · exact q2 _ (sizeS_e hl)
theorem Rm.made (w : Rm col k h lr lo lp lt ps s) {h' : Hm} {a : Nat} {o : Int} {us : List Wd} (f : Fz (fun l => col l = k) h h') (ha : h.n ≤ a) (ha2 : a < h'.n) (e1 : h'.g lr = h.g lr) (e2 : h'.g lo = some (.lst (dI (s.own ++ [o])))) (e3 : h'.g lp = some (.lst ((ps ++ [some a]).map pD))) (e4 : h'.g lt = some (.lst (dI (s.tc ++ [(s.own.length : Int)]))))
    (e5 : h'.g a = some (.lst (dW us))) (e6 : ∀ b, (lt < b ∧ b ≠ lp) → b < h.n → h'.g b = h.g b) : Rm (fun l => if l < h.n then col l else k) k h' lr lo lp lt (ps ++ [some a]) { s with own := s.own ++ [o], pl := s.pl ++ [some us], tc := s.tc ++ [(s.own.length : Int)] } := by
  obtain ⟨r, o, p, t, l1, l2, q, q0, mono, ch, c⟩ := w
  have fn := f.n
  refine ⟨e1.trans r, e2, e3, e4, by simp [l1], by simp [l2], fun i b e => ?_, fun i e => ?_, fun i j a' b' ea eb hij => ?_, by omega, ?_⟩
  · by_cases hi : i < ps.length
    · rw [List.getElem?_append_left hi] at e
      obtain ⟨ws, g1, g2, g3, g4, g5⟩ := q i b e
      exact ⟨ws, by rw [List.getElem?_append_left (by omega)]; exact g1, (e6 b g3 g4).trans g2, g3, by omega, by show (if b < h.n then col b else k) = k; rw [if_pos g4]; exact g5⟩
    · rw [List.getElem?_append_right (by omega)] at e
      have : i - ps.length = 0 := by
        have := (List.getElem?_eq_some_iff.mp e).1
        simp at this
        exact this
      rw [this] at e
      cases e
      have hi2 : i = ps.length := by omega
      exact ⟨us, by show (s.pl ++ [some us])[i]? = _; rw [List.getElem?_append_right (by omega)]; simp [hi2, l1, l2], e5, by omega, ha2, by show (if a < h.n then col a else k) = k; rw [if_neg (by omega)]⟩
  · by_cases hi : i < ps.length
    · rw [List.getElem?_append_left hi] at e
      show (s.pl ++ [some us])[i]? = _
      rw [List.getElem?_append_left (by omega)]
      exact q0 i e
    · rw [List.getElem?_append_right (by omega)] at e
      have := List.mem_of_getElem? e
      simp at this
  · by_cases hj : j < ps.length
    · rw [List.getElem?_append_left hj] at eb
      rw [List.getElem?_append_left (by omega)] at ea
      exact mono i j a' b' ea eb hij
    · rw [List.getElem?_append_right (by omega)] at eb
      have eb' := List.mem_of_getElem? eb
      simp at eb'
      have hj2 := (List.getElem?_eq_some_iff.mp eb).1
      simp at hj2
      rw [List.getElem?_append_left (by omega)] at ea
      obtain ⟨ws, g1, g2, g3, g4, g5⟩ := q i a' ea
      omega
  · show (if lr < h.n then col lr else k) = k ∧ (if lo < h.n then col lo else k) = k ∧ (if lp < h.n then col lp else k) = k ∧ (if lt < h.n then col lt else k) = k
    rw [if_pos (by omega), if_pos (by omega), if_pos (by omega), if_pos (by omega)]
    exact c
theorem make_room_w (w : Rm col k h lr lo lp lt ps s) {m : Wd} {o : Int} (ho : s.own.length < 90000) (ht : s.tc.length < 90000) (q1 : ∀ x h' ps' col', (makeS s m o).1 = .told (some x) → Fz (fun l => col l = k) h h' → (∀ l, l < h.n → col' l = col l) → Rm col' k h' lr lo lp lt ps' (makeS s m o).2 → Q x.d h') (q2 : ∀ e, (makeS s m o).1 = .trap e → (makeS s m o).2 = s → E cT h.n (h.new (xW e))) : Ev E (f_Rooms_make_room [.loc lr, m.d, .int o] h) Q := by
  have w1 := w.r
  have w2 := w.o
  have w3 := w.p
  have w4 := w.t
  have ch := w.ch
  have cc := w.c
  have l1 := w.l1
  refine u_Rooms_make_room ?_
  unfold b_Rooms_make_room
  repeat (walk_at "m1")
  refine number_of_w m (fun n em => ?_) (fun hn => ?_)
  · subst em
    repeat (walk_at "m1")
    by_cases c0 : 0 ≤ n
    · by_cases c1 : n ≤ 64
      · repeat (walk_at "m1")
        rw [List.length_map]
        by_cases c2 : (s.own.length : Int) ≥ s.mo
        · repeat (walk_at "m1")
          refine q2 q_full ?_ ?_
          · show (if 0 ≤ n ∧ n ≤ 64 then _ else _ : Rs × RmS).1 = _
            rw [if_pos ⟨c0, c1⟩, if_pos c2]
          · show (if 0 ≤ n ∧ n ≤ 64 then _ else _ : Rs × RmS).2 = _
            rw [if_pos ⟨c0, c1⟩, if_pos c2]
        · repeat (walk_at "m1")
          have es : makeS s (.num n) o = (.told (some (.room s.own.length 0 n)), { s with own := s.own ++ [o], pl := s.pl ++ [some (zeros n)], tc := s.tc ++ [(s.own.length : Int)] }) := by
            show (if 0 ≤ n ∧ n ≤ 64 then _ else _ : Rs × RmS) = _
            rw [if_pos ⟨c0, c1⟩, if_neg c2]
          rw [es] at q1
          refine ev_rep (xs := [.tup [.str q_num, .int 0]]) (by walk_at "mH") (by simp only [List.length_cons, List.length_nil]; unfold SL; omega) ?_
          have ez : (List.replicate n.toNat [D.tup [D.str q_num, D.int 0]]).flatten = dW (zeros n) := by
            unfold zeros
            simp [Wd.d]
          rw [ez]
          repeat (walk_at "m1")
          have FF : Fz (fun l => col l = k) h (((((h.put lo (.lst (dI s.own ++ [.int o]))).new (.lst [.tup [.str q_num, .int 0]])).new (.lst (dW (zeros n)))).put lp (.lst (ps.map pD ++ [.loc ((h.put lo (.lst (dI s.own ++ [.int o]))).new (.lst [.tup [.str q_num, .int 0]])).n]))).put lt (.lst (dI s.tc ++ [.int s.own.length]))) := (((((Fz.refl (fun l => col l = k) h).put _ (.inl cc.2.1)).new _).new _).put _ (.inl cc.2.2.1)).put _ (.inl cc.2.2.2)
          refine q1 (.room s.own.length 0 n) _ (ps ++ [some (h.n + 1)]) _ rfl ?_ (fun l hl => if_pos hl) (Rm.made w ?_ (Nat.le_succ _) ?_ ?_ ?_ ?_ ?_ ?_ ?_)
          · exact FF
          · exact FF
          · simp only [put_n, new_n]; omega
          · have m1 := w.ch
            refine Eq.trans (put_ne (by omega)) (Eq.trans (put_ne (by omega)) (Eq.trans (new_ne (by simp only [new_n, put_n]; omega)) (Eq.trans (new_ne (by simp only [put_n]; omega)) (put_ne (by omega)))))
          · refine Eq.trans (b := some (.lst (dI s.own ++ [.int o]))) (by walk_at "mH") (by rw [dI_snoc])
          · refine Eq.trans (put_ne (by omega)) (Eq.trans (put_eq rfl) ?_)
            rw [List.map_append]
            rfl
          · refine Eq.trans (put_eq rfl) (by rw [dI_snoc])
          · refine Eq.trans (put_ne (by omega)) (Eq.trans (put_ne (by omega)) (new_eq ?_))
            simp only [new_n, put_n]
          · intro b hb hb2
            refine Eq.trans (put_ne (by omega)) (Eq.trans (put_ne (by omega)) (Eq.trans (new_ne (by simp only [new_n, put_n]; omega)) (Eq.trans (new_ne (by simp only [put_n]; omega)) (put_ne (by omega)))))
      · repeat (walk_at "m1")
        refine q2 q_size ?_ ?_
        · exact congrArg Prod.fst (if_neg fun z => c1 z.2)
        · exact congrArg Prod.snd (if_neg fun z => c1 z.2)
    · repeat (walk_at "m1")
      refine q2 q_size ?_ ?_
      · exact congrArg Prod.fst (if_neg fun z => c0 z.1)
      · exact congrArg Prod.snd (if_neg fun z => c0 z.1)
  · refine q2 q_kind ?_ ?_
    · cases m with
      | num n => exact absurd rfl (hn n)
      | _ => rfl
    · cases m with
      | num n => exact absurd rfl (hn n)
      | _ => rfl
end
end Lw
end
section
set_option maxHeartbeats 2000000
namespace Lw
open PySem Mo
section
variable {E : XE} {Q : D → Hm → Prop} {col col' : Nat → Nat} {k j : Nat} {h h' : Hm} {lr lo lp lt : Nat} {ps : List (Option Nat)} {s : RmS}
theorem ev_xf {σ : Mo.Env} {a : ME} {cs : List Nat} {f : Str} (q : Ev E (a σ h) fun x h1 => Ev E (xfK cs f x h1) Q) : Ev E (eXf a cs f σ h) Q := ev_bind q
theorem ev_xfK {cs : List Nat} {f : Str} {l c m : Nat} {fs : List (Str × D)} {v : D} (e1 : h.g l = some (.xc c m)) (e2 : h.g m = some (.xd fs)) (e3 : cs.contains c = true) (e4 : lookF f fs = some v) (q : Q v h) : Ev E (xfK cs f (.loc l) h) Q := by
  unfold xfK
  simp only [e1, e2, e4]
  exact ev_ifR e3 q
theorem asked_w (w : Rm col k h lr lo lp lt ps s) {d : Dd} (hd : d.ok) (ho : s.own.length < 90000) (ht : s.tc.length < 90000) (b : Bool)
    (q1 : ∀ x h' ps' col', (stepS s d).1 = .told x → Fz (fun l => col l = k) h h' → (∀ l, l < h.n → col' l = col l) → Rm col' k h' lr lo lp lt ps' (stepS s d).2 → Q (oD x) h')
    (q2 : ∀ e, (stepS s d).1 = .trap e → (stepS s d).2 = s → E cT h.n (h.new (xW e))) : Ev E (f_asked [.loc lr, d.d, .bl b] h) Q := by
  have w1 := w.r
  have F0 : Fz (fun l => col l = k) h h := Fz.refl _ h
  refine u_asked ?_
  unfold b_asked
  cases d with
  | make m o =>
    have q1 := fun x h' ps' col' => q1 (some x) h' ps' col'
    rw [Dd.d]
    cases b with
    | true =>
      repeat (walk_at "m1")
      exact make_room_w w ho ht q1 q2
    | false =>
      repeat (walk_at "m1")
      exact make_room_w w ho ht q1 q2
  | look W a =>
    have q1 := fun x h' e f (_ : h'.n = h.n) w' => q1 (some x) h' ps col e f (fun _ _ => rfl) w'
    rw [Dd.d]
    cases b with
    | true =>
      repeat (walk_at "m1")
      exact word_at_w w hd.1 ht q1 q2
    | false =>
      repeat (walk_at "m1")
      exact word_at_w w hd.1 ht q1 q2
  | put W a o =>
    have q1 := fun h' e f (_ : h'.n = h.n) w' => q1 none h' ps col e f (fun _ _ => rfl) w'
    rw [Dd.d]
    cases b with
    | true =>
      repeat (walk_at "m1")
      exact put_at_w w hd.1 ht q1 q2
    | false =>
      repeat (walk_at "m1")
      exact put_at_w w hd.1 ht q1 q2
  | part W a o =>
    have q1 := fun x e => q1 (some x) h ps col e F0 (fun _ _ => rfl) w
    have q2 := fun e f => q2 e f rfl
    rw [Dd.d]
    cases b with
    | true =>
      repeat (walk_at "m1")
      exact part_of_w w hd.1 q1 q2
    | false =>
      repeat (walk_at "m1")
      exact part_of_w w hd.1 q1 q2
  | size W =>
    have q1 := fun x e => q1 (some x) h ps col e F0 (fun _ _ => rfl) w
    have q2 := fun e f => q2 e f rfl
    rw [Dd.d]
    cases b with
    | true =>
      repeat (walk_at "m1")
      exact size_of_w w hd q1 q2
    | false =>
      repeat (walk_at "m1")
      exact size_of_w w hd q1 q2
theorem done_w (w : Rm col k h lr lo lp lt ps s) {d : Dd} (hd : d.ok) (ho : s.own.length < 90000) (ht : s.tc.length < 90000) (b : Bool)
    (q : ∀ h' ps' col', Fz (fun l => col l = k) h h' → (∀ l, l < h.n → col' l = col l) → Rm col' k h' lr lo lp lt ps' (stepS s d).2 → Q (stepS s d).1.d h') : Ev E (f_done [.loc lr, d.d, .bl b] h) Q := by
  refine u_done ?_
  unfold b_done
  repeat (walk_at "m1")
  refine es_try ?_
  repeat (walk_at "m1")
  refine asked_w w hd ho ht b (fun x h' ps' col' e f ag w' => ?_) (fun e he hs => ⟨rfl, ?_⟩)
  · rw [e] at q
    cases x with
    | none =>
      repeat (walk_at "m1")
      exact q h' ps' col' f ag w'
    | some x =>
      repeat (walk_at "m1")
      exact q h' ps' col' f ag w'
  · rw [he, hs] at q
    have W2 : Rm col k ((h.new (xW e)).new (.xc cT h.n)) lr lo lp lt ps s := w.st (j := k + 1) (((Fz.refl _ h).new _).new _) (by omega) (fun _ _ => rfl)
    refine sel_t rfl ?_
    refine es_gone ?_
    repeat (first | with_reducible refine ev_xf ?_ | ((with_reducible refine' ev_xfK ?e1 ?e2 ?e3 ?e4 ?qq); (case e1 => walk_at "mH"); (case e2 => walk_at "mH"); (case e3 => exact rfl); (case e4 => exact rfl)) | walk_at "m1")
    exact q _ ps col (((Fz.refl _ h).new _).new _) (fun _ _ => rfl) W2
end
end Lw
end
section
set_option maxHeartbeats 2000000
namespace Lw
open PySem Mo
abbrev ownF (mo : Int) (lR lT lW : Nat) : O := .dic [(.inr q_most, .int mo), (.inr q_rows, .loc lR), (.inr q_touched, .loc lT), (.inr q_words, .loc lW)]
abbrev rowF (o : Int) (p : Option Nat) : O := .dic [(.inr q_owner, .int o), (.inr q_places, pD p)]
abbrev rD (rs : List (Nat × Option Nat)) : List D := rs.map fun p => .loc p.1
abbrev Ap (lo lR lT lW a : Nat) : Prop := a ≠ lo ∧ a ≠ lR ∧ a ≠ lT ∧ a ≠ lW
structure Ow (col : Nat → Nat) (k : Nat) (h : Hm) (lo lR lT lW : Nat) (rs : List (Nat × Option Nat)) (s : RmS) (wl : List Wd) : Prop where
  d : h.g lo = some (ownF s.mo lR lT lW)
  r : h.g lR = some (.lst (rD rs))
  t : h.g lT = some (.lst (dI s.tc))
  w : h.g lW = some (.lst (dW wl))
  l1 : rs.length = s.own.length
  l2 : s.pl.length = s.own.length
  q : ∀ (i : Nat) (p : Nat × Option Nat), rs[i]? = some p → ∃ o, s.own[i]? = some o ∧ h.g p.1 = some (rowF o p.2) ∧ Ap lo lR lT lW p.1 ∧ p.1 < h.n ∧ col p.1 = k
  q2 : ∀ (i a b : Nat), rs[i]? = some (a, some b) → ∃ ws, s.pl[i]? = some (some ws) ∧ h.g b = some (.lst (dW ws)) ∧ Ap lo lR lT lW b ∧ b < a ∧ col b = k
  q0 : ∀ i a : Nat, rs[i]? = some (a, none) → s.pl[i]? = some none
  mono : ∀ (i j : Nat) (p p' : Nat × Option Nat), rs[i]? = some p → rs[j]? = some p' → i < j → p.1 < p'.1 ∧ ∀ b, p'.2 = some b → p.1 < b
  ch : lR < lT ∧ lT < lW ∧ lW < lo ∧ lo < h.n
  c : col lo = k ∧ col lR = k ∧ col lT = k ∧ col lW = k
  wo : ∀ x ∈ wl, x.ok
section
variable {E : XE} {Q : D → Hm → Prop} {col col' : Nat → Nat} {k j : Nat} {h h' : Hm} {lo lR lT lW : Nat} {rs : List (Nat × Option Nat)} {s : RmS} {wl : List Wd}
theorem Ow.st (w : Ow col k h lo lR lT lW rs s wl) (f : Fz (fun l => col l = j) h h') (ne : k ≠ j) (ag : ∀ l, l < h.n → col' l = col l) : Ow col' k h' lo lR lT lW rs s wl := by
  obtain ⟨d, r, t, ww, l1, l2, q, q2, q0, mono, ch, c, wo⟩ := w
  have fn := f.n
  refine ⟨by walk_at "mH", by walk_at "mH", by walk_at "mH", by walk_at "mH", l1, l2, fun i p e => ?_, fun i a b e => ?_, q0, mono, by omega, by rw [ag lo (by omega), ag lR (by omega), ag lT (by omega), ag lW (by omega)]; exact c, wo⟩
  · obtain ⟨o, e1, e2, e3, e4, e5⟩ := q i p e
    exact ⟨o, e1, f.at e4 (by omega) e2, e3, by omega, by rw [ag _ e4]; exact e5⟩
  · obtain ⟨ws, e1, e2, e3, e4, e5⟩ := q2 i a b e
    obtain ⟨o, e6, e7, e8, e9, e10⟩ := q i _ e
    have e9 : a < h.n := e9
    exact ⟨ws, e1, f.at (Nat.lt_trans e4 e9) (by omega) e2, e3, e4, by rw [ag _ (Nat.lt_trans e4 e9)]; exact e5⟩
theorem row_at (w : Ow col k h lo lR lT lW rs s wl) {r : Int} (k0 : 0 ≤ r) (k1 : r < (rD rs).length) : ∃ p o, rs[r.toNat]? = some p ∧ nth (rD rs) r = some (.loc p.1) ∧ s.own[r.toNat]? = some o ∧ h.g p.1 = some (rowF o p.2) := by
  rw [List.length_map] at k1
  have e : rs[r.toNat]? = some (rs[r.toNat]'(by omega)) := List.getElem?_eq_getElem _
  obtain ⟨o, e1, e2, _⟩ := w.q _ _ e
  refine ⟨_, o, e, ?_, e1, e2⟩
  rw [nthN k0, List.getElem?_map, e]
  rfl
def oS : Option Str → D
  | some e => .str e
  | none => .non
theorem lead_w (w : Ow col k h lo lR lT lW rs s wl) {r st sz : Int} (k0 : 0 ≤ r) (q : Q (oS (leadS s.pl r st sz)) h) : Ev E (f_lead [.loc lo, .tup [.str q_room, .int r, .int st, .int sz]] h) Q := by
  have w1 := w.d
  have w2 := w.r
  have l1 := w.l1
  have l2 := w.l2
  refine u_lead ?_
  unfold b_lead
  repeat (walk_at "m1")
  refine sel_of (fun c => ?_) (fun c => ?_)
  · repeat (walk_at "m1")
    rw [List.length_map, decide_eq_true_eq] at c
    have : leadS s.pl r st sz = some q_gone := by
      unfold leadS
      rw [List.getElem?_eq_none (by omega)]
    rw [this] at q
    exact q
  · rw [decide_eq_false_iff_not] at c
    obtain ⟨p, o, e1, e2, e3, e4⟩ := row_at w k0 (by omega)
    obtain ⟨a, p⟩ := p
    repeat (walk_at "m1")
    refine ev_ixL w2 e2 ?_
    cases p with
    | none =>
      repeat (walk_at "m1")
      have : leadS s.pl r st sz = some q_gone := by
        unfold leadS
        rw [w.q0 _ _ e1]
      rw [this] at q
      exact q
    | some b =>
      obtain ⟨ws, f1, f2, f3, f4, f5⟩ := w.q2 _ _ _ e1
      refine ev_dgetS e4 (by exact rfl) ?_
      unfold pD
      repeat (walk_at "m1")
      refine ev_ixL w2 e2 ?_
      refine ev_dgetS e4 (by exact rfl) ?_
      unfold pD
      repeat (walk_at "m1")
      have ld : leadS s.pl r st sz = if st + sz > ws.length then some q_bounds else none := by
        unfold leadS
        rw [f1]
      rw [List.length_map]
      refine sel_of (fun c => ?_) (fun c => ?_)
      · repeat (walk_at "m1")
        rw [ld, if_pos (by simpa using c)] at q
        exact q
      · repeat (walk_at "m1")
        rw [ld, if_neg (by simpa using c)] at q
        exact q
theorem oplace_w (w : Ow col k h lo lR lT lW rs s wl) {W a : Wd} (hw : W.ok) (q : Q (match placeS s.pl W a with | .error e => .str e | .ok _ => .non) h) : Ev E (f_place [.loc lo, W.d, a.d] h) Q := by
  have w1 := w.d
  refine u_place ?_
  unfold b_place
  cases W with
  | num n =>
    rw [Wd.d]
    repeat (walk_at "m1")
    exact q
  | proc x y =>
    rw [Wd.d]
    repeat (walk_at "m1")
    exact q
  | room r st sz =>
    cases a with
    | room x y z =>
      rw [Wd.d, Wd.d]
      repeat (walk_at "m1")
      exact q
    | proc x y =>
      rw [Wd.d, Wd.d]
      repeat (walk_at "m1")
      exact q
    | num n =>
      rw [Wd.d, Wd.d]
      repeat (walk_at "m1")
      refine lead_w w hw.1 ?_
      cases hl : leadS s.pl r st sz with
      | some e =>
        rw [placeS_e hl] at q
        unfold oS
        repeat (walk_at "m1")
        exact q
      | none =>
        rw [placeS_n hl] at q
        unfold oS
        by_cases c1 : 0 ≤ n
        · by_cases c2 : n < sz
          · rw [if_pos ⟨c1, c2⟩] at q
            repeat (walk_at "m1")
            exact q
          · rw [if_neg fun z => c2 z.2] at q
            repeat (walk_at "m1")
            exact q
        · rw [if_neg fun z => c1 z.1] at q
          repeat (walk_at "m1")
          exact q
theorem opart_w (w : Ow col k h lo lR lT lW rs s wl) {W a b : Wd} (hw : W.ok) (q : Q (partS s W a b).d h) : Ev E (f_part [.loc lo, W.d, a.d, b.d] h) Q := by
  have w1 := w.d
  refine u_part ?_
  unfold b_part
  cases W with
  | num n =>
    rw [Wd.d]
    repeat (walk_at "m1")
    exact q
  | proc x y =>
    rw [Wd.d]
    repeat (walk_at "m1")
    exact q
  | room r st sz =>
    cases a with
    | room x y z =>
      rw [Wd.d, Wd.d]
      repeat (walk_at "m1")
      exact q
    | proc x y =>
      rw [Wd.d, Wd.d]
      repeat (walk_at "m1")
      exact q
    | num n =>
      cases b with
      | room x y z =>
        rw [Wd.d, Wd.d, Wd.d]
        repeat (walk_at "m1")
        exact q
      | proc x y =>
        rw [Wd.d, Wd.d, Wd.d]
        repeat (walk_at "m1")
        exact q
      | num m =>
        rw [Wd.d, Wd.d, Wd.d]
        repeat (walk_at "m1")
        refine lead_w w hw.1 ?_
        cases hl : leadS s.pl r st sz with
        | some e =>
          rw [partS_e hl] at q
          unfold oS
          repeat (walk_at "m1")
          exact q
        | none =>
          rw [partS_n hl] at q
          unfold oS
          by_cases c1 : n < 0
          · rw [if_pos (.inl c1)] at q
            repeat (walk_at "m1")
            exact q
          · by_cases c2 : m < 0
            · rw [if_pos (.inr (.inl c2))] at q
              repeat (walk_at "m1")
              exact q
            · by_cases c3 : n + m > sz
              · rw [if_pos (.inr (.inr c3))] at q
                repeat (walk_at "m1")
                exact q
              · rw [if_neg (by omega)] at q
                repeat (walk_at "m1")
                exact q
end
end Lw
end
section
set_option maxHeartbeats 2000000
namespace Lw
open PySem Mo
section
variable {E : XE} {Q : D → Hm → Prop} {col col' : Nat → Nat} {k j : Nat} {h h' : Hm} {lo lR lT lW : Nat} {rs : List (Nat × Option Nat)} {s : RmS} {wl : List Wd}
theorem Ow.touch (w : Ow col k h lo lR lT lW rs s wl) (x : Int) : Ow col k (h.put lT (.lst (dI s.tc ++ [.int x]))) lo lR lT lW rs { s with tc := s.tc ++ [x] } wl := by
  obtain ⟨d, r, t, ww, l1, l2, q, q2, q0, mono, ch, c, wo⟩ := w
  rw [dI_snoc]
  refine ⟨by walk_at "mH", by walk_at "mH", by walk_at "mH", by walk_at "mH", l1, l2, fun i p e => ?_, fun i a b e => ?_, q0, mono, ch, c, wo⟩
  · obtain ⟨o, e1, e2, e3, e4, e5⟩ := q i p e
    exact ⟨o, e1, by walk_at "mH", e3, e4, e5⟩
  · obtain ⟨ws, e1, e2, e3, e4, e5⟩ := q2 i a b e
    exact ⟨ws, e1, by walk_at "mH", e3, e4, e5⟩
theorem Ow.word (w : Ow col k h lo lR lT lW rs s wl) {x : Wd} (hx : x.ok) : Ow col k (h.put lW (.lst (dW wl ++ [x.d]))) lo lR lT lW rs s (wl ++ [x]) := by
  obtain ⟨d, r, t, ww, l1, l2, q, q2, q0, mono, ch, c, wo⟩ := w
  have e : dW wl ++ [x.d] = dW (wl ++ [x]) := by simp
  rw [e]
  refine ⟨by walk_at "mH", by walk_at "mH", by walk_at "mH", by walk_at "mH", l1, l2, fun i p e => ?_, fun i a b e => ?_, q0, mono, ch, c, fun y hy => ?_⟩
  · obtain ⟨o, e1, e2, e3, e4, e5⟩ := q i p e
    exact ⟨o, e1, by walk_at "mH", e3, e4, e5⟩
  · obtain ⟨ws, e1, e2, e3, e4, e5⟩ := q2 i a b e
    exact ⟨ws, e1, by walk_at "mH", e3, e4, e5⟩
  · rcases List.mem_append.mp hy with hy | hy
    · exact wo y hy
    · rw [List.mem_singleton.mp hy]; exact hx
theorem Ow.place (w : Ow col k h lo lR lT lW rs s wl) {i a b : Nat} (e : rs[i]? = some (a, some b)) (us : List Wd) : Ow col k (h.put b (.lst (dW us))) lo lR lT lW rs { s with pl := s.pl.set i (some us) } wl := by
  obtain ⟨d, r, t, ww, l1, l2, q, q2, q0, mono, ch, c, wo⟩ := w
  obtain ⟨ws, f1, f2, f3, f4, f5⟩ := q2 i a b e
  refine ⟨by walk_at "mH", by walk_at "mH", by walk_at "mH", by walk_at "mH", l1, by rw [List.length_set]; exact l2, fun i' p e' => ?_, fun i' a' b' e' => ?_, fun i' a' e' => ?_, mono, ch, c, wo⟩
  · obtain ⟨o, e1, e2, e3, e4, e5⟩ := q i' p e'
    have hne : p.1 ≠ b := by
      rcases Nat.lt_trichotomy i i' with z | z | z
      · have := (mono i i' _ _ e e' z).1
        have : a < p.1 := this
        omega
      · subst z
        rw [e] at e'
        cases e'
        show a ≠ b
        omega
      · have := (mono i' i _ _ e' e z).2 b rfl
        omega
    exact ⟨o, e1, by walk_at "mH", e3, e4, e5⟩
  · obtain ⟨vs, g1, g2, g3, g4, g5⟩ := q2 i' a' b' e'
    by_cases hij : i = i'
    · subst hij
      rw [e] at e'
      cases e'
      exact ⟨us, by rw [List.getElem?_set, if_pos rfl, if_pos (List.getElem?_eq_some_iff.mp f1).1], by walk_at "mH", g3, g4, g5⟩
    · have hne : b ≠ b' := by
        rcases Nat.lt_or_gt_of_ne hij with z | z
        · have := (mono i i' _ _ e e' z).2 b' rfl
          have : a < b' := this
          omega
        · have := (mono i' i _ _ e' e z).2 b rfl
          have : a' < b := this
          omega
      exact ⟨vs, by rw [List.getElem?_set_ne hij]; exact g1, by walk_at "mH", g3, g4, g5⟩
  · have := q0 i' a' e'
    by_cases hij : i = i'
    · subst hij
      rw [e] at e'
      cases e'
    · rw [List.getElem?_set_ne hij]; exact this
theorem Ow.made (w : Ow col k h lo lR lT lW rs s wl) {h' : Hm} {a b : Nat} {o : Int} {us : List Wd} (f : Fz (fun l => col l = k) h h') (hb : h.n ≤ b) (hab : b < a) (ha : a < h'.n) (e0 : h'.g lo = h.g lo) (e1 : h'.g lR = some (.lst (rD (rs ++ [(a, some b)])))) (e2 : h'.g lT = some (.lst (dI (s.tc ++ [(s.own.length : Int)])))) (e3 : h'.g lW = h.g lW)
    (e4 : h'.g b = some (.lst (dW us))) (e5 : h'.g a = some (rowF o (some b))) (e6 : ∀ b, Ap lo lR lT lW b → b < h.n → h'.g b = h.g b) : Ow (fun l => if l < h.n then col l else k) k h' lo lR lT lW (rs ++ [(a, some b)]) { s with own := s.own ++ [o], pl := s.pl ++ [some us], tc := s.tc ++ [(s.own.length : Int)] } wl := by
  obtain ⟨d, r, t, ww, l1, l2, q, q2, q0, mono, ch, c, wo⟩ := w
  have fn := f.n
  have last : ∀ {i : Nat} {p : Nat × Option Nat}, ¬ i < rs.length → (rs ++ [(a, some b)])[i]? = some p → i = rs.length ∧ p = (a, some b) := fun {i p} hi e => by
    rw [List.getElem?_append_right (by omega)] at e
    have h1 := (List.getElem?_eq_some_iff.mp e).1
    rw [List.length_singleton] at h1
    have h2 : i - rs.length = 0 := by omega
    rw [h2] at e
    cases e
    exact ⟨by omega, rfl⟩
  refine ⟨e0.trans d, e1, e2, e3.trans ww, by simp [l1], by simp [l2], fun i p e => ?_, fun i a' b' e => ?_, fun i a' e => ?_, fun i j p p' ea eb hij => ?_, by omega, ?_, wo⟩
  · by_cases hi : i < rs.length
    · rw [List.getElem?_append_left hi] at e
      obtain ⟨o, g1, g2, g3, g4, g5⟩ := q i p e
      exact ⟨o, by show (s.own ++ _)[i]? = _; rw [List.getElem?_append_left (by omega)]; exact g1, (e6 _ g3 g4).trans g2, g3, by omega, by show (if p.1 < h.n then col p.1 else k) = k; rw [if_pos g4]; exact g5⟩
    · obtain ⟨z1, z2⟩ := last hi e
      subst z2
      exact ⟨o, by show (s.own ++ [o])[i]? = _; rw [List.getElem?_append_right (by omega)]; simp [z1, l1], e5, by show Ap lo lR lT lW a; unfold Ap; omega, ha, by show (if a < h.n then col a else k) = k; rw [if_neg (by omega)]⟩
  · by_cases hi : i < rs.length
    · rw [List.getElem?_append_left hi] at e
      obtain ⟨ws, g1, g2, g3, g4, g5⟩ := q2 i a' b' e
      obtain ⟨_, _, _, _, g6, _⟩ := q i _ e
      have g6 : a' < h.n := g6
      have g7 : b' < h.n := Nat.lt_trans g4 g6
      exact ⟨ws, by show (s.pl ++ _)[i]? = _; rw [List.getElem?_append_left (by omega)]; exact g1, (e6 _ g3 g7).trans g2, g3, g4, by show (if b' < h.n then col b' else k) = k; rw [if_pos g7]; exact g5⟩
    · obtain ⟨z1, z2⟩ := last hi e
      cases z2
      exact ⟨us, by show (s.pl ++ [some us])[i]? = _; rw [List.getElem?_append_right (by omega)]; simp [z1, l1, l2], e4, by omega, hab, by show (if b < h.n then col b else k) = k; rw [if_neg (by omega)]⟩
  · by_cases hi : i < rs.length
    · rw [List.getElem?_append_left hi] at e
      show (s.pl ++ _)[i]? = _
      rw [List.getElem?_append_left (by omega)]
      exact q0 i a' e
    · obtain ⟨z1, z2⟩ := last hi e
      cases z2
  · by_cases hj : j < rs.length
    · rw [List.getElem?_append_left hj] at eb
      rw [List.getElem?_append_left (by omega)] at ea
      exact mono i j p p' ea eb hij
    · obtain ⟨z1, z2⟩ := last hj eb
      subst z2
      rw [List.getElem?_append_left (by omega)] at ea
      obtain ⟨_, _, _, _, g6, _⟩ := q i _ ea
      exact ⟨by show p.1 < a; omega, fun b' eb' => by cases eb'; omega⟩
  · show (if lo < h.n then col lo else k) = k ∧ (if lR < h.n then col lR else k) = k ∧ (if lT < h.n then col lT else k) = k ∧ (if lW < h.n then col lW else k) = k
    rw [if_pos (by omega), if_pos (by omega), if_pos (by omega), if_pos (by omega)]
    exact c
theorem omake_w (w : Ow col k h lo lR lT lW rs s wl) {m : Wd} {o : Int} (ho : s.own.length < 90000) (ht : s.tc.length < 90000) (q : ∀ h' rs' col', Fz (fun l => col l = k) h h' → (∀ l, l < h.n → col' l = col l) → Ow col' k h' lo lR lT lW rs' (makeS s m o).2 wl → Q (makeS s m o).1.d h') : Ev E (f_make [.loc lo, m.d, .int o] h) Q := by
  have w1 := w.d
  have w2 := w.r
  have w3 := w.t
  have w4 := w.w
  have ch := w.ch
  have cc := w.c
  have l1 := w.l1
  have F0 : Fz (fun l => col l = k) h h := Fz.refl _ h
  refine u_make ?_
  unfold b_make
  cases m with
  | room x y z =>
    rw [Wd.d]
    repeat (walk_at "m1")
    exact q h rs col F0 (fun _ _ => rfl) w
  | proc x y =>
    rw [Wd.d]
    repeat (walk_at "m1")
    exact q h rs col F0 (fun _ _ => rfl) w
  | num n =>
    rw [Wd.d]
    by_cases c0 : 0 ≤ n ∧ n ≤ 64
    · obtain ⟨c1, c2⟩ := c0
      repeat (walk_at "m1")
      rw [List.length_map, l1]
      by_cases c3 : (s.own.length : Int) ≥ s.mo
      · have es : makeS s (.num n) o = (.trap q_full, s) := by
          show (if 0 ≤ n ∧ n ≤ 64 then _ else _ : Rs × RmS) = _
          rw [if_pos ⟨c1, c2⟩, if_pos c3]
        rw [es] at q
        repeat (walk_at "m1")
        exact q h rs col F0 (fun _ _ => rfl) w
      · have es : makeS s (.num n) o = (.told (some (.room s.own.length 0 n)), { s with own := s.own ++ [o], pl := s.pl ++ [some (zeros n)], tc := s.tc ++ [(s.own.length : Int)] }) := by
          show (if 0 ≤ n ∧ n ≤ 64 then _ else _ : Rs × RmS) = _
          rw [if_pos ⟨c1, c2⟩, if_neg c3]
        rw [es] at q
        repeat (walk_at "m1")
        refine ev_rep (xs := [.tup [.str q_num, .int 0]]) (by walk_at "mH") (by simp only [List.length_cons, List.length_nil]; unfold SL; omega) ?_
        have ez : (List.replicate n.toNat [D.tup [D.str q_num, D.int 0]]).flatten = dW (zeros n) := by
          unfold zeros
          simp [Wd.d]
        rw [ez]
        repeat (walk_at "m1")
        have FF : Fz (fun l => col l = k) h (((((h.new (.lst [.tup [.str q_num, .int 0]])).new (.lst (dW (zeros n)))).new (rowF o (some (h.n + 1)))).put lR (.lst (rD rs ++ [.loc (h.n + 2)]))).put lT (.lst (dI s.tc ++ [.int s.own.length]))) := (((((Fz.refl (fun l => col l = k) h).new _).new _).new _).put _ (.inl cc.2.1)).put _ (.inl cc.2.2.1)
        refine q _ (rs ++ [(h.n + 2, some (h.n + 1))]) _ FF (fun l hl => if_pos hl) (Ow.made w FF (Nat.le_succ _) (Nat.lt_succ_self _) ?_ ?_ ?_ ?_ ?_ ?_ ?_ ?_)
        · simp only [put_n, new_n]; omega
        · refine Eq.trans (put_ne (by omega)) (Eq.trans (put_ne (by omega)) (Eq.trans (new_ne (by simp only [new_n]; omega)) (Eq.trans (new_ne (by simp only [new_n]; omega)) (new_ne (by omega)))))
        · refine Eq.trans (put_ne (by omega)) (Eq.trans (put_eq rfl) ?_)
          unfold rD
          rw [List.map_append]
          rfl
        · refine Eq.trans (put_eq rfl) (by rw [dI_snoc])
        · refine Eq.trans (put_ne (by omega)) (Eq.trans (put_ne (by omega)) (Eq.trans (new_ne (by simp only [new_n]; omega)) (Eq.trans (new_ne (by simp only [new_n]; omega)) (new_ne (by omega)))))
        · refine Eq.trans (put_ne (by omega)) (Eq.trans (put_ne (by omega)) (Eq.trans (new_ne (by simp only [new_n]; omega)) (new_eq ?_)))
          simp only [new_n]
        · refine Eq.trans (put_ne (by omega)) (Eq.trans (put_ne (by omega)) (new_eq ?_))
          simp only [new_n]
        · intro b hb hb2
          refine Eq.trans (put_ne (by omega)) (Eq.trans (put_ne (by omega)) (Eq.trans (new_ne (by simp only [new_n]; omega)) (Eq.trans (new_ne (by simp only [new_n]; omega)) (new_ne (by omega)))))
    · have es : makeS s (.num n) o = (.trap q_size, s) := by
        show (if 0 ≤ n ∧ n ≤ 64 then _ else _ : Rs × RmS) = _
        rw [if_neg c0]
      rw [es] at q
      by_cases c1 : 0 ≤ n
      · repeat (walk_at "m1")
        exact q h rs col F0 (fun _ _ => rfl) w
      · repeat (walk_at "m1")
        exact q h rs col F0 (fun _ _ => rfl) w
theorem due_w (w : Ow col k h lo lR lT lW rs s wl) {d : Dd} (hd : d.ok) (ho : s.own.length < 90000) (ht : s.tc.length < 90000) (q : ∀ h' rs' col', Fz (fun l => col l = k) h h' → (∀ l, l < h.n → col' l = col l) → Ow col' k h' lo lR lT lW rs' (stepS s d).2 wl → Q (stepS s d).1.d h') : Ev E (f_due [.loc lo, d.d] h) Q := by
  have w1 := w.d
  have w2 := w.r
  have w3 := w.t
  have w4 := w.w
  have ch := w.ch
  have cc := w.c
  have l1 := w.l1
  have l2 := w.l2
  have F0 : Fz (fun l => col l = k) h h := Fz.refl _ h
  refine u_due ?_
  unfold b_due
  cases d with
  | make m o =>
    rw [Dd.d]
    repeat (walk_at "m1")
    exact omake_w w ho ht q
  | part W a b =>
    rw [Dd.d]
    repeat (walk_at "m1")
    exact opart_w w hd.1 (q h rs col F0 (fun _ _ => rfl) w)
  | size W =>
    have q := q h rs col F0 (fun _ _ => rfl) w
    rw [Dd.d]
    cases W with
    | num n =>
      rw [Wd.d]
      repeat (walk_at "m1")
      exact q
    | proc x y =>
      rw [Wd.d]
      repeat (walk_at "m1")
      exact q
    | room r st sz =>
      rw [Wd.d]
      repeat (walk_at "m1")
      refine lead_w w hd.1 ?_
      cases hl : leadS s.pl r st sz with
      | some e =>
        unfold oS
        simp only [stepS, sizeS_e hl] at q
        repeat (walk_at "m1")
        exact q
      | none =>
        unfold oS
        simp only [stepS, sizeS_n hl] at q
        repeat (walk_at "m1")
        exact q
  | look W a =>
    rw [Dd.d]
    repeat (walk_at "m1")
    refine oplace_w w hd.1 ?_
    cases hp : placeS s.pl W a with
    | error e =>
      have es : stepS s (.look W a) = (.trap e, s) := by simp only [stepS, lookS, hp]
      rw [es] at q
      repeat (walk_at "m1")
      exact q h rs col F0 (fun _ _ => rfl) w
    | ok rp =>
      obtain ⟨r, p⟩ := rp
      obtain ⟨st, sz, n, ws, e1, e2, e3, e4, k1, k2, k3, k4, k5, _⟩ := placeS_ok hd.1 hp
      have hl : r.toNat < s.pl.length := (List.getElem?_eq_some_iff.mp e3).1
      obtain ⟨p0, o, f1, f2, f3, f4⟩ := row_at w k1 (by rw [List.length_map]; omega)
      obtain ⟨a0, p0⟩ := p0
      cases p0 with
      | none => rw [w.q0 _ _ f1] at e3; cases e3
      | some b =>
        obtain ⟨ws', g1, g2, g3, g4, g5⟩ := w.q2 _ _ _ f1
        rw [e3] at g1
        cases g1
        obtain ⟨_, _, _, g6, g7, _⟩ := w.q _ _ f1
        have g6 : Ap lo lR lT lW a0 := g6
        have g7 : a0 < h.n := g7
        have f4 : h.g a0 = some (rowF o (some b)) := f4
        have es : stepS s (.look W a) = (.told ws[p.toNat]?, { s with tc := s.tc ++ [r] }) := by simp only [stepS, lookS, hp, roomAt_eq e3]
        rw [es] at q
        have hx : ∃ x, ws[p.toNat]? = some x := ⟨_, List.getElem?_eq_getElem (by omega)⟩
        obtain ⟨x, hx⟩ := hx
        rw [hx] at q
        subst e1 e2 e4
        rw [Wd.d, Wd.d]
        repeat (walk_at "m1")
        refine ev_ixL (by walk_at "mH") f2 ?_
        refine ev_dgetS (kvs := [(.inr q_owner, .int o), (.inr q_places, pD (some b))]) (by walk_at "mH") (by exact rfl) ?_
        unfold pD
        refine ev_ixL (xs := dW ws) (d := x.d) (by walk_at "mH") (by rw [nthN (by omega), List.getElem?_map, hx]; rfl) ?_
        repeat (walk_at "m1")
        exact q _ rs col (F0.put _ (.inl cc.2.2.1)) (fun _ _ => rfl) (w.touch r)
  | put W a y =>
    rw [Dd.d]
    repeat (walk_at "m1")
    refine oplace_w w hd.1 ?_
    cases hp : placeS s.pl W a with
    | error e =>
      have es : stepS s (.put W a y) = (.trap e, s) := by simp only [stepS, putS, hp]
      rw [es] at q
      repeat (walk_at "m1")
      exact q h rs col F0 (fun _ _ => rfl) w
    | ok rp =>
      obtain ⟨r, p⟩ := rp
      obtain ⟨st, sz, n, ws, e1, e2, e3, e4, k1, k2, k3, k4, k5, _⟩ := placeS_ok hd.1 hp
      have hl : r.toNat < s.pl.length := (List.getElem?_eq_some_iff.mp e3).1
      obtain ⟨p0, o, f1, f2, f3, f4⟩ := row_at w k1 (by rw [List.length_map]; omega)
      obtain ⟨a0, p0⟩ := p0
      cases p0 with
      | none => rw [w.q0 _ _ f1] at e3; cases e3
      | some b =>
        obtain ⟨ws', g1, g2, g3, g4, g5⟩ := w.q2 _ _ _ f1
        rw [e3] at g1
        cases g1
        obtain ⟨_, _, _, g6, g7, _⟩ := w.q _ _ f1
        have g6 : Ap lo lR lT lW a0 := g6
        have g7 : a0 < h.n := g7
        have f4 : h.g a0 = some (rowF o (some b)) := f4
        have es : stepS s (.put W a y) = (.told none, { s with tc := s.tc ++ [r], pl := s.pl.set r.toNat (some (ws.set p.toNat y)) }) := by simp only [stepS, putS, hp, roomAt_eq e3]
        rw [es] at q
        subst e1 e2 e4
        rw [Wd.d, Wd.d]
        repeat (walk_at "m1")
        refine ev_ixL (by walk_at "mH") f2 ?_
        refine ev_dgetS (kvs := [(.inr q_owner, .int o), (.inr q_places, pD (some b))]) (by walk_at "mH") (by exact rfl) ?_
        unfold pD
        repeat (walk_at "m1")
        refine gi (xs := dW ws) (j := (st + n).toNat) (by walk_at "mH") (by rw [ixI_at (by omega) (by rw [List.length_map]; omega)]) ?_
        have em : (dW ws).set (st + n).toNat y.d = dW (ws.set (st + n).toNat y) := (List.map_set).symm
        rw [em]
        repeat (walk_at "m1")
        exact q _ rs col ((F0.put _ (.inl cc.2.2.1)).put _ (.inl g5)) (fun _ _ => rfl) ((w.touch r).place f1 _)
def noteS (wl : List Wd) : Rs → List Wd
  | .told (some (.room r s z)) => wl ++ [.room r s z]
  | _ => wl
theorem noted_w (w : Ow col k h lo lR lT lW rs s wl) {x : Rs} (hx : ∀ y, x = .told (some y) → y.ok) (hl : wl.length < 90000) (q : ∀ h', Fz (fun l => col l = k) h h' → h'.n = h.n → Ow col k h' lo lR lT lW rs s (noteS wl x) → Q .non h') : Ev E (f_noted [.loc lo, x.d] h) Q := by
  have w1 := w.d
  have w4 := w.w
  have F0 : Fz (fun l => col l = k) h h := Fz.refl _ h
  refine u_noted ?_
  unfold b_noted
  cases x with
  | trap e =>
    rw [Rs.d]
    repeat (walk_at "m1")
    exact q h F0 rfl w
  | told x =>
    rw [Rs.d]
    cases x with
    | none =>
      rw [oD]
      repeat (walk_at "m1")
      exact q h F0 rfl w
    | some y =>
      rw [oD]
      cases y with
      | num n =>
        rw [Wd.d]
        repeat (walk_at "m1")
        exact q h F0 rfl w
      | proc a b =>
        rw [Wd.d]
        repeat (walk_at "m1")
        exact q h F0 rfl w
      | room r st sz =>
        rw [Wd.d]
        repeat (walk_at "m1")
        exact q _ (F0.put _ (.inl w.c.2.2.2)) rfl (w.word (hx _ rfl))
end
end Lw
end
section
set_option maxHeartbeats 2000000
namespace Lw
open PySem Mo
def Wd.p : Wd → PyData
  | .num n => .tuple [.str q_num, .int n]
  | .room r s z => .tuple [.str q_room, .int r, .int s, .int z]
  | .proc a b => .tuple [.str q_proc, .int a, .int b]
theorem datS {n : Nat} {h : Hm} {x : Str} (k : PyData.strOk x = true) : dat (n + 1) h (.str x) = some (.str x) := by
  unfold dat
  simp only [k]
theorem datW {n : Nat} {h : Hm} (w : Wd) : dat (n + 2) h w.d = some w.p := by
  cases w with
  | num a =>
    show (datL (dat (n + 1) h) [.str q_num, .int a]).map PyData.tuple = _
    unfold datL
    simp only [datS ok_q_num]
    rfl
  | room a b c =>
    show (datL (dat (n + 1) h) [.str q_room, .int a, .int b, .int c]).map PyData.tuple = _
    unfold datL
    simp only [datS ok_q_room]
    rfl
  | proc a b =>
    show (datL (dat (n + 1) h) [.str q_proc, .int a, .int b]).map PyData.tuple = _
    unfold datL
    simp only [datS ok_q_proc]
    rfl
theorem datL_map {α : Type} {f : D → Option PyData} {g : α → D} {p : α → PyData} : ∀ {xs : List α}, (∀ x ∈ xs, f (g x) = some (p x)) → datL f (xs.map g) = some (xs.map p)
  | [], _ => rfl
  | x :: xs, k => by
    rw [List.map_cons, List.map_cons]
    unfold datL
    rw [k x List.mem_cons_self, datL_map fun y hy => k y (List.mem_cons_of_mem _ hy)]
theorem datWs {n : Nat} {h : Hm} {l : Nat} {ws : List Wd} (e : h.g l = some (.lst (dW ws))) : dat (n + 3) h (.loc l) = some (.list (ws.map Wd.p)) := by
  unfold dat
  simp only [e]
  rw [datL_map (p := Wd.p) fun x _ => datW x]
  rfl
theorem dat0 {n : Nat} {h : Hm} : dat (n + 1) h (.kl []) = some (.list []) := rfl
theorem eqv0 (xs : List PyData) : PyData.eqv (.list xs) (.list []) = decide (xs = []) := by
  cases xs with
  | nil => rfl
  | cons x xs => rfl
section
variable {E : XE} {Q : D → Hm → Prop} {col : Nat → Nat} {k ko : Nat} {h : Hm} {ld lo lR lT lW : Nat} {cs : List Int} {b : Int} {rs : List (Nat × Option Nat)} {s : RmS} {wl : List Wd}
theorem ix_some {z : Int} {xs : List D} (k0 : 0 ≤ z) (k1 : z < xs.length) : ∃ x, x ∈ xs ∧ nth xs z = some x := by
  refine ⟨xs[z.toNat]'(by omega), List.getElem_mem _, ?_⟩
  rw [nthN k0, List.getElem?_eq_getElem (by omega)]
theorem any_number_w (w : Dr col k h ld cs b) (hb : b < 200000) {near : Int} (k0 : 0 ≤ near) (k1 : near ≤ 1000) (q : ∀ v h', Sm v → Fz (fun l => col l = k) h h' → h'.n = h.n → Dr col k h' ld cs (b + 2) → Q (.int v) h') : Ev E (f_any_number [.loc ld, .int near] h) Q := by
  refine u_any_number ?_
  unfold b_any_number
  repeat (walk_at "m1")
  refine take_w w (by omega) (by omega) (by omega) fun v h1 v0 v1 f1 n1 w1 => ?_
  repeat (walk_at "m1")
  refine sel_of (fun c => ?_) (fun c => ?_)
  · rw [decide_eq_true_eq] at c
    repeat (walk_at "m1")
    exact q _ h1 ⟨by omega, by omega⟩ f1 n1 (w1.le (by omega))
  · repeat (walk_at "m1")
    refine sel_of (fun c2 => ?_) (fun c2 => ?_)
    · repeat (walk_at "m1")
      refine take_w w1 (by omega) (by omega) (by omega) fun u h2 u0 u1 f2 n2 w2 => ?_
      obtain ⟨x, hx, e⟩ := ix_some (z := u) (xs := [.int 0, .int 1, .int 64, .int 65, .int (-1), .int 999999999, .int (-999999999)]) u0 (by exact u1)
      refine ev_ixK e ?_
      have hx : ∃ z, x = .int z ∧ Sm z := by
        simp only [List.mem_cons, List.not_mem_nil, or_false] at hx
        rcases hx with e | e | e | e | e | e | e <;> exact ⟨_, e, by unfold Sm; omega⟩
      obtain ⟨z, rfl, hz⟩ := hx
      exact q z h2 hz (f1.after f2 fun l x _ => x) (n2.trans n1) (w2.le (by omega))
    · repeat (walk_at "m1")
      refine take_w w1 (by omega) (by omega) (by omega) fun u h2 u0 u1 f2 n2 w2 => ?_
      exact q u h2 ⟨by omega, by omega⟩ (f1.after f2 fun l x _ => x) (n2.trans n1) (w2.le (by omega))
theorem any_word_w (w : Dr col k h ld cs b) (hb : b < 150000) (o : Ow col ko h lo lR lT lW rs s wl) (ne : k ≠ ko) (hl : wl.length < 90000) (hr : rs.length < 90000) (q : ∀ (x : Wd) h', x.ok → Fz (fun l => col l = k) h h' → h'.n = h.n → Dr col k h' ld cs (b + 5) → Q x.d h') : Ev E (f_any_word [.loc ld, .loc lo] h) Q := by
  refine u_any_word ?_
  unfold b_any_word
  have ch := o.ch
  have cc := o.c
  have o1 := o.d
  have o2 := o.r
  have o4 := o.w
  repeat (walk_at "m1")
  refine take_w w (by omega) (by omega) (by omega) fun v h1 v0 v1 f1 n1 w1 => ?_
  have o := o.st (col' := col) f1 (Ne.symm ne) fun _ _ => rfl
  have o1 := o.d
  have o2 := o.r
  have o4 := o.w
  repeat (walk_at "m1")
  by_cases c6 : v < 6
  · repeat (walk_at "m1")
    refine ev_neD (datWs o4) dat0 ?_
    rw [eqv0]
    by_cases cw : wl = []
    · subst cw
      repeat (walk_at "m1")
      rw [List.length_map]
      refine take_w w1 (by omega) (by omega) (by omega) fun u h2 u0 u1 f2 n2 w2 => ?_
      have o := o.st (col' := col) f2 (Ne.symm ne) fun _ _ => rfl
      repeat (walk_at "m1")
      refine take_w w2 (by omega) (by omega) (by omega) fun t h3 t0 t1 f3 n3 w3 => ?_
      obtain ⟨x, hx, e⟩ := ix_some (z := t) (xs := [.int 0, .int 0, .int 1, .int 3, .int 64]) t0 (by exact t1)
      refine ev_ixK e ?_
      have hx : ∃ z, x = .int z ∧ 0 ≤ z ∧ z ≤ 64 := by
        simp only [List.mem_cons, List.not_mem_nil, or_false] at hx
        rcases hx with e | e | e | e | e <;> exact ⟨_, e, by omega, by omega⟩
      obtain ⟨z, rfl, hz0, hz1⟩ := hx
      repeat (walk_at "m1")
      refine take_w w3 (by omega) (by omega) (by omega) fun y h4 y0 y1 f4 n4 w4 => ?_
      obtain ⟨x, hx, e⟩ := ix_some (z := y) (xs := [.int 0, .int 1, .int 2, .int 5, .int 64, .int 65]) y0 (by exact y1)
      refine ev_ixK e ?_
      have hx : ∃ z, x = .int z ∧ 0 ≤ z ∧ z ≤ 65 := by
        simp only [List.mem_cons, List.not_mem_nil, or_false] at hx
        rcases hx with e | e | e | e | e | e <;> exact ⟨_, e, by omega, by omega⟩
      obtain ⟨g, rfl, hg0, hg1⟩ := hx
      repeat (walk_at "m1")
      exact q (Wd.room u z g) h4 ⟨u0, hz0, hg0, ⟨by omega, by omega⟩, ⟨by omega, by omega⟩, by omega⟩ (((f1.after f2 fun l x _ => x).after f3 fun l x _ => x).after f4 fun l x _ => x) (by omega) (w4.le (by omega))
    · have hlen : 0 < wl.length := List.length_pos_iff.mpr cw
      rw [decide_eq_false (p := List.map Wd.p wl = []) (by simpa using cw)]
      repeat (walk_at "m1")
      rw [List.length_map]
      refine take_w w1 (by omega) (by omega) (by omega) fun u h2 u0 u1 f2 n2 w2 => ?_
      have o := o.st (col' := col) f2 (Ne.symm ne) fun _ _ => rfl
      have hx : wl[u.toNat]? = some (wl[u.toNat]'(by omega)) := List.getElem?_eq_getElem _
      refine ev_ixL o.w (by rw [nthN u0, List.getElem?_map, hx]; rfl) ?_
      exact q _ h2 (o.wo _ (List.getElem_mem _)) (f1.after f2 fun l x _ => x) (n2.trans n1) (w2.le (by omega))
  · by_cases c7 : v = 6
    · subst c7
      repeat (walk_at "m1")
      refine take_w w1 (by omega) (by omega) (by omega) fun u h2 u0 u1 f2 n2 w2 => ?_
      repeat (walk_at "m1")
      refine take_w w2 (by omega) (by omega) (by omega) fun t h3 t0 t1 f3 n3 w3 => ?_
      repeat (walk_at "m1")
      exact q (Wd.proc u t) h3 ⟨⟨by omega, by omega⟩, ⟨by omega, by omega⟩⟩ ((f1.after f2 fun l x _ => x).after f3 fun l x _ => x) (by omega) (w3.le (by omega))
    · by_cases c8 : v = 7
      · subst c8
        repeat (walk_at "m1")
        refine any_number_w (near := 2) w1 (by omega) (by omega) (by omega) fun u h2 u0 f2 n2 w2 => ?_
        repeat (walk_at "m1")
        exact q (Wd.num u) h2 u0 (f1.after f2 fun l x _ => x) (n2.trans n1) (w2.le (by omega))
      · repeat (walk_at "m1")
        rw [List.length_map]
        refine take_w w1 (by omega) (by omega) (by omega) fun u h2 u0 u1 f2 n2 w2 => ?_
        have o := o.st (col' := col) f2 (Ne.symm ne) fun _ _ => rfl
        repeat (walk_at "m1")
        refine take_w w2 (by omega) (by omega) (by omega) fun t h3 t0 t1 f3 n3 w3 => ?_
        obtain ⟨x, hx, e⟩ := ix_some (z := t) (xs := [.int 0, .int 0, .int 1, .int 3, .int 64]) t0 (by exact t1)
        refine ev_ixK e ?_
        have hx : ∃ z, x = .int z ∧ 0 ≤ z ∧ z ≤ 64 := by
          simp only [List.mem_cons, List.not_mem_nil, or_false] at hx
          rcases hx with e | e | e | e | e <;> exact ⟨_, e, by omega, by omega⟩
        obtain ⟨z, rfl, hz0, hz1⟩ := hx
        repeat (walk_at "m1")
        refine take_w w3 (by omega) (by omega) (by omega) fun y h4 y0 y1 f4 n4 w4 => ?_
        obtain ⟨x, hx, e⟩ := ix_some (z := y) (xs := [.int 0, .int 1, .int 2, .int 5, .int 64, .int 65]) y0 (by exact y1)
        refine ev_ixK e ?_
        have hx : ∃ z, x = .int z ∧ 0 ≤ z ∧ z ≤ 65 := by
          simp only [List.mem_cons, List.not_mem_nil, or_false] at hx
          rcases hx with e | e | e | e | e | e <;> exact ⟨_, e, by omega, by omega⟩
        obtain ⟨g, rfl, hg0, hg1⟩ := hx
        repeat (walk_at "m1")
        exact q (Wd.room u z g) h4 ⟨u0, hz0, hg0, ⟨by omega, by omega⟩, ⟨by omega, by omega⟩, by omega⟩ (((f1.after f2 fun l x _ => x).after f3 fun l x _ => x).after f4 fun l x _ => x) (by omega) (w4.le (by omega))
theorem any_step_w (w : Dr col k h ld cs b) (hb : b < 150000) {W : Wd} (hw : W.ok) (q : ∀ (x : Wd) h', x.ok → Fz (fun l => col l = k) h h' → h'.n = h.n → Dr col k h' ld cs (b + 5) → Q x.d h') : Ev E (f_any_step [.loc ld, W.d] h) Q := by
  refine u_any_step ?_
  unfold b_any_step
  repeat (walk_at "m1")
  refine take_w w (by omega) (by omega) (by omega) fun v h1 v0 v1 f1 n1 w1 => ?_
  repeat (walk_at "m1")
  refine sel_of (fun c => ?_) (fun c => ?_)
  · repeat (walk_at "m1")
    refine take_w w1 (by omega) (by omega) (by omega) fun u h2 u0 u1 f2 n2 w2 => ?_
    obtain ⟨x, hx, e⟩ := ix_some (z := u) (xs := [.tup [.str q_room, .int 0, .int 0, .int 1], .tup [.str q_proc, .int 1, .int 0]]) u0 (by exact u1)
    refine ev_ixK e ?_
    have hx : ∃ z : Wd, x = z.d ∧ z.ok := by
      simp only [List.mem_cons, List.not_mem_nil, or_false] at hx
      rcases hx with e | e
      · exact ⟨.room 0 0 1, e, by omega, by omega, by omega, ⟨by omega, by omega⟩, ⟨by omega, by omega⟩, by omega⟩
      · exact ⟨.proc 1 0, e, ⟨by omega, by omega⟩, ⟨by omega, by omega⟩⟩
    obtain ⟨z, rfl, hz⟩ := hx
    exact q z h2 hz (f1.after f2 fun l x _ => x) (n2.trans n1) (w2.le (by omega))
  · cases W with
    | num n =>
      rw [Wd.d]
      repeat (walk_at "m1")
      refine take_w w1 (by omega) (by omega) (by omega) fun u h2 u0 u1 f2 n2 w2 => ?_
      by_cases c1 : u > 0
      · by_cases c2 : (2 : Int) > 0
        · repeat (walk_at "m1")
          refine take_w w2 (by omega) c2 (by omega) fun t h3 t0 t1 f3 n3 w3 => ?_
          repeat (walk_at "m1")
          exact q (Wd.num t) h3 ⟨by omega, by omega⟩ ((f1.after f2 fun l x _ => x).after f3 fun l x _ => x) (by omega) (w3.le (by omega))
        · exact absurd (by decide) c2
      · repeat (walk_at "m1")
        refine any_number_w (near := 2) w2 (by omega) (by omega) (by omega) fun t h3 t0 f3 n3 w3 => ?_
        repeat (walk_at "m1")
        exact q (Wd.num t) h3 t0 ((f1.after f2 fun l x _ => x).after f3 fun l x _ => x) (by omega) (w3.le (by omega))
    | proc x y =>
      rw [Wd.d]
      repeat (walk_at "m1")
      refine take_w w1 (by omega) (by omega) (by omega) fun u h2 u0 u1 f2 n2 w2 => ?_
      by_cases c1 : u > 0
      · by_cases c2 : (2 : Int) > 0
        · repeat (walk_at "m1")
          refine take_w w2 (by omega) c2 (by omega) fun t h3 t0 t1 f3 n3 w3 => ?_
          repeat (walk_at "m1")
          exact q (Wd.num t) h3 ⟨by omega, by omega⟩ ((f1.after f2 fun l x _ => x).after f3 fun l x _ => x) (by omega) (w3.le (by omega))
        · exact absurd (by decide) c2
      · repeat (walk_at "m1")
        refine any_number_w (near := 2) w2 (by omega) (by omega) (by omega) fun t h3 t0 f3 n3 w3 => ?_
        repeat (walk_at "m1")
        exact q (Wd.num t) h3 t0 ((f1.after f2 fun l x _ => x).after f3 fun l x _ => x) (by omega) (w3.le (by omega))
    | room x y z =>
      have z0 := hw.2.2.1
      have z1 := hw.2.2.2.2.2
      rw [Wd.d]
      repeat (walk_at "m1")
      refine take_w w1 (by omega) (by omega) (by omega) fun u h2 u0 u1 f2 n2 w2 => ?_
      by_cases c1 : u > 0
      · by_cases c2 : (z : Int) > 0
        · repeat (walk_at "m1")
          refine take_w w2 (by omega) c2 (by omega) fun t h3 t0 t1 f3 n3 w3 => ?_
          repeat (walk_at "m1")
          exact q (Wd.num t) h3 ⟨by omega, by omega⟩ ((f1.after f2 fun l x _ => x).after f3 fun l x _ => x) (by omega) (w3.le (by omega))
        · repeat (walk_at "m1")
          refine any_number_w (near := z) w2 (by omega) (by omega) (by omega) fun t h3 t0 f3 n3 w3 => ?_
          repeat (walk_at "m1")
          exact q (Wd.num t) h3 t0 ((f1.after f2 fun l x _ => x).after f3 fun l x _ => x) (by omega) (w3.le (by omega))
      · repeat (walk_at "m1")
        refine any_number_w (near := z) w2 (by omega) (by omega) (by omega) fun t h3 t0 f3 n3 w3 => ?_
        repeat (walk_at "m1")
        exact q (Wd.num t) h3 t0 ((f1.after f2 fun l x _ => x).after f3 fun l x _ => x) (by omega) (w3.le (by omega))
theorem any_deed_w (w : Dr col k h ld cs b) (hb : b < 90000) (o : Ow col ko h lo lR lT lW rs s wl) (ne : k ≠ ko) (hl : wl.length < 90000) (hr : rs.length < 90000) (q : ∀ (x : Dd) h', x.ok → Fz (fun l => col l = k) h h' → h'.n = h.n → Dr col k h' ld cs (b + 25) → Q x.d h') : Ev E (f_any_deed [.loc ld, .loc lo] h) Q := by
  refine u_any_deed ?_
  unfold b_any_deed
  have ch := o.ch
  have cc := o.c
  repeat (walk_at "m1")
  refine take_w w (by omega) (by omega) (by omega) fun v h1 v0 v1 f1 n1 w1 => ?_
  have o := o.st (col' := col) f1 (Ne.symm ne) fun _ _ => rfl
  repeat (walk_at "m1")
  refine any_word_w w1 (by omega) o ne hl hr fun W h2 hW f2 n2 w2 => ?_
  have o := o.st (col' := col) f2 (Ne.symm ne) fun _ _ => rfl
  have o1 := o.d
  have o4 := o.w
  have F2 : Fz (fun l => col l = k) h h2 := f1.after f2 fun l x _ => x
  by_cases c0 : v < 2
  · repeat (walk_at "m1")
    refine take_w w2 (by omega) (by omega) (by omega) fun u h3 u0 u1 f3 n3 w3 => ?_
    repeat (walk_at "m1")
    refine any_number_w (near := 64) w3 (by omega) (by omega) (by omega) fun y h4 y0 f4 n4 w4 => ?_
    repeat (walk_at "m1")
    refine take_w w4 (by omega) (by omega) (by omega) fun t h5 t0 t1 f5 n5 w5 => ?_
    obtain ⟨x, hx, e⟩ := ix_some (z := t) (xs := [.int 0, .int 0, .int 0, .int 1, .int 2]) t0 (by exact t1)
    refine ev_ixK e ?_
    have hx : ∃ z, x = .int z ∧ 0 ≤ z ∧ z < 3 := by
      simp only [List.mem_cons, List.not_mem_nil, or_false] at hx
      rcases hx with e | e | e | e | e <;> exact ⟨_, e, by omega, by omega⟩
    obtain ⟨z, rfl, hz0, hz1⟩ := hx
    obtain ⟨x, hx, e2⟩ := ix_some (z := z) (xs := [(Wd.num u).d, (Wd.num y).d, W.d]) hz0 (by exact hz1)
    refine ev_ixK e2 ?_
    have hx : ∃ z : Wd, x = z.d ∧ z.ok := by
      simp only [List.mem_cons, List.not_mem_nil, or_false] at hx
      rcases hx with e | e | e
      · exact ⟨_, e, by omega, by omega⟩
      · exact ⟨_, e, y0⟩
      · exact ⟨_, e, hW⟩
    obtain ⟨z, rfl, hz⟩ := hx
    repeat (walk_at "m1")
    refine take_w w5 (by omega) (by omega) (by omega) fun g h6 g0 g1 f6 n6 w6 => ?_
    repeat (walk_at "m1")
    exact q (Dd.make z (g - 1)) h6 ⟨hz, by omega, by omega⟩ ((((F2.after f3 fun l x _ => x).after f4 fun l x _ => x).after f5 fun l x _ => x).after f6 fun l x _ => x) (by omega) (w6.le (by omega))
  · repeat (walk_at "m1")
    refine ev_eqD (datWs o4) dat0 ?_
    rw [eqv0]
    by_cases cw : wl = []
    · subst cw
      repeat (walk_at "m1")
      refine take_w w2 (by omega) (by omega) (by omega) fun u h3 u0 u1 f3 n3 w3 => ?_
      repeat (walk_at "m1")
      refine any_number_w (near := 64) w3 (by omega) (by omega) (by omega) fun y h4 y0 f4 n4 w4 => ?_
      repeat (walk_at "m1")
      refine take_w w4 (by omega) (by omega) (by omega) fun t h5 t0 t1 f5 n5 w5 => ?_
      obtain ⟨x, hx, e⟩ := ix_some (z := t) (xs := [.int 0, .int 0, .int 0, .int 1, .int 2]) t0 (by exact t1)
      refine ev_ixK e ?_
      have hx : ∃ z, x = .int z ∧ 0 ≤ z ∧ z < 3 := by
        simp only [List.mem_cons, List.not_mem_nil, or_false] at hx
        rcases hx with e | e | e | e | e <;> exact ⟨_, e, by omega, by omega⟩
      obtain ⟨z, rfl, hz0, hz1⟩ := hx
      obtain ⟨x, hx, e2⟩ := ix_some (z := z) (xs := [(Wd.num u).d, (Wd.num y).d, W.d]) hz0 (by exact hz1)
      refine ev_ixK e2 ?_
      have hx : ∃ z : Wd, x = z.d ∧ z.ok := by
        simp only [List.mem_cons, List.not_mem_nil, or_false] at hx
        rcases hx with e | e | e
        · exact ⟨_, e, by omega, by omega⟩
        · exact ⟨_, e, y0⟩
        · exact ⟨_, e, hW⟩
      obtain ⟨z, rfl, hz⟩ := hx
      repeat (walk_at "m1")
      refine take_w w5 (by omega) (by omega) (by omega) fun g h6 g0 g1 f6 n6 w6 => ?_
      repeat (walk_at "m1")
      exact q (Dd.make z (g - 1)) h6 ⟨hz, by omega, by omega⟩ ((((F2.after f3 fun l x _ => x).after f4 fun l x _ => x).after f5 fun l x _ => x).after f6 fun l x _ => x) (by omega) (w6.le (by omega))
    · rw [decide_eq_false (p := List.map Wd.p wl = []) (by simpa using cw)]
      repeat (walk_at "m1")
      refine any_step_w w2 (by omega) hW fun t h3 ht f3 n3 w3 => ?_
      have o := o.st (col' := col) f3 (Ne.symm ne) fun _ _ => rfl
      have F3 : Fz (fun l => col l = k) h h3 := F2.after f3 fun l x _ => x
      by_cases c1 : v < 5
      · repeat (walk_at "m1")
        exact q (Dd.look W t) h3 ⟨hW, ht⟩ F3 (by omega) (w3.le (by omega))
      · by_cases c2 : v < 8
        · repeat (walk_at "m1")
          refine any_word_w w3 (by omega) o ne hl hr fun x h4 hx f4 n4 w4 => ?_
          repeat (walk_at "m1")
          exact q (Dd.put W t x) h4 ⟨hW, ht, hx⟩ (F3.after f4 fun l x _ => x) (by omega) (w4.le (by omega))
        · by_cases c3 : v = 8
          · subst c3
            repeat (walk_at "m1")
            refine any_step_w w3 (by omega) hW fun x h4 hx f4 n4 w4 => ?_
            repeat (walk_at "m1")
            exact q (Dd.part W t x) h4 ⟨hW, ht, hx⟩ (F3.after f4 fun l x _ => x) (by omega) (w4.le (by omega))
          · repeat (walk_at "m1")
            exact q (Dd.size W) h3 hW F3 (by omega) (w3.le (by omega))
end
end Lw
end
section
set_option maxHeartbeats 2000000
namespace Lw
open PySem Mo
def goneB (s : RmS) (i : Nat) : Bool := match s.pl[i]? with
  | some (some _) => false
  | _ => true
def wsAt (s : RmS) (i : Nat) : List Wd := match s.pl[i]? with
  | some (some ws) => ws
  | _ => []
def ownI (s : RmS) (z : Int) : Int := s.own.getD z.toNat 0
def thF (s : RmS) (i : Nat) : Option Int := if goneB s i then none else some (i : Int)
def thereN (s : RmS) (n : Nat) : List Int := (List.range n).filterMap (thF s)
abbrev thereS (s : RmS) : List Int := thereN s s.pl.length
theorem thereN_succ (s : RmS) (n : Nat) : thereN s (n + 1) = thereN s n ++ (if goneB s n then [] else [(n : Int)]) := by
  unfold thereN
  rw [List.range_succ, List.filterMap_append, List.filterMap_cons, List.filterMap_nil]
  unfold thF
  cases e : goneB s n <;> simp
theorem thereN_mem {s : RmS} {n : Nat} {z : Int} (m : z ∈ thereN s n) : ∃ i, i < n ∧ z = (i : Int) ∧ goneB s i = false := by
  obtain ⟨i, hi, e⟩ := List.mem_filterMap.mp m
  refine ⟨i, List.mem_range.mp hi, ?_⟩
  unfold thF at e
  cases g : goneB s i with
  | true => rw [g] at e; cases e
  | false => rw [g] at e; cases e; exact ⟨rfl, rfl⟩
theorem thereN_len (s : RmS) (n : Nat) : (thereN s n).length ≤ n := by
  have := List.length_filterMap_le (thF s) (List.range n)
  rw [List.length_range] at this
  exact this
theorem num_get : ∀ {xs : List D} {k i : Nat}, (numbered k xs)[i]? = xs[i]?.map fun x => .tup [.int ((k + i : Nat) : Int), x]
  | [], k, i => by simp [Mo.numbered]
  | x :: xs, k, 0 => by simp [Mo.numbered]
  | x :: xs, k, i + 1 => by
    have e := num_get (xs := xs) (k := k + 1) (i := i)
    rw [show k + 1 + i = k + (i + 1) by omega] at e
    simpa [Mo.numbered] using e
theorem num_len : ∀ (xs : List D) (k : Nat), (numbered k xs).length = xs.length
  | [], k => rfl
  | x :: xs, k => by
    show (numbered (k + 1) xs).length + 1 = _
    rw [num_len xs (k + 1), List.length_cons]
theorem num_at {xs : List D} {i : Nat} {d : D} (e : (numbered 0 xs)[i]? = some d) : ∃ x, xs[i]? = some x ∧ d = .tup [.int (i : Int), x] := by
  rw [num_get] at e
  obtain ⟨x, e1, e2⟩ := Option.map_eq_some_iff.mp e
  exact ⟨x, e1, by rw [← e2, Nat.zero_add]⟩
theorem ev_join {E : XE} {σ : Mo.Env} {h : Hm} {Q : D → Hm → Prop} {m : ME} {ms : List ME} {acc : Str} (q : Ev E (m σ h) fun x h1 => ∃ y, x = .str y ∧ (acc ++ y).length ≤ SL ∧ Ev E (joinGo ms (acc ++ y) σ h1) Q) : Ev E (joinGo (m :: ms) acc σ h) Q := by
  unfold joinGo
  exact ev_bind (q.mono fun x h1 ⟨y, e, k, w⟩ => by subst e; exact ev_ifR (decide_eq_true k) w)
theorem ev_fmtI {E : XE} {h : Hm} {Q : D → Hm → Prop} {i : Int} (k : i.natAbs.log2 < 1920) (q : Q (.str (toString i)) h) : Ev E (fmtR (.int i) h) Q := ev_ifR (decide_eq_true k) q
def rLine (n : Nat) : Str := q_Rooms_ ++ toString (n : Int) ++ q__
theorem rline_ok : ∀ n : Nat, n < 64 → ((n : Int).natAbs.log2 < 1920 ∧ PyData.strOk (rLine n) = true ∧ (rLine n).cps.size ≤ 40 ∧ (Str.empty ++ q_Rooms_ ++ toString (n : Int) ++ q__ = rLine n) ∧ (Str.empty ++ q_Rooms_).length ≤ 40 ∧ (Str.empty ++ q_Rooms_ ++ toString (n : Int)).length ≤ 40 ∧ (Str.empty ++ q_Rooms_ ++ toString (n : Int) ++ q__).length ≤ 40 ∧ q_Rooms_.length + (toString (n : Int) : Str).length ≤ 40 ∧ (q_Rooms_ ++ toString (n : Int)).length + q__.length ≤ 40 ) := by decide +kernel
section
variable {E : XE} {Q : D → Hm → Prop} {col : Nat → Nat} {k : Nat} {h : Hm} {lr lo lp lt : Nat} {ps : List (Option Nat)} {s : RmS}
theorem touches_w (w : Rm col k h lr lo lp lt ps s) (q : Q (.tup (dI s.tc)) h) : Ev E (f_Rooms_touches [.loc lr] h) Q := by
  have w1 := w.r
  have w2 := w.t
  refine u_Rooms_touches ?_
  unfold b_Rooms_touches
  repeat (walk_at "m1")
  exact q
theorem len_w (w : Rm col k h lr lo lp lt ps s) (q : Q (.int s.own.length) h) : Ev E (f_Rooms_len [.loc lr] h) Q := by
  have w1 := w.r
  have w2 := w.o
  refine u_Rooms_len ?_
  unfold b_Rooms_len
  repeat (walk_at "m1")
  rw [List.length_map]
  exact q
theorem repr_w (w : Rm col k h lr lo lp lt ps s) (hn : s.own.length < 64) (q : Q (.str (rLine s.own.length)) h) : Ev E (f_Rooms_repr [.loc lr] h) Q := by
  have w1 := w.r
  have w2 := w.o
  obtain ⟨r1, _, _, r2, r3, r4, r5, _⟩ := rline_ok _ hn
  have big : (40 : Nat) ≤ SL := by unfold SL; omega
  refine u_Rooms_repr ?_
  unfold b_Rooms_repr eFs
  refine es_ret ?_
  refine ev_join ?_
  refine ev_c ?_
  refine ⟨_, rfl, Nat.le_trans r3 big, ?_⟩
  refine ev_join ?_
  refine ev_bind ?_
  repeat (walk_at "m1")
  rw [List.length_map]
  refine ev_fmtI r1 ?_
  refine ⟨_, rfl, Nat.le_trans r4 big, ?_⟩
  refine ev_join ?_
  refine ev_c ?_
  refine ⟨_, rfl, Nat.le_trans r5 big, ?_⟩
  rw [r2]
  exact q
theorem pl_none (w : Rm col k h lr lo lp lt ps s) {i : Nat} {o : Option Nat} (e : ps[i]? = some o) : goneB s i = decide (pD o = .non) ∧ ∀ a, o = some a → h.g a = some (.lst (dW (wsAt s i))) := by
  unfold goneB wsAt
  cases o with
  | none => rw [w.q0 i e]; exact ⟨rfl, fun a e => nomatch e⟩
  | some a =>
    obtain ⟨ws, e1, e2, _⟩ := w.q i a e
    rw [e1]
    exact ⟨rfl, fun b eb => by cases eb; exact e2⟩
theorem there_w (w : Rm col k h lr lo lp lt ps s) (hn : s.own.length < 64) (q : Q (.loc h.n) (h.new (.lst (dI (thereS s))))) : Ev E (f_Rooms_there [.loc lr] h) Q := by
  have w1 := w.r
  have w2 := w.p
  have l1 := w.l1
  have l2 := w.l2
  refine u_Rooms_there ?_
  unfold b_Rooms_there
  refine es_ret ?_
  refine ev_comp ?_
  repeat (walk_at "m1")
  refine comp_inv (fun n acc h' => h' = h ∧ acc = dI (thereN s n)) _ 0 [] h ⟨rfl, rfl⟩ (fun i acc h' _ _ hh => ?_) (fun i d acc h' e hh => ?_) (fun acc h' hh => ?_)
  · obtain ⟨rfl, rfl⟩ := hh
    exact decide_eq_true (seq_loc w2)
  · obtain ⟨rfl, rfl⟩ := hh
    obtain ⟨x, e1, rfl⟩ := num_at e
    rw [List.getElem?_map] at e1
    obtain ⟨o, e2, rfl⟩ := Option.map_eq_some_iff.mp e1
    have hi := (List.getElem?_eq_some_iff.mp e2).1
    refine ⟨_, rfl, ?_⟩
    repeat (walk_at "m1")
    rw [Nat.zero_add, thereN_succ, (pl_none w e2).1]
    cases o with
    | none =>
      refine ⟨rfl, ?_⟩
      unfold pD
      simp
    | some a =>
      unfold pD
      refine sel_t (by exact rfl) ?_
      unfold c_Rooms_there_1
      repeat (walk_at "m1")
      have := thereN_len s i
      refine ⟨?_, rfl, ?_⟩
      · rw [List.length_map]
        unfold SL
        omega
      · simp
  · obtain ⟨rfl, rfl⟩ := hh
    rw [num_len, List.length_map, Nat.zero_add, l1, ← l2]
    exact q
end
end Lw
end
section
set_option maxHeartbeats 2000000
namespace Lw
open PySem Mo
def fO (s : RmS) : D → Option Int
  | .int z => some (ownI s z)
  | _ => none
theorem fO_map (s : RmS) : ∀ zs : List Int, (dI zs).filterMap (fO s) = zs.map (ownI s)
  | [] => rfl
  | z :: zs => by
    show (ownI s z) :: (dI zs).filterMap (fO s) = ownI s z :: zs.map (ownI s)
    rw [fO_map s zs]
theorem own_at {s : RmS} {i : Nat} (hi : i < s.own.length) : nth (dI s.own) (i : Int) = some (.int (ownI s i)) := by
  rw [nthN (by omega), List.getElem?_map]
  unfold ownI
  rw [Int.toNat_natCast, List.getElem?_eq_getElem hi, List.getD_eq_getElem?_getD, List.getElem?_eq_getElem hi]
  rfl
section
variable {E : XE} {Q : D → Hm → Prop} {col : Nat → Nat} {k : Nat} {h : Hm} {lr lo lp lt : Nat} {ps : List (Option Nat)} {s : RmS}
theorem owners_w (w : Rm col k h lr lo lp lt ps s) (hn : s.own.length < 64) (q : ∀ h', Fz (fun _ => False) h h' → h'.n = h.n + 2 → h'.g (h.n + 1) = some (.lst (dI (sortU ((thereS s).map (ownI s))))) → Q (.loc (h.n + 1)) h') : Ev E (f_Rooms_owners [.loc lr] h) Q := by
  have w1 := w.r
  have w2 := w.o
  have l2 := w.l2
  have wc := w.ch
  have tl : (thereS s).length ≤ s.pl.length := thereN_len s s.pl.length
  refine u_Rooms_owners ?_
  unfold b_Rooms_owners
  refine es_ret ?_
  refine ev_sortCM ?_
  repeat (walk_at "m1")
  refine there_w w hn ?_
  have F1 : Fz (fun _ => False) h (h.new (.lst (dI (thereS s)))) := (Fz.refl _ h).new _
  repeat (walk_at "m1")
  refine set_inv (fO s) _ [] _ (decide_eq_true (seq_loc (new_eq rfl))) ?_ (fun d hd => ?_) ?_
  · rw [List.length_map, List.length_nil]
    unfold MSET
    omega
  · obtain ⟨z, hz, rfl⟩ := List.mem_map.mp hd
    obtain ⟨i, hi, rfl, g⟩ := thereN_mem hz
    refine ⟨_, rfl, ?_⟩
    repeat (walk_at "m1")
    refine ⟨rfl, ?_⟩
    refine sel_t rfl ?_
    unfold c_Rooms_owners_1
    repeat (walk_at "m1")
    refine ev_ixL ((new_ne (by omega)).trans w2) (own_at (by omega)) ?_
    exact ⟨rfl, _, rfl, rfl⟩
  · rw [List.nil_append, fO_map]
    refine ⟨?_, q _ (F1.new _) rfl (new_eq rfl)⟩
    have := sortU_len ((thereS s).map (ownI s))
    rw [List.length_map] at this
    omega
theorem need_made_w (w : Rm col k h lr lo lp lt ps s) {i : Nat} (hi : i < s.own.length) (hn : s.own.length < 64) (q : Q .non h) : Ev E (f_Rooms_need_made [.loc lr, .int (i : Int)] h) Q := by
  have w1 := w.r
  have w2 := w.o
  refine u_Rooms_need_made ?_
  unfold b_Rooms_need_made
  repeat (walk_at "m1")
  refine u_is_number ?_
  unfold b_is_number
  repeat (walk_at "m1")
  exact q
theorem owner_of_w (w : Rm col k h lr lo lp lt ps s) {i : Nat} (hi : i < s.own.length) (hn : s.own.length < 64) (q : Q (.int (ownI s i)) h) : Ev E (f_Rooms_owner_of [.loc lr, .int (i : Int)] h) Q := by
  have w1 := w.r
  have w2 := w.o
  refine u_Rooms_owner_of ?_
  unfold b_Rooms_owner_of
  repeat (walk_at "m1")
  refine need_made_w w hi hn ?_
  repeat (walk_at "m1")
  refine ev_ixL w2 (own_at hi) ?_
  exact q
theorem is_gone_w (w : Rm col k h lr lo lp lt ps s) {i : Nat} (hi : i < s.own.length) (hn : s.own.length < 64) (q : Q (.bl (goneB s i)) h) : Ev E (f_Rooms_is_gone [.loc lr, .int (i : Int)] h) Q := by
  have w1 := w.r
  have w2 := w.p
  have l1 := w.l1
  obtain ⟨o, e1, e2⟩ := pl_at w (r := (i : Int)) (by omega) (by rw [List.length_map]; omega)
  rw [Int.toNat_natCast] at e1
  refine u_Rooms_is_gone ?_
  unfold b_Rooms_is_gone
  repeat (walk_at "m1")
  refine need_made_w w hi hn ?_
  repeat (walk_at "m1")
  refine ev_ixL w2 e2 ?_
  rw [(pl_none w e1).1] at q
  repeat (walk_at "m1")
  exact q
theorem places_of_w (w : Rm col k h lr lo lp lt ps s) {i : Nat} (hi : i < s.own.length) (hn : s.own.length < 64) (q : Q (.loc h.n) (h.new (.lst (dW (wsAt s i))))) : Ev E (f_Rooms_places_of [.loc lr, .int (i : Int)] h) Q := by
  have w1 := w.r
  have w2 := w.p
  have l1 := w.l1
  obtain ⟨o, e1, e2⟩ := pl_at w (r := (i : Int)) (by omega) (by rw [List.length_map]; omega)
  rw [Int.toNat_natCast] at e1
  refine u_Rooms_places_of ?_
  unfold b_Rooms_places_of
  repeat (walk_at "m1")
  refine need_made_w w hi hn ?_
  repeat (walk_at "m1")
  refine ev_ixL w2 e2 ?_
  cases o with
  | none =>
    have : wsAt s i = [] := by
      unfold wsAt
      rw [w.q0 i e1]
    rw [this] at q
    unfold pD
    repeat (walk_at "m1")
    exact q
  | some a =>
    have e3 := (pl_none w e1).2 a rfl
    unfold pD
    repeat (walk_at "m1")
    exact q
end
end Lw
end
section
set_option maxHeartbeats 2000000
namespace Lw
open PySem Mo
def P0 (s : RmS) : List PyData := [.tuple (s.tc.map .int), .list ((thereS s).map .int), .int s.own.length, .str (rLine s.own.length), .list ((sortU ((thereS s).map (ownI s))).map .int)]
def Pi (s : RmS) (i : Nat) : List PyData := [.int (ownI s i), .bool (goneB s i), .list ((wsAt s i).map Wd.p)]
def PP (s : RmS) (n : Nat) : List PyData := P0 s ++ (List.range n).flatMap (Pi s)
theorem PP_succ (s : RmS) (n : Nat) : PP s (n + 1) = PP s n ++ Pi s n := by
  unfold PP
  rw [List.range_succ, List.flatMap_append, ← List.append_assoc]
  simp
theorem PP_len (s : RmS) : ∀ n, (PP s n).length = 5 + 3 * n
  | 0 => rfl
  | n + 1 => by
    rw [PP_succ, List.length_append, PP_len s n]
    show 5 + 3 * n + 3 = _
    omega
structure Gp (p : PyData) : Prop where
  t : tame p = true
  b : p.bulk ≤ 600
theorem gp_list : ∀ {xs : List PyData}, (∀ x ∈ xs, Gp x) → tameL xs = true ∧ PyData.bulkAll xs ≤ 601 * xs.length
  | [], _ => ⟨by simp only [tameL], by simp only [PyData.bulkAll]; omega⟩
  | x :: xs, k => by
    obtain ⟨a1, a2⟩ := k x List.mem_cons_self
    obtain ⟨b1, b2⟩ := gp_list fun y hy => k y (List.mem_cons_of_mem _ hy)
    refine ⟨by simp only [tameL, a1, b1, Bool.and_self], ?_⟩
    simp only [PyData.bulkAll, List.length_cons]
    omega
theorem sm_tame {z : Int} (k : Sm z) : tame (.int z) = true := by
  simp only [tame]
  have k1 := k.1
  have k2 := k.2
  exact decide_eq_true (by omega)
theorem ints_gp : ∀ {zs : List Int}, (∀ z ∈ zs, Sm z) → tameL (zs.map .int) = true ∧ PyData.bulkAll (zs.map .int) = zs.length
  | [], _ => ⟨by simp only [List.map_nil, tameL], by simp only [List.map_nil, PyData.bulkAll, List.length_nil]⟩
  | z :: zs, k => by
    obtain ⟨b1, b2⟩ := ints_gp fun y hy => k y (List.mem_cons_of_mem _ hy)
    rw [List.map_cons]
    refine ⟨by simp only [tameL, sm_tame (k z List.mem_cons_self), b1, Bool.and_self], ?_⟩
    simp only [PyData.bulkAll, PyData.bulk, b2, List.length_cons]
    omega
theorem wd_gp {w : Wd} (k : w.ok) : tame w.p = true ∧ w.p.bulk ≤ 8 := by
  cases w with
  | num a =>
    have := sm_tame k
    refine ⟨by simp only [Wd.p, tame, tameL, Bool.and_true] at this ⊢; simp only [this, Bool.and_true]; exact ok_q_num, ?_⟩
    simp only [Wd.p, PyData.bulk, PyData.bulkAll]
    decide
  | room a b c =>
    obtain ⟨k1, k2, k3, k4, k5, k6⟩ := k
    have a1 := sm_tame k4
    have a2 := sm_tame k5
    have a3 := sm_tame (z := c) ⟨by omega, by omega⟩
    refine ⟨by simp only [Wd.p, tame, tameL, Bool.and_true] at a1 a2 a3 ⊢; simp only [a1, a2, a3, Bool.and_true]; exact ok_q_room, ?_⟩
    simp only [Wd.p, PyData.bulk, PyData.bulkAll]
    decide
  | proc a b =>
    have a1 := sm_tame k.1
    have a2 := sm_tame k.2
    refine ⟨by simp only [Wd.p, tame, tameL, Bool.and_true] at a1 a2 ⊢; simp only [a1, a2, Bool.and_true]; exact ok_q_proc, ?_⟩
    simp only [Wd.p, PyData.bulk, PyData.bulkAll]
    decide
theorem wds_gp : ∀ {ws : List Wd}, (∀ w ∈ ws, w.ok) → tameL (ws.map Wd.p) = true ∧ PyData.bulkAll (ws.map Wd.p) ≤ 9 * ws.length
  | [], _ => ⟨by simp only [List.map_nil, tameL], by simp only [List.map_nil, PyData.bulkAll]; omega⟩
  | w :: ws, k => by
    obtain ⟨b1, b2⟩ := wds_gp fun y hy => k y (List.mem_cons_of_mem _ hy)
    obtain ⟨a1, a2⟩ := wd_gp (k w List.mem_cons_self)
    rw [List.map_cons]
    refine ⟨by simp only [tameL, a1, b1, Bool.and_self], ?_⟩
    simp only [PyData.bulkAll, List.length_cons]
    omega
theorem ownI_sm {s : RmS} (k : ∀ x ∈ s.own, Ownr x) (z : Int) : Sm (ownI s z) := by
  have k : ∀ x ∈ s.own, Sm x := fun x hx => by
    have := k x hx
    unfold Ownr at this
    unfold Sm
    omega
  unfold ownI
  rw [List.getD_eq_getElem?_getD]
  cases e : s.own[z.toNat]? with
  | none => exact ⟨by decide, by decide⟩
  | some x => exact k x (List.mem_of_getElem? e)
theorem list_gp {xs : List PyData} (a : tameL xs = true) (b : PyData.bulkAll xs ≤ 600) : Gp (.list xs) := ⟨by simp only [tame]; exact a, by simp only [PyData.bulk]; exact b⟩
theorem tup_gp {xs : List PyData} (a : tameL xs = true) (b : PyData.bulkAll xs ≤ 600) : Gp (.tuple xs) := ⟨by simp only [tame]; exact a, by simp only [PyData.bulk]; exact b⟩
theorem int_gp {z : Int} (k : Sm z) : Gp (.int z) := ⟨sm_tame k, by simp only [PyData.bulk]; omega⟩
theorem PP_gp {s : RmS} {m : Nat} (k : SOk s m) (hm : m ≤ 40) : ∀ n, ∀ x ∈ PP s n, Gp x := by
  have tl : (thereS s).length ≤ s.pl.length := thereN_len s s.pl.length
  have l := k.l
  have o := k.o
  have tls : ∀ z ∈ thereS s, Sm z := fun z hz => by
    obtain ⟨i, hi, rfl, _⟩ := thereN_mem hz
    exact ⟨by omega, by omega⟩
  have sl := sortU_len ((thereS s).map (ownI s))
  rw [List.length_map] at sl
  obtain ⟨r1, r2, r3, _⟩ := rline_ok s.own.length (by omega)
  intro n
  induction n with
  | zero =>
    intro x hx
    have hx : x ∈ P0 s := by simpa [PP] using hx
    unfold P0 at hx
    simp only [List.mem_cons, List.not_mem_nil, or_false] at hx
    rcases hx with rfl | rfl | rfl | rfl | rfl
    · obtain ⟨a, b⟩ := ints_gp k.st
      have := k.t
      exact tup_gp a (by omega)
    · obtain ⟨a, b⟩ := ints_gp tls
      exact list_gp a (by omega)
    · exact int_gp ⟨by omega, by omega⟩
    · exact ⟨by simp only [tame]; exact r2, by simp only [PyData.bulk]; omega⟩
    · obtain ⟨a, b⟩ := ints_gp (zs := sortU ((thereS s).map (ownI s))) fun z hz => by
        obtain ⟨y, _, rfl⟩ := List.mem_map.mp ((sortU_mem z _).mp hz)
        exact ownI_sm k.so y
      exact list_gp a (by omega)
  | succ n ih =>
    intro x hx
    rw [PP_succ] at hx
    rcases List.mem_append.mp hx with hx | hx
    · exact ih x hx
    · unfold Pi at hx
      simp only [List.mem_cons, List.not_mem_nil, or_false] at hx
      rcases hx with rfl | rfl | rfl
      · exact int_gp (ownI_sm k.so _)
      · exact ⟨by simp only [tame], by simp only [PyData.bulk]; omega⟩
      · have : (wsAt s n).length ≤ 64 ∧ ∀ x ∈ wsAt s n, x.ok := by
          unfold wsAt
          split
          · rename_i ws e
            exact k.w ws (List.mem_of_getElem? e)
          · exact ⟨by simp, fun x hx => nomatch hx⟩
        obtain ⟨a, b⟩ := wds_gp this.2
        exact list_gp a (by omega)
theorem PP_fits {s : RmS} {m : Nat} (k : SOk s m) (hm : m ≤ 40) : fits (.list (PP s s.own.length)) = true := by
  obtain ⟨a, b⟩ := gp_list (PP_gp k hm s.own.length)
  have l := PP_len s s.own.length
  have o := k.o
  unfold fits
  simp only [tame, a, Bool.true_and, PyData.bulk]
  exact decide_eq_true (by omega)
def Lq (h : Hm) (x : D) (xs : List D) : Prop := x = .kl xs ∨ ∃ a, x = .loc a ∧ h.g a = some (.lst xs)
theorem Lq.seq {h : Hm} {x : D} {xs : List D} (w : Lq h x xs) : h.seq x = some xs := by
  rcases w with rfl | ⟨a, rfl, e⟩
  · rfl
  · exact seq_loc e
theorem Lq.dt {h : Hm} {x : D} {xs : List D} {P : List PyData} (w : Lq h x xs) (k : datL (dat 11 h) xs = some P) : dat DEP h x = some (.list P) := by
  show Mo.dat 12 h x = _
  rcases w with rfl | ⟨a, rfl, e⟩
  · exact Option.map_eq_some_iff.mpr ⟨P, k, rfl⟩
  · unfold Mo.dat
    simp only [e]
    exact Option.map_eq_some_iff.mpr ⟨P, k, rfl⟩
theorem dat_kI {n : Nat} {h : Hm} (zs : List Int) : dat (n + 2) h (.kl (dI zs)) = some (.list (zs.map .int)) := Option.map_eq_some_iff.mpr ⟨_, datL_ints zs, rfl⟩
theorem dat_tI {n : Nat} {h : Hm} (zs : List Int) : dat (n + 2) h (.tup (dI zs)) = some (.tuple (zs.map .int)) := Option.map_eq_some_iff.mpr ⟨_, datL_ints zs, rfl⟩
end Lw
end
section
set_option maxHeartbeats 4000000
namespace Lw
open PySem Mo
theorem datL_cons {f : D → Option PyData} {x : D} {xs : List D} {p : PyData} {ps : List PyData} (e : f x = some p) (e2 : datL f xs = some ps) : datL f (x :: xs) = some (p :: ps) := by
  unfold datL
  rw [e, e2]
inductive Vd (h : Hm) : D → PyData → Prop
  | flat {d : D} {p : PyData} : (∀ h', dat 11 h' d = some p) → Vd h d p
  | lst {a : Nat} {xs : List D} {qs : List PyData} : h.g a = some (.lst xs) → a < h.n → (∀ h', datL (dat 10 h') xs = some qs) → Vd h (.loc a) (.list qs)
inductive Vds (h : Hm) : List D → List PyData → Prop
  | nil : Vds h [] []
  | cons {d : D} {p : PyData} {xs : List D} {qs : List PyData} : Vd h d p → Vds h xs qs → Vds h (d :: xs) (p :: qs)
theorem Vd.dat {h : Hm} {d : D} {p : PyData} (w : Vd h d p) : Mo.dat 11 h d = some p := by
  cases w with
  | flat k => exact k h
  | lst e n k =>
    show Mo.dat (10 + 1) h (.loc _) = _
    unfold Mo.dat
    simp only [e]
    rw [k h]
    rfl
theorem Vds.dat {h : Hm} {xs : List D} {qs : List PyData} (w : Vds h xs qs) : datL (Mo.dat 11 h) xs = some qs := by
  induction w with
  | nil => rfl
  | cons a _ ih => exact datL_cons a.dat ih
theorem Vd.st {h h' : Hm} {d : D} {p : PyData} (w : Vd h d p) (f : Fz (fun _ => False) h h') : Vd h' d p := by
  cases w with
  | flat k => exact .flat k
  | lst e n k => exact .lst (f.at n (fun z => z) e) (Nat.lt_of_lt_of_le n f.n) k
theorem Vds.st {h h' : Hm} {xs : List D} {qs : List PyData} (w : Vds h xs qs) (f : Fz (fun _ => False) h h') : Vds h' xs qs := by
  induction w with
  | nil => exact .nil
  | cons a _ ih => exact .cons (a.st f) ih
theorem Vds.app {h : Hm} {xs ys : List D} {qs rs : List PyData} (w : Vds h xs qs) (w2 : Vds h ys rs) : Vds h (xs ++ ys) (qs ++ rs) := by
  induction w with
  | nil => exact w2
  | cons a _ ih => exact .cons a ih
theorem vd_ints {h : Hm} {a : Nat} {ks : List Int} (e : h.g a = some (.lst (dI ks))) (n : a < h.n) : Vd h (.loc a) (.list (ks.map .int)) := .lst e n fun h' => datL_ints (n := 9) ks
theorem vd_kints {h : Hm} (ks : List Int) : Vd h (.kl (dI ks)) (.list (ks.map .int)) := .flat fun h' => dat_kI (n := 9) ks
theorem vd_words {h : Hm} {a : Nat} {ws : List Wd} (e : h.g a = some (.lst (dW ws))) (n : a < h.n) : Vd h (.loc a) (.list (ws.map Wd.p)) := .lst e n fun h' => datL_map fun x _ => datW (n := 8) x
theorem Lq.st {h h' : Hm} {x : D} {xs : List D} (w : Lq h x xs) (f : Fz (fun _ => False) h h') (n : ∀ a, x = .loc a → a < h.n) : Lq h' x xs := by
  rcases w with rfl | ⟨a, rfl, e⟩
  · exact .inl rfl
  · exact .inr ⟨a, rfl, f.at (n a rfl) (fun z => z) e⟩
section
variable {E : XE} {Q : D → Hm → Prop} {col : Nat → Nat} {k k2 : Nat} {h : Hm} {lr ll lp lt : Nat} {ps : List (Option Nat)} {s : RmS} {lo lR lT lW : Nat} {rs : List (Nat × Option Nat)} {wl : List Wd}
theorem row_none (w : Ow col k h lo lR lT lW rs s wl) {i : Nat} {p : Nat × Option Nat} (e : rs[i]? = some p) : goneB s i = decide (pD p.2 = .non) ∧ (∀ b, p.2 = some b → h.g b = some (.lst (dW (wsAt s i))) ∧ b < h.n) ∧ h.g p.1 = some (rowF (ownI s (i : Int)) p.2) ∧ (p.2 = none → wsAt s i = []) := by
  obtain ⟨o, f1, f2, f3, f4, f5⟩ := w.q i p e
  have eo : ownI s (i : Int) = o := by
    unfold ownI
    rw [Int.toNat_natCast, List.getD_eq_getElem?_getD, f1]
    rfl
  rw [eo]
  unfold goneB wsAt
  obtain ⟨a, o⟩ := p
  cases o with
  | none => rw [w.q0 i a e]; exact ⟨rfl, fun a e => (nomatch e), f2, fun _ => rfl⟩
  | some b =>
    obtain ⟨ws, e1, e2, e3, e4, _⟩ := w.q2 i a b e
    rw [e1]
    have f4 : a < h.n := f4
    exact ⟨rfl, fun b eb => by cases eb; exact ⟨e2, by omega⟩, f2, fun e => nomatch e⟩
theorem alike_w (w : Rm col k h lr ll lp lt ps s) (o : Ow col k2 h lo lR lT lW rs s wl) {m : Nat} (ok : SOk s m) (hm : m ≤ 40) (q : ∀ h', Fz (fun _ => False) h h' → Q (.bl true) h') : Ev E (f_alike [.loc lr, .loc lo] h) Q := by
  have w1 := w.r
  have wc := w.ch
  have o1 := o.d
  have o2 := o.r
  have o3 := o.t
  have oc := o.ch
  have l1 := o.l1
  have l2 := o.l2
  have ko := ok.o
  have hn : s.own.length < 64 := by omega
  have tl : (thereS s).length ≤ s.pl.length := thereN_len s s.pl.length
  obtain ⟨r1, r2, r3, r4, r5, r6, r7, r8, r9⟩ := rline_ok _ hn
  have big : (1000 : Nat) ≤ SL := by unfold SL; omega
  refine u_alike ?_
  unfold b_alike
  repeat (walk_at "m1")
  refine comp_inv (fun n acc h' => h' = h ∧ acc = dI (thereN s n)) _ 0 [] h ⟨rfl, rfl⟩ (fun i acc h' _ _ hh => ?_) (fun i d acc h' e hh => ?_) (fun acc h' hh => ?_)
  · obtain ⟨rfl, rfl⟩ := hh
    exact decide_eq_true (seq_loc o2)
  · obtain ⟨rfl, rfl⟩ := hh
    obtain ⟨x, e1, rfl⟩ := num_at e
    rw [List.getElem?_map] at e1
    obtain ⟨p, e2, rfl⟩ := Option.map_eq_some_iff.mp e1
    obtain ⟨z1, z2, z3, _⟩ := row_none o e2
    refine ⟨_, rfl, ?_⟩
    repeat (walk_at "m1")
    rw [Nat.zero_add, thereN_succ, z1]
    obtain ⟨a, p⟩ := p
    cases p with
    | none =>
      unfold pD
      repeat (walk_at "m1")
      exact ⟨rfl, by simp⟩
    | some b =>
      unfold pD
      repeat (walk_at "m1")
      unfold c_alike_1
      repeat (walk_at "m1")
      have := thereN_len s i
      have hi := (List.getElem?_eq_some_iff.mp e2).1
      refine ⟨?_, rfl, ?_⟩
      · rw [List.length_map]
        unfold SL
        omega
      · simp
  · obtain ⟨rfl, rfl⟩ := hh
    rw [num_len, List.length_map, Nat.zero_add, l1, ← l2]
    repeat (walk_at "m1")
    refine touches_w w ?_
    repeat (walk_at "m1")
    refine there_w w hn ?_
    have f1 : Fz (fun _ => False) h' (h'.new (.lst (dI (thereS s)))) := (Fz.refl _ _).new _
    have n1 : (h'.new (.lst (dI (thereS s)))).n = h'.n + 1 := rfl
    have g1 : (h'.new (.lst (dI (thereS s)))).g h'.n = some (.lst (dI (thereS s))) := new_eq rfl
    have w0 := w
    have o0 := o
    have w := w.st (col' := col) (j := k + 1) (f1.mono fun _ z _ => z.elim) (by omega) fun _ _ => rfl
    have o := o.st (col' := col) (j := k2 + 1) (f1.mono fun _ z _ => z.elim) (by omega) fun _ _ => rfl
    have wc0 := wc
    have oc0 := oc
    clear w1 wc o1 o2 o3 oc
    generalize (h'.new (.lst (dI (thereS s)))) = h1 at f1 n1 g1 w o ⊢
    have w1 := w.r
    have wc := w.ch
    have o1 := o.d
    have o2 := o.r
    have o3 := o.t
    have oc := o.ch
    have f1n := f1.n
    repeat (walk_at "m1")
    refine ev_own1 (ms := [(0, f_Rooms_len)]) (chk := chkLen) (b := bLen) w1 rfl ?_
    refine len_w w ?_
    with_reducible refine ev_chkLen (i := (s.own.length : Int)) ?_ ?_
    · exact ⟨by omega, by omega⟩
    repeat (walk_at "m1")
    refine ev_own1 (ms := [(0, f_Rooms_repr)]) (chk := chkStr) (b := bRepr) w1 rfl ?_
    refine repr_w w hn ?_
    refine ev_chkStr ?_
    have FA : True → Fz (fun _ => False) h' h1 := fun _ => f1
    clear f1
    repeat (walk_at "m1")
    rw [List.length_map, l1]
    refine ev_strI r1 ?_
    repeat (walk_at "m1")
    refine ev_addKS (by omega) ?_
    repeat (walk_at "m1")
    refine ev_addKS (by omega) ?_
    have FB : ∀ A B, Fz (fun _ => False) h1 ((h1.new A).new B) := fun A B => ((Fz.refl _ _).new A).new B
    repeat (walk_at "m1")
    refine owners_w (w.st (col' := col) (j := k + 1) ((FB _ _).mono fun _ z _ => z.elim) (by omega) fun _ _ => rfl) hn fun h4 f4 n4 g4 => ?_
    have gA := f4.at (l := h1.n) (by simp only [new_n]; omega) (fun z => z) ((new_ne (by rw [new_n]; omega)).trans (new_eq rfl))
    have gB := f4.at (l := h1.n + 1) (by simp only [new_n]; omega) (fun z => z) (new_eq rfl)
    have f14 := (FB _ _).after f4 fun _ z _ => z
    have FW : True → Fz (fun _ => False) h' h4 := fun _ => (FA trivial).after f14 fun _ z _ => z
    have gT := f14.at (by omega) (fun z => z) g1
    have w := w.st (col' := col) (j := k + 1) (f14.mono fun _ z _ => z.elim) (by omega) fun _ _ => rfl
    have o := o.st (col' := col) (j := k2 + 1) (f14.mono fun _ z _ => z.elim) (by omega) fun _ _ => rfl
    simp only [new_n] at n4 g4
    clear FB FA f4 w1 wc o1 o2 o3 oc f14
    simp only [new_n]
    have wc := w.ch
    have oc := o.ch
    have o2 := o.r
    repeat (walk_at "m1")
    refine ev_sortSet ?_
    repeat (walk_at "m1")
    have FX : ∀ X, Fz (fun _ => False) h' (h4.put h1.n X) := fun X => (FW trivial).put X (.inr (by omega))
    refine comp_inv (fun n acc h2 => h2 = h4.put h1.n _ ∧ acc = dI (((thereS s).take n).map (ownI s))) _ 0 [] _ ⟨rfl, rfl⟩ (fun i acc h2 _ _ hh => rfl) (fun i d acc h2 e hh => ?_) (fun acc h2 hh => ?_)
    · obtain ⟨eh, rfl⟩ := hh
      have FY : Fz (fun _ => False) h' h2 := by rw [eh]; exact FX _
      have oB := o0.st (col' := col) (j := k2 + 1) (FY.mono fun _ z _ => z.elim) (by omega) fun _ _ => rfl
      clear FY
      have oB1 := oB.d
      have oB2 := oB.r
      rw [List.getElem?_map] at e
      obtain ⟨z, e1, rfl⟩ := Option.map_eq_some_iff.mp e
      obtain ⟨j, hj, rfl, g⟩ := thereN_mem (List.mem_of_getElem? e1)
      obtain ⟨p, _, f1, f2, _, _⟩ := row_at oB (r := (j : Int)) (by omega) (by rw [List.length_map]; omega)
      rw [Int.toNat_natCast] at f1
      obtain ⟨_, _, f3, _⟩ := row_none oB f1
      refine ⟨_, rfl, ?_⟩
      repeat (walk_at "m1")
      unfold c_alike_2
      repeat (walk_at "m1")
      refine ev_ixL oB2 f2 ?_
      refine ev_dgetS f3 (by exact rfl) ?_
      have hi := (List.getElem?_eq_some_iff.mp e1).1
      refine ⟨?_, eh, ?_⟩
      · simp only [List.length_map, List.length_take]
        unfold SL
        omega
      · rw [Nat.zero_add, List.take_add_one, e1]
        simp
    · obtain ⟨rfl, rfl⟩ := hh
      rw [List.length_map, Nat.zero_add, List.take_length]
      have sl := sortU_len ((thereS s).map (ownI s))
      rw [List.length_map] at sl
      repeat (walk_at "m1")
      refine ev_sortSetR rfl rfl (by rw [List.length_map]; exact Nat.lt_of_le_of_lt tl (by unfold MSET; omega)) (Nat.lt_of_le_of_lt sl (by omega)) ?_
      repeat (walk_at "m1")
      refine for_inv (fun n σ h2 => ∃ x4 x5 xs ys a6 a7 a8, σ = [some (.loc lr), some (.loc lo), some (.loc lR), some (.kl (dI (thereS s))), some x4, some x5, a6, a7, a8] ∧ Fz (fun _ => False) h' h2 ∧ Lq h2 x4 xs ∧ Lq h2 x5 ys ∧ (∀ a, x4 = .loc a → a < h2.n) ∧ (∀ a, x5 = .loc a → a < h2.n) ∧ xs.length = 5 + 3 * n ∧ ys.length = 5 + 3 * n ∧ Vds h2 xs (PP s n) ∧ Vds h2 ys (PP s n)) _ 0 _ _ ?_ ?_ ?_ ?_
      · refine ⟨_, _, _, _, none, none, none, rfl, (FX _).put _ (.inr (by omega)), .inr ⟨_, rfl, (put_ne (by omega)).trans (put_eq rfl)⟩, .inr ⟨_, rfl, put_eq rfl⟩, fun a e => ?_, fun a e => ?_, rfl, rfl, ?_, ?_⟩
        · cases e
          simp only [put_n]
          omega
        · cases e
          simp only [put_n]
          omega
        · rw [show PP s 0 = P0 s by simp [PP]]
          exact .cons (.flat fun h' => dat_tI (n := 9) _) (.cons (vd_ints ((put_ne (by omega)).trans ((put_ne (by omega)).trans gT)) (by simp only [put_n]; omega)) (.cons (.flat fun _ => rfl) (.cons (.flat fun h' => datS (n := 10) r2) (.cons (vd_ints ((put_ne (by omega)).trans ((put_ne (by omega)).trans g4)) (by simp only [put_n]; omega)) .nil))))
        · rw [show PP s 0 = P0 s by simp [PP]]
          exact .cons (.flat fun h' => dat_tI (n := 9) _) (.cons (vd_kints _) (.cons (.flat fun _ => rfl) (.cons (.flat fun h' => datS (n := 10) r2) (.cons (vd_kints _) .nil))))
      · rintro i σ h2 _ _ ⟨x4, x5, xs, ys, a6, a7, a8, rfl, f2, _⟩
        have oo := o0.st (col' := col) (j := k2 + 1) (f2.mono fun _ z _ => z.elim) (by omega) (fun _ _ => rfl)
        exact decide_eq_true (seq_loc oo.r)
      · rintro i d σ h2 ed ⟨x4, x5, xs, ys, a6, a7, a8, rfl, f2, q4, q5, m4, m5, n4', n5', d4, d5⟩
        have oo := o0.st (col' := col) (j := k2 + 1) (f2.mono fun _ z _ => z.elim) (by omega) (fun _ _ => rfl)
        have ww := w0.st (col' := col) (j := k + 1) (f2.mono fun _ z _ => z.elim) (by omega) (fun _ _ => rfl)
        obtain ⟨x, e1, rfl⟩ := num_at ed
        rw [List.getElem?_map] at e1
        obtain ⟨p, e2, rfl⟩ := Option.map_eq_some_iff.mp e1
        have hi := (List.getElem?_eq_some_iff.mp e2).1
        have fT : True → Fz (fun _ => False) h' h2 := fun _ => f2
        clear f2 FX FW
        obtain ⟨a, p⟩ := p
        rw [Nat.zero_add] at n4' n5' d4 d5
        have wr := ww.r
        have wc2 := ww.ch
        repeat (walk_at "m1")
        unfold l_alike_3
        repeat (walk_at "m1")
        refine owner_of_w ww (by omega) hn ?_
        repeat (walk_at "m1")
        refine is_gone_w ww (by omega) hn ?_
        repeat (walk_at "m1")
        refine places_of_w ww (by omega) hn ?_
        have f3 : Fz (fun _ => False) h2 (h2.new (.lst (dW (wsAt s i)))) := (Fz.refl _ _).new _
        have n3 : (h2.new (.lst (dW (wsAt s i)))).n = h2.n + 1 := rfl
        have g3 : (h2.new (.lst (dW (wsAt s i)))).g h2.n = some (.lst (dW (wsAt s i))) := new_eq rfl
        have q4 := q4.st f3 m4
        have q5 := q5.st f3 m5
        have d4 := d4.st f3
        have d5 := d5.st f3
        have oo := oo.st (col' := col) (j := k2 + 1) (f3.mono fun _ z _ => z.elim) (by omega) (fun _ _ => rfl)
        have fU : True → Fz (fun _ => False) h' (h2.new (.lst (dW (wsAt s i)))) := fun _ => (fT trivial).after f3 fun _ z _ => z
        clear f3 fT ww wr wc2
        generalize (h2.new (.lst (dW (wsAt s i)))) = h3 at n3 g3 q4 q5 d4 d5 oo fU ⊢
        obtain ⟨z1, z2, z3, z4⟩ := row_none oo e2
        have z3 : h3.g a = some (rowF (ownI s (i : Int)) p) := z3
        repeat (walk_at "m1")
        refine ev_addKs q4.seq rfl (by rw [n4']; simp only [List.length_cons, List.length_nil]; omega) ?_
        repeat (walk_at "m1")
        have E4 : Vds h3 (xs ++ [.int (ownI s (i : Int)), .bl (goneB s i), .loc h2.n]) (PP s (i + 1)) := by
          rw [PP_succ]
          exact d4.app (.cons (.flat fun _ => rfl) (.cons (.flat fun _ => rfl) (.cons (vd_words g3 (by omega)) .nil)))
        have EL : ∀ y, Vd h3 y (.list ((wsAt s i).map Wd.p)) → Vds h3 (ys ++ [.int (ownI s (i : Int)), .bl (goneB s i), y]) (PP s (i + 1)) := fun y hy => by
          rw [PP_succ]
          exact d5.app (.cons (.flat fun _ => rfl) (.cons (.flat fun _ => rfl) (.cons hy .nil)))
        cases p with
        | none =>
          unfold pD at z1 ⊢
          repeat (walk_at "m1")
          refine ev_addKs q5.seq rfl (by rw [n5']; simp only [List.length_cons, List.length_nil]; omega) ?_
          repeat (walk_at "m1")
          rw [z1] at EL
          refine ⟨_, _, _, _, _, _, _, rfl, fU trivial, .inl rfl, .inl rfl, (fun a z => nomatch z), (fun a z => nomatch z), ?_, ?_, by rw [Nat.zero_add]; exact E4, by rw [Nat.zero_add]; exact EL (.kl []) (by rw [z4 rfl]; exact .flat fun _ => rfl)⟩
          · rw [List.length_append, n4']; simp only [List.length_cons, List.length_nil]; omega
          · rw [List.length_append, n5']; simp only [List.length_cons, List.length_nil]; omega
        | some b =>
          unfold pD at z1 ⊢
          repeat (walk_at "m1")
          refine ev_addKs q5.seq rfl (by rw [n5']; simp only [List.length_cons, List.length_nil]; omega) ?_
          repeat (walk_at "m1")
          rw [z1] at EL
          refine ⟨_, _, _, _, _, _, _, rfl, fU trivial, .inl rfl, .inl rfl, (fun a z => nomatch z), (fun a z => nomatch z), ?_, ?_, by rw [Nat.zero_add]; exact E4, by rw [Nat.zero_add]; exact EL _ (vd_words (z2 b rfl).1 (z2 b rfl).2)⟩
          · rw [List.length_append, n4']; simp only [List.length_cons, List.length_nil]; omega
          · rw [List.length_append, n5']; simp only [List.length_cons, List.length_nil]; omega
      · rintro σ h2 ⟨x4, x5, xs, ys, a6, a7, a8, rfl, f2, q4, q5, m4, m5, n4', n5', d4, d5⟩
        rw [num_len, List.length_map, Nat.zero_add, l1] at d4 d5
        have fT : True → Fz (fun _ => False) h' h2 := fun _ => f2
        clear f2 FX FW
        repeat (walk_at "m1")
        refine ev_repr (q4.dt d4.dat) (PP_fits ok hm) ?_
        repeat (walk_at "m1")
        refine ev_repr (q5.dt d5.dat) (PP_fits ok hm) ?_
        repeat (walk_at "m1")
        have hd : ∀ A : Str, @decide (A = A) (strDec A A) = true := fun A => @decide_eq_true _ (strDec A A) rfl
        rw [hd]
        exact q h2 (fT trivial)
end
end Lw
end
section
set_option maxHeartbeats 4000000
namespace Lw
open PySem Mo
abbrev s0 (mo : Int) : RmS := ⟨mo, [], [], []⟩
theorem s0_ok (mo : Int) : SOk (s0 mo) 0 := ⟨Nat.le_refl _, rfl, Nat.le_refl _, (fun x h => nomatch h), (fun x h => nomatch h), (fun x h => nomatch h)⟩
abbrev colE (col : Nat → Nat) (h : Hm) (k : Nat) : Nat → Nat := fun l => if l < h.n then col l else k
section
variable {E : XE} {Q : D → Hm → Prop} {col : Nat → Nat} {k : Nat} {h : Hm}
theorem init_w (col : Nat → Nat) (k : Nat) {mo : Int} (m0 : 0 ≤ mo) (m1 : mo ≤ 1000) (q : ∀ h', Fz (fun _ => False) h h' → Rm (colE col h k) k h' h.n (h.n + 1) (h.n + 2) (h.n + 3) [] (s0 mo) → Q .non h') : Ev E (f_Rooms_init [.loc h.n, .int mo] (h.new (.ins 0 []))) Q := by
  refine u_Rooms_init ?_
  unfold b_Rooms_init
  repeat (walk_at "m1")
  refine u_is_whole ?_
  unfold b_is_whole
  repeat (walk_at "m1")
  refine q _ ?_ ?_
  · refine Fz.put ?_ _ (.inr (Nat.le_refl _))
    refine Fz.put ?_ _ (.inr (Nat.le_refl _))
    refine Fz.put ?_ _ (.inr (Nat.le_refl _))
    refine Fz.new ?_ _
    refine Fz.new ?_ _
    refine Fz.new ?_ _
    refine Fz.put ?_ _ (.inr (Nat.le_refl _))
    exact (Fz.refl _ h).new _
  · refine ⟨by walk_at "mH", by walk_at "mH", by walk_at "mH", by walk_at "mH", rfl, rfl, (fun i a e => by simp at e), (fun i e => by simp at e), (fun i j a b e => by simp at e), ?_, ?_⟩
    · simp only [put_n, new_n]; omega
    · simp only [colE]
      refine ⟨if_neg (by omega), if_neg (by omega), if_neg (by omega), if_neg (by omega)⟩
theorem begun_w (col : Nat → Nat) (k : Nat) {mo : Int} (q : ∀ h', Fz (fun _ => False) h h' → Ow (colE col h k) k h' (h.n + 3) h.n (h.n + 1) (h.n + 2) [] (s0 mo) [] → Q (.loc (h.n + 3)) h') : Ev E (f_begun [.int mo] h) Q := by
  refine u_begun ?_
  unfold b_begun
  repeat (walk_at "m1")
  refine q _ ((((Fz.refl _ h).new _).new _).new _ |>.new _) ?_
  refine ⟨by walk_at "mH", by walk_at "mH", by walk_at "mH", by walk_at "mH", rfl, rfl, (fun i p e => by simp at e), (fun i a b e => by simp at e), (fun i a e => by simp at e), (fun i j p p' e => by simp at e), ?_, ?_, (fun x hx => nomatch hx)⟩
  · simp only [new_n]; omega
  · simp only [colE]
    refine ⟨if_neg (by omega), if_neg (by omega), if_neg (by omega), if_neg (by omega)⟩
end
def oP : Option Wd → PyData
  | some w => w.p
  | none => .none
def Rs.p : Rs → PyData
  | .told x => .tuple [.str q_told, oP x]
  | .trap e => .tuple [.str q_trap, .str e]
def isTr (e : Str) : Prop := e = q_gone ∨ e = q_bounds ∨ e = q_kind ∨ e = q_size ∨ e = q_full
theorem lead_tr {pl : List (Option (List Wd))} {r st sz : Int} {e : Str} (k : leadS pl r st sz = some e) : isTr e := by
  unfold leadS at k
  split at k
  · split at k
    · cases k; exact .inr (.inl rfl)
    · cases k
  · cases k; exact .inl rfl
theorem place_tr {pl : List (Option (List Wd))} {w a : Wd} {e : Str} (k : placeS pl w a = .error e) : isTr e := by
  unfold placeS at k
  split at k
  · split at k
    · rename_i h1
      cases k
      exact lead_tr h1
    · split at k
      · cases k
      · cases k; exact .inr (.inl rfl)
  · cases k; exact .inr (.inr (.inl rfl))
theorem step_tr {s : RmS} {d : Dd} {e : Str} (k : (stepS s d).1 = .trap e) : isTr e := by
  cases d with
  | make m o =>
    simp only [stepS, makeS] at k
    split at k
    · split at k
      · split at k
        · cases k; exact .inr (.inr (.inr (.inr rfl)))
        · cases k
      · cases k; exact .inr (.inr (.inr (.inl rfl)))
    · cases k; exact .inr (.inr (.inl rfl))
  | look w a =>
    simp only [stepS, lookS] at k
    split at k
    · rename_i h1; cases k; exact place_tr h1
    · cases k
  | put w a o =>
    simp only [stepS, putS] at k
    split at k
    · rename_i h1; cases k; exact place_tr h1
    · cases k
  | part w a b =>
    simp only [stepS, partS] at k
    split at k
    · split at k
      · rename_i h1; cases k; exact lead_tr h1
      · split at k
        · cases k; exact .inr (.inl rfl)
        · cases k
    · cases k; exact .inr (.inr (.inl rfl))
  | size w =>
    simp only [stepS, sizeS] at k
    split at k
    · split at k
      · rename_i h1; cases k; exact lead_tr h1
      · cases k
    · cases k; exact .inr (.inr (.inl rfl))
theorem tr_ok {e : Str} (k : isTr e) : PyData.strOk e = true ∧ e.cps.size ≤ 8 := by
  rcases k with rfl | rfl | rfl | rfl | rfl
  · exact ⟨ok_q_gone, by decide⟩
  · exact ⟨ok_q_bounds, by decide⟩
  · exact ⟨ok_q_kind, by decide⟩
  · exact ⟨ok_q_size, by decide⟩
  · exact ⟨ok_q_full, by decide⟩
theorem rs_dat {h : Hm} {x : Rs} (k1 : ∀ e, x = .trap e → isTr e) (k2 : ∀ w, x = .told (some w) → w.ok) : dat DEP h x.d = some x.p ∧ fits x.p = true := by
  cases x with
  | trap e =>
    obtain ⟨a, b⟩ := tr_ok (k1 e rfl)
    refine ⟨Option.map_eq_some_iff.mpr ⟨_, datL_cons (datS (n := 10) ok_q_trap) (datL_cons (datS (n := 10) a) rfl), rfl⟩, ?_⟩
    unfold fits
    have := ok_q_trap
    simp only [Rs.p, tame, tameL, a, ok_q_trap, Bool.true_and, PyData.bulk, PyData.bulkAll]
    exact decide_eq_true (by have : q_trap.cps.size = 4 := rfl; omega)
  | told x =>
    cases x with
    | none =>
      exact ⟨Option.map_eq_some_iff.mpr ⟨_, datL_cons (datS (n := 10) ok_q_told) rfl, rfl⟩, by decide +kernel⟩
    | some w =>
      obtain ⟨a, b⟩ := wd_gp (k2 w rfl)
      refine ⟨Option.map_eq_some_iff.mpr ⟨_, datL_cons (datS (n := 10) ok_q_told) (datL_cons (datW (n := 9) w) rfl), rfl⟩, ?_⟩
      unfold fits
      simp only [Rs.p, oP, tame, tameL, a, ok_q_told, Bool.true_and, PyData.bulk, PyData.bulkAll]
      exact decide_eq_true (by have : q_told.cps.size = 4 := rfl; omega)
structure Pr (col : Nat → Nat) (kr ko : Nat) (h : Hm) (r o n : Nat) : Prop where
  e : ∃ lo lp lt ps s lR lT lW rs wl, Rm col kr h r lo lp lt ps s ∧ Ow col ko h o lR lT lW rs s wl ∧ SOk s n ∧ wl.length ≤ n
theorem Pr.st {col col' : Nat → Nat} {kr ko j r o n : Nat} {h h' : Hm} (w : Pr col kr ko h r o n) (f : Fz (fun l => col l = j) h h') (n1 : kr ≠ j) (n2 : ko ≠ j) (ag : ∀ l, l < h.n → col' l = col l) : Pr col' kr ko h' r o n := by
  obtain ⟨lo, lp, lt, ps, s, lR, lT, lW, rs, wl, a, b, c, d⟩ := w.e
  exact ⟨lo, lp, lt, ps, s, lR, lT, lW, rs, wl, a.st f n1 ag, b.st f n2 ag, c, d⟩
theorem SOk.up {s : RmS} {n m : Nat} (k : SOk s n) (l : n ≤ m) : SOk s m := ⟨Nat.le_trans k.o l, k.l, Nat.le_trans k.t l, k.so, k.st, k.w⟩
theorem Pr.up {col : Nat → Nat} {kr ko r o n m : Nat} {h : Hm} (w : Pr col kr ko h r o n) (l : n ≤ m) : Pr col kr ko h r o m := by
  obtain ⟨lo, lp, lt, ps, s, lR, lT, lW, rs, wl, a, b, c, d⟩ := w.e
  exact ⟨lo, lp, lt, ps, s, lR, lT, lW, rs, wl, a, b, c.up l, Nat.le_trans d l⟩
section
variable {E : XE} {Q : D → Hm → Prop} {col : Nat → Nat} {kr ko r o n : Nat} {h : Hm}
end
end Lw
end
section
set_option maxHeartbeats 4000000
namespace Lw
open PySem Mo
theorem hd (A : Str) : @decide (A = A) (strDec A A) = true := @decide_eq_true _ (strDec A A) rfl
theorem _root_.Mo.Fz.col {h0 h h' : Hm} {ld k : Nat} {col : Nat → Nat} (F : Fz (fun l => l = ld) h0 h) (cb : ∀ l, l < h0.n → l ≠ ld → col l = 9) (f : Fz (fun l => col l = k) h h') (ne : k ≠ 9) : Fz (fun l => l = ld) h0 h' := F.after f fun l z hl => by
  by_cases e : l = ld
  · exact e
  · have := cb l hl e
    omega
theorem _root_.Mo.Fz.cb4 {h0 h : Hm} {ld : Nat} {col col' : Nat → Nat} (F : Fz (fun l => l = ld) h0 h) (cb : ∀ l, l < h0.n → l ≠ ld → col l = 9) (ag : ∀ l, l < h.n → col' l = col l) : ∀ l, l < h0.n → l ≠ ld → col' l = 9 := fun l hl e => by
  have := F.n
  rw [ag l (by omega)]
  exact cb l hl e
theorem note_len (wl : List Wd) (x : Rs) : (noteS wl x).length ≤ wl.length + 1 := by
  unfold noteS
  split
  · rw [List.length_append, List.length_singleton]; exact Nat.le_refl _
  · exact Nat.le_succ _
section
variable {E : XS} {P : Po} {h h0 : Hm} {ld n r1 o1 r2 o2 : Nat} {cs : List Int}
end
end Lw
end
section
set_option maxHeartbeats 4000000
namespace Lw
open PySem Mo
abbrev rL (L n : Nat) : List D := (List.range n).map fun i => .loc (L + 1 + i)
structure DOk (h : Hm) (l : Nat) : Prop where
  e : ∃ cs a lf, h.g l = some (dicO cs a lf) ∧ cs ≠ [] ∧ 0 ≤ a ∧ a ≤ 500
  n : l < h.n
theorem DOk.fz {S : Nat → Prop} {h h' : Hm} {l : Nat} (w : DOk h l) (f : Fz S h h') (k : ¬ S l) : DOk h' l := by
  obtain ⟨⟨cs, a, lf, e, c, k0, k1⟩, n⟩ := w
  exact ⟨⟨cs, a, lf, f.at n k e, c, k0, k1⟩, Nat.lt_of_lt_of_le n f.n⟩
theorem rL_succ (L n : Nat) : rL L (n + 1) = rL L n ++ [.loc (L + 1 + n)] := by
  unfold rL
  rw [List.range_succ, List.map_append]
  rfl
section
variable {E : XE} {Q : D → Hm → Prop} {h : Hm}
theorem draws_go {P : Po} {E : XS} {x0 x2 x3 x4 : Option D} {cs : List Int} (hc : cs ≠ []) (hl : cs.length ≤ 100)
    (q : ∀ h' L n, (∀ i, i < n → DOk h' (L + 1 + i)) → P.rt (.kl (rL L n)) h') :
    EvS E (sSeq (sAsg (eLst (aNil)) (gN 2)) (sSeq (sFor (iEnum (eSlX (eV 1) oNone (oSome (eC (.int 6))))) (gT 2 [gN 3, gN 4]) l_draws_1) (sRet (eFrz (eV 2)))) [x0, some (.kl (dI cs)), x2, x3, x4] h) P := by
  repeat (walk_at "m1")
  have ct : cutL (dI cs) none (some (6 : Int)) = (dI cs).take 6 := cut_to (i := 6)
  rw [ct]
  refine for_inv (fun n σ h' => ∃ a3 a4, σ = [x0, some (.kl (dI cs)), some (.loc h.n), a3, a4] ∧ h'.g h.n = some (.lst (rL h.n n)) ∧ h'.n = h.n + 1 + n ∧ ∀ i, i < n → DOk h' (h.n + 1 + i)) _ 0 _ _ ⟨x3, x4, rfl, by walk_at "mH", rfl, fun i hi => by omega⟩ (fun i σ h' _ _ _ => decide_eq_true rfl) ?_ ?_
  · rintro i d σ h' ed ⟨a3, a4, rfl, g1, n1, dk⟩
    rw [Nat.zero_add] at g1 n1 dk
    obtain ⟨x, e1, rfl⟩ := num_at ed
    have hi := (List.getElem?_eq_some_iff.mp e1).1
    rw [List.length_take, List.length_map] at hi
    rw [List.getElem?_take_of_lt (by omega), List.getElem?_map] at e1
    obtain ⟨c, e2, rfl⟩ := Option.map_eq_some_iff.mp e1
    have c1 : cutL (dI cs) (some (i : Int)) none = (dI cs).drop i := cut_from (by rw [List.length_map]; omega)
    have c2 : cutL (dI cs) none (some (i : Int)) = (dI cs).take i := cut_to
    have e3 : (dI cs).drop i ++ (dI cs).take i = dI (cs.drop i ++ cs.take i) := by
      show _ = (cs.drop i ++ cs.take i).map D.int
      rw [List.map_append, List.map_drop, List.map_take]
    have l3 : (dI (cs.drop i ++ cs.take i)).length = cs.length := by
      rw [List.length_map, List.length_append, List.length_drop, List.length_take]
      omega
    have hne : cs.drop i ++ cs.take i ≠ [] := fun z => by
      have := congrArg List.length z
      rw [List.length_map] at l3
      rw [l3] at this
      cases cs with
      | nil => exact hc rfl
      | cons a r => cases this
    have nz : (i : Int) ≤ 5 := by omega
    have lr : (rL h.n i).length = i := by simp
    repeat (walk_at "m1")
    unfold l_draws_1
    repeat (walk_at "m1")
    rw [c1, c2]
    refine ev_addKK (by rw [List.length_drop, List.length_take, List.length_map]; unfold SL; omega) ?_
    rw [e3]
    repeat (walk_at "m1")
    have fin : ∀ lf : Int, ∃ a3 a4, [x0, some (D.kl (dI cs)), some (D.loc h.n), some (D.int (i : Int)), some (D.int c)] = [x0, some (.kl (dI cs)), some (.loc h.n), a3, a4] ∧ ((h'.new (dicO (cs.drop i ++ cs.take i) (89 * (i : Int)) lf)).put h.n (.lst (rL h.n i ++ [.loc h'.n]))).g h.n = some (.lst (rL h.n (0 + i + 1))) ∧ ((h'.new (dicO (cs.drop i ++ cs.take i) (89 * (i : Int)) lf)).put h.n (.lst (rL h.n i ++ [.loc h'.n]))).n = h.n + 1 + (0 + i + 1) ∧ ∀ j, j < 0 + i + 1 → DOk ((h'.new (dicO (cs.drop i ++ cs.take i) (89 * (i : Int)) lf)).put h.n (.lst (rL h.n i ++ [.loc h'.n]))) (h.n + 1 + j) := by
      intro lf
      refine ⟨_, _, rfl, ?_, ?_, fun j hj => ?_⟩
      · rw [Nat.zero_add, rL_succ]
        refine Eq.trans (put_eq rfl) ?_
        rw [n1]
      · simp only [put_n, new_n]
        omega
      · by_cases hji : j = i
        · subst hji
          refine ⟨⟨_, _, lf, Eq.trans (put_ne (by omega)) (new_eq (by omega)), hne, by omega, by omega⟩, ?_⟩
          simp only [put_n, new_n]
          omega
        · have f : Fz (fun l => l = h.n) h' ((h'.new (dicO (cs.drop i ++ cs.take i) (89 * (i : Int)) lf)).put h.n (.lst (rL h.n i ++ [.loc h'.n]))) := ((Fz.refl _ h').new _).put _ (.inl rfl)
          exact (dk j (by omega)).fz f (by omega)
    refine sel_of (fun c => ?_) (fun c => ?_)
    · repeat (walk_at "m1")
      exact fin _
    · repeat (walk_at "m1")
      exact fin _
  · rintro σ h' ⟨a3, a4, rfl, g1, n1, dk⟩
    repeat (walk_at "m1")
    refine q _ h.n _ fun i hi => ?_
    have f : Fz (fun l => l = h.n) h' (h'.del h.n) := (Fz.refl _ h').del (.inl rfl)
    exact (dk i hi).fz f (by omega)
theorem draws_w {ns : List Int} (hl : ns.length ≤ 63) (q : ∀ h' L n, (∀ i, i < n → DOk h' (L + 1 + i)) → Q (.kl (rL L n)) h') : Ev E (f_draws [.kl (dI ns)] h) Q := by
  refine u_draws ?_
  unfold b_draws
  refine es_seq ?_
  refine EvS.mono (P := ⟨fun σ h1 => ∃ cs : List Int, cs ≠ [] ∧ cs.length ≤ 100 ∧ σ = [some (.kl (dI ns)), some (.kl (dI cs)), none, none, none], fun _ _ => False, fun _ _ => False, fun _ _ => False⟩) ?_ (fun σ h1 => ?_) (fun _ _ z => z.elim) (fun _ _ z => z.elim) (fun _ _ z => z.elim)
  · repeat (walk_at "m1")
    refine ev_neD (dat_kI (n := 10) ns) (dat0 (n := 11)) ?_
    rw [eqv0]
    by_cases c : ns = []
    · subst c
      repeat (walk_at "m1")
      exact ⟨[0], by simp, by simp, rfl⟩
    · rw [decide_eq_false (p := List.map PyData.int ns = []) (by simpa using c)]
      repeat (walk_at "m1")
      exact ⟨ns, c, by omega, rfl⟩
  · rintro ⟨cs, c1, c2, rfl⟩
    exact draws_go (P := poF Q) c1 c2 q
end
end Lw
end
section
set_option maxHeartbeats 2000000
namespace Lw
open PySem Mo
theorem inD_int (z : Int) : ∀ ks : List Int, inD (.int z) (dI ks) = decide (z ∈ ks)
  | [] => rfl
  | k :: ks => by
    have ih := inD_int z ks
    show (k == z || inD (.int z) (dI ks)) = _
    rw [ih]
    by_cases c : k = z
    · subst c; simp
    · simp [c, Ne.symm c]
theorem flat_ints : ∀ ks : List Int, (dI ks).all flatD = true
  | [] => rfl
  | k :: ks => by
    show (true && (dI ks).all flatD) = true
    rw [flat_ints ks]
    rfl
theorem ev_inL {E : XE} {h : Hm} {Q : D → Hm → Prop} {neg : Bool} {z : Int} {ks : List Int} {l : Nat} (e : h.g l = some (.lst (dI ks))) (q : Q (.bl (if neg then !decide (z ∈ ks) else decide (z ∈ ks))) h) : Ev E (opIn neg (.int z) (.loc l) h) Q := by
  show Ev E (match h.seq (.loc l) with
    | some ds => ifR (flatD (.int z) && ds.all flatD) (.ok (.bl (if neg then !inD (.int z) ds else inD (.int z) ds)) h)
    | none => .bad) Q
  rw [seq_loc e]
  refine ev_ifR (by rw [flat_ints]; rfl) ?_
  rw [inD_int]
  exact q
def endL (s : RmS) (o : Int) : List Int := (thereS s).filter fun z => decide (ownI s z = o)
def goneL {α : Type} (xs : List (Option α)) (zs : List Int) : List (Option α) := zs.foldl (fun xs z => xs.set z.toNat none) xs
def endS (s : RmS) (o : Int) : RmS := { s with pl := goneL s.pl (endL s o) }
theorem goneL_len {α : Type} : ∀ (zs : List Int) (xs : List (Option α)), (goneL xs zs).length = xs.length
  | [], xs => rfl
  | z :: zs, xs => by
    show (goneL (xs.set z.toNat none) zs).length = _
    rw [goneL_len zs, List.length_set]
section
variable {E : XE} {Q : D → Hm → Prop} {col : Nat → Nat} {k : Nat} {h : Hm} {lr lo lp lt : Nat} {ps : List (Option Nat)} {s : RmS}
theorem Rm.gone (w : Rm col k h lr lo lp lt ps s) (i : Nat) : Rm col k (h.put lp (.lst ((ps.set i none).map pD))) lr lo lp lt (ps.set i none) { s with pl := s.pl.set i none } := by
  obtain ⟨r, o, p, t, l1, l2, q, q0, mono, ch, c⟩ := w
  have old : ∀ {j a : Nat}, (ps.set i none)[j]? = some (some a) → ps[j]? = some (some a) ∧ i ≠ j := fun {j a} e => by
    by_cases hij : i = j
    · subst hij
      rw [List.getElem?_set, if_pos rfl] at e
      split at e <;> cases e
    · rw [List.getElem?_set_ne hij] at e
      exact ⟨e, hij⟩
  refine ⟨by walk_at "mH", by walk_at "mH", by walk_at "mH", by walk_at "mH", by rw [List.length_set]; exact l1, by rw [List.length_set]; exact l2, fun j a e => ?_, fun j e => ?_, fun j j' a b ea eb hj => mono j j' a b (old ea).1 (old eb).1 hj, ch, c⟩
  · obtain ⟨e, hij⟩ := old e
    obtain ⟨ws, e1, e2, e3, e4, e5⟩ := q j a e
    exact ⟨ws, by rw [List.getElem?_set_ne hij]; exact e1, by walk_at "mH", e3, e4, e5⟩
  · by_cases hij : i = j
    · subst hij
      have hl := (List.getElem?_eq_some_iff.mp e).1
      rw [List.length_set] at hl
      rw [List.getElem?_set, if_pos rfl, if_pos (by omega)]
    · rw [List.getElem?_set_ne hij] at e
      rw [List.getElem?_set_ne hij]
      exact q0 j e
theorem end_w (w : Rm col k h lr lo lp lt ps s) (hn : s.own.length < 64) {o : Int} (ho : ∃ z ∈ thereS s, ownI s z = o) (q : ∀ h' ps', Fz (fun l => col l = k) h h' → Rm col k h' lr lo lp lt ps' (endS s o) → Q (.kl (dI (endL s o))) h') : Ev E (f_Rooms_end_rooms [.loc lr, .int o] h) Q := by
  have w1 := w.r
  have w2 := w.o
  have l1 := w.l1
  have l2 := w.l2
  have cc := w.c
  have tl : (thereS s).length ≤ s.pl.length := thereN_len s s.pl.length
  refine u_Rooms_end_rooms ?_
  unfold b_Rooms_end_rooms
  repeat (walk_at "m1")
  refine u_is_number ?_
  unfold b_is_number
  repeat (walk_at "m1")
  refine owners_w w hn fun h1 f1 n1 g1 => ?_
  have w := w.st (j := k + 1) (f1.mono fun _ z _ => z.elim) (by omega) fun _ _ => rfl
  have w1 := w.r
  have w2 := w.o
  have wc := w.ch
  have q : ∀ h' ps', Fz (fun l => col l = k) h1 h' → Rm col k h' lr lo lp lt ps' (endS s o) → Q (.kl (dI (endL s o))) h' := fun h' ps' f r => q h' ps' ((f1.mono fun _ z _ => z.elim).after f fun _ z _ => z) r
  refine ev_inL g1 ?_
  have hm : o ∈ sortU ((thereS s).map (ownI s)) := by
    obtain ⟨z, hz, e⟩ := ho
    exact (sortU_mem o _).mpr (List.mem_map.mpr ⟨z, hz, e⟩)
  rw [decide_eq_true hm]
  repeat (walk_at "m1")
  refine there_w w hn ?_
  have f2 : Fz (fun _ => False) h1 (h1.new (.lst (dI (thereS s)))) := (Fz.refl _ _).new _
  have g2 : (h1.new (.lst (dI (thereS s)))).g h1.n = some (.lst (dI (thereS s))) := new_eq rfl
  have w := w.st (j := k + 1) (f2.mono fun _ z _ => z.elim) (by omega) fun _ _ => rfl
  have q : ∀ h' ps', Fz (fun l => col l = k) (h1.new (.lst (dI (thereS s)))) h' → Rm col k h' lr lo lp lt ps' (endS s o) → Q (.kl (dI (endL s o))) h' := fun h' ps' f r => q h' ps' ((f2.mono fun _ z _ => z.elim).after f fun _ z _ => z) r
  clear f2 f1
  generalize (h1.new (.lst (dI (thereS s)))) = h2 at g2 w q ⊢
  have w1 := w.r
  have w2 := w.o
  repeat (walk_at "m1")
  refine comp_inv (fun n acc h' => h' = h2 ∧ acc = dI (((thereS s).take n).filter fun z => decide (ownI s z = o))) _ 0 [] h2 ⟨rfl, rfl⟩ (fun i acc h' _ _ hh => by rw [hh.1]; exact decide_eq_true (seq_loc g2)) (fun i d acc h' e hh => ?_) (fun acc h' hh => ?_)
  · obtain ⟨rfl, rfl⟩ := hh
    rw [List.getElem?_map] at e
    obtain ⟨z, e1, rfl⟩ := Option.map_eq_some_iff.mp e
    obtain ⟨j, hj, rfl, g⟩ := thereN_mem (List.mem_of_getElem? e1)
    have hi := (List.getElem?_eq_some_iff.mp e1).1
    refine ⟨_, rfl, ?_⟩
    repeat (walk_at "m1")
    refine ev_ixL w2 (own_at (by omega)) ?_
    rw [Nat.zero_add, List.take_add_one, e1]
    repeat (walk_at "m1")
    refine sel_of (fun c => ?_) (fun c => ?_)
    · unfold c_Rooms_end_rooms_1
      repeat (walk_at "m1")
      refine ⟨?_, rfl, ?_⟩
      · rw [List.length_map]
        have := List.length_filter_le (fun z => decide (ownI s z = o)) ((thereS s).take i)
        rw [List.length_take] at this
        unfold SL
        omega
      · simp [List.filter_append, List.filter_cons, c]
    · refine ⟨rfl, ?_⟩
      simp [List.filter_append, List.filter_cons, c]
  · obtain ⟨rfl, rfl⟩ := hh
    rw [List.length_map, Nat.zero_add, List.take_length]
    repeat (walk_at "m1")
    refine for_inv (fun n σ h2 => ∃ a3, σ = [some (.loc lr), some (.int o), some (.kl (dI (endL s o))), a3] ∧ Fz (fun l => col l = k) h' h2 ∧ h2.n = h'.n ∧ Rm col k h2 lr lo lp lt (goneL ps ((endL s o).take n)) { s with pl := goneL s.pl ((endL s o).take n) }) _ 0 _ _ ⟨none, rfl, Fz.refl _ _, rfl, w⟩ (fun i σ h2 _ _ _ => rfl) ?_ ?_
    · rintro i d σ h2 e ⟨a3, rfl, f2, n2, w⟩
      have e : (dI (endL s o))[i]? = some d := e
      rw [List.getElem?_map] at e
      obtain ⟨z, e1, rfl⟩ := Option.map_eq_some_iff.mp e
      have hz := (List.mem_filter.mp (List.mem_of_getElem? e1)).1
      obtain ⟨j, hj, rfl, g⟩ := thereN_mem hz
      rw [Nat.zero_add] at w
      have w1 := w.r
      have w2 := w.p
      have gl := goneL_len ((endL s o).take i) ps
      repeat (walk_at "m1")
      unfold l_Rooms_end_rooms_2
      repeat (walk_at "m1")
      refine gi (xs := (goneL ps ((endL s o).take i)).map pD) (j := j) w2 (by rw [ixI_at (by omega) (by rw [List.length_map]; omega)]; rfl) ?_
      have em : ((goneL ps ((endL s o).take i)).map pD).set j .non = ((goneL ps ((endL s o).take i)).set j none).map pD := by rw [List.map_set]; rfl
      rw [em]
      have et : ∀ {α : Type} (xs : List (Option α)), goneL xs ((endL s o).take (0 + i + 1)) = (goneL xs ((endL s o).take i)).set j none := fun xs => by
        unfold goneL
        rw [Nat.zero_add, List.take_add_one, e1, List.foldl_append]
        rfl
      refine ⟨_, rfl, f2.put _ (.inl cc.2.2.1), n2, ?_⟩
      have := w.gone j
      rw [et, et]
      exact this
    · rintro σ h2 ⟨a3, rfl, f2, n2, w⟩
      rw [List.length_map, Nat.zero_add, show ((thereS s).filter fun z => decide (ownI s z = o)) = endL s o from rfl, List.take_length] at w
      repeat (walk_at "m1")
      exact q h2 _ f2 w
end
end Lw
end
section
set_option maxHeartbeats 2000000
namespace Lw
open PySem Mo
section
variable {E : XE} {Q : D → Hm → Prop} {col : Nat → Nat} {k : Nat} {h : Hm} {lo lR lT lW : Nat} {rs : List (Nat × Option Nat)} {s : RmS} {wl : List Wd}
theorem Ow.gone (w : Ow col k h lo lR lT lW rs s wl) {i a : Nat} {po : Option Nat} {o : Int} (e : rs[i]? = some (a, po)) (eo : s.own[i]? = some o) : Ow col k (h.put a (rowF o none)) lo lR lT lW (rs.set i (a, none)) { s with pl := s.pl.set i none } wl := by
  obtain ⟨d, r, t, ww, l1, l2, q, q2, q0, mono, ch, c, wo⟩ := w
  have il := (List.getElem?_eq_some_iff.mp e).1
  obtain ⟨o1, f1, f2, f3, f4, f5⟩ := q i _ e
  have f3 : Ap lo lR lT lW a := f3
  have f4 : a < h.n := f4
  have f5 : col a = k := f5
  have old : ∀ {j : Nat} {p : Nat × Option Nat}, (rs.set i (a, none))[j]? = some p → ∃ p0, rs[j]? = some p0 ∧ p0.1 = p.1 ∧ (∀ b, p.2 = some b → p0.2 = some b ∧ i ≠ j) ∧ (i ≠ j → p0 = p) := fun {j p} ej => by
    by_cases hij : i = j
    · subst hij
      rw [List.getElem?_set_self il] at ej
      cases ej
      exact ⟨_, e, rfl, (fun b z => nomatch z), fun z => absurd rfl z⟩
    · rw [List.getElem?_set_ne hij] at ej
      exact ⟨p, ej, rfl, fun b z => ⟨z, hij⟩, fun _ => rfl⟩
  have apart : ∀ {j : Nat} {p : Nat × Option Nat}, rs[j]? = some p → i ≠ j → p.1 ≠ a ∧ ∀ b, p.2 = some b → b ≠ a := fun {j p} ej hij => by
    rcases Nat.lt_or_gt_of_ne hij with z | z
    · obtain ⟨m1, m2⟩ := mono i j _ _ e ej z
      have m1 : a < p.1 := m1
      refine ⟨by omega, fun b eb => ?_⟩
      have : a < b := m2 b eb
      omega
    · obtain ⟨m1, m2⟩ := mono j i _ _ ej e z
      have m1 : p.1 < a := m1
      refine ⟨by omega, fun b eb => ?_⟩
      obtain ⟨_, _, _, y1, y2, y3⟩ := q2 j p.1 b (by rw [ej, ← eb])
      omega
  have er : rD (rs.set i (a, none)) = rD rs := by
    refine List.ext_getElem? fun j => ?_
    rw [List.getElem?_map, List.getElem?_map]
    by_cases hij : i = j
    · subst hij
      rw [List.getElem?_set_self il, e]
      rfl
    · rw [List.getElem?_set_ne hij]
  refine ⟨by walk_at "mH", by rw [er]; walk_at "mH", by walk_at "mH", by walk_at "mH", by rw [List.length_set]; exact l1, by rw [List.length_set]; exact l2, fun j p ej => ?_, fun j a' b' ej => ?_, fun j a' ej => ?_, fun j j' p p' ej ej' hj => ?_, ch, c, wo⟩
  · obtain ⟨p0, g1, g2, g3, g4⟩ := old ej
    by_cases hij : i = j
    · subst hij
      rw [List.getElem?_set_self il] at ej
      cases ej
      exact ⟨o, eo, put_eq rfl, f3, f4, f5⟩
    · have := g4 hij
      subst this
      obtain ⟨o2, x1, x2, x3, x4, x5⟩ := q j _ g1
      have ap := (apart g1 hij).1
      exact ⟨o2, x1, (put_ne ap).trans x2, x3, x4, x5⟩
  · obtain ⟨p0, g1, g2, g3, g4⟩ := old ej
    have hij := (g3 b' rfl).2
    have := g4 hij
    subst this
    obtain ⟨ws, x1, x2, x3, x4, x5⟩ := q2 j _ _ g1
    have ap := (apart g1 hij).2 b' rfl
    exact ⟨ws, by rw [List.getElem?_set_ne hij]; exact x1, (put_ne ap).trans x2, x3, x4, x5⟩
  · by_cases hij : i = j
    · subst hij
      rw [List.getElem?_set_self (by omega)]
    · rw [List.getElem?_set_ne hij] at ej ⊢
      exact q0 j a' ej
  · obtain ⟨p0, g1, g2, g3, g4⟩ := old ej
    obtain ⟨p0', g1', g2', g3', g4'⟩ := old ej'
    obtain ⟨m1, m2⟩ := mono j j' _ _ g1 g1' hj
    rw [g2, g2'] at m1
    refine ⟨m1, fun b eb => ?_⟩
    have := m2 b (g3' b eb).1
    rw [g2] at this
    exact this
theorem fil_succ (s : RmS) (o : Int) (i : Nat) : (thereN s (i + 1)).filter (fun z => decide (ownI s z = o)) = (thereN s i).filter (fun z => decide (ownI s z = o)) ++ (if goneB s i then [] else if decide (ownI s (i : Int) = o) then [(i : Int)] else []) := by
  rw [thereN_succ, List.filter_append]
  congr 1
  by_cases c : goneB s i = true
  · rw [if_pos c, if_pos c]
    rfl
  · rw [if_neg c, if_neg c, List.filter_cons, List.filter_nil]
end
end Lw
end
section
set_option maxHeartbeats 2000000
namespace Lw
open PySem Mo
abbrev xN (d : D) : O := .xd [(q_name, d)]
section
variable {E : XE} {Q : D → Hm → Prop} {h : Hm}
variable {col : Nat → Nat} {k : Nat} {lr lo lp lt : Nat} {ps : List (Option Nat)} {s : RmS} {d : D}
theorem endI_w (w : Rm col k h lr lo lp lt ps s) (hn : s.own.length < 64) {o : Int} (no : o ∉ (thereS s).map (ownI s)) (q : ∀ h', Fz (fun _ => False) h h' → E 1 h'.n (h'.new (xN (.int o)))) : Ev E (f_Rooms_end_rooms [.loc lr, .int o] h) Q := by
  have w1 := w.r
  refine u_Rooms_end_rooms ?_
  unfold b_Rooms_end_rooms
  repeat (walk_at "m1")
  refine u_is_number ?_
  unfold b_is_number
  repeat (walk_at "m1")
  refine owners_w w hn fun h1 f1 n1 g1 => ?_
  refine ev_inL g1 ?_
  have hm : o ∉ sortU ((thereS s).map (ownI s)) := fun z => no ((sortU_mem o _).mp z)
  rw [decide_eq_false hm]
  repeat (walk_at "m1")
  exact q h1 f1
end
end Lw
end
section
set_option maxHeartbeats 4000000
namespace Lw
open PySem Mo
theorem step_mo (s : RmS) (d : Dd) : (stepS s d).2.mo = s.mo := by
  cases d with
  | make m o =>
    simp only [stepS, makeS]
    split
    · split
      · split <;> rfl
      · rfl
    · rfl
  | look w a =>
    simp only [stepS, lookS]
    split <;> rfl
  | put w a o =>
    simp only [stepS, putS]
    split <;> rfl
  | part w a b => rfl
  | size w => rfl
theorem goneL_mem {α : Type} : ∀ (zs : List Int) (xs : List (Option α)) {x : α}, some x ∈ goneL xs zs → some x ∈ xs
  | [], xs, x, h => h
  | z :: zs, xs, x, h => by
    have h2 := goneL_mem zs (xs.set z.toNat none) h
    rcases List.mem_or_eq_of_mem_set h2 with h3 | h3
    · exact h3
    · cases h3
theorem SOk.ends {s : RmS} {n : Nat} (k : SOk s n) (o : Int) : SOk (endS s o) n := ⟨k.o, (goneL_len _ _).trans k.l, k.t, k.so, k.st, fun ws h => k.w ws (goneL_mem _ _ h)⟩
theorem endL_sm {s : RmS} {o : Int} (l : s.pl.length ≤ 1000) : ∀ z ∈ endL s o, Sm z := fun z hz => by
  obtain ⟨j, hj, rfl, _⟩ := thereN_mem (List.mem_filter.mp hz).1
  unfold Sm
  omega
theorem ended_none {s : RmS} {o : Int} (e : endL s o = []) : endS s o = s ∧ o ∉ (thereS s).map (ownI s) := by
  refine ⟨by unfold endS; rw [e]; rfl, fun m => ?_⟩
  obtain ⟨z, hz, eo⟩ := List.mem_map.mp m
  have : z ∈ endL s o := List.mem_filter.mpr ⟨hz, decide_eq_true eo⟩
  rw [e] at this
  cases this
theorem ended_some {s : RmS} {o : Int} (e : endL s o ≠ []) : ∃ z ∈ thereS s, ownI s z = o := by
  obtain ⟨z, hz⟩ := List.exists_mem_of_ne_nil _ e
  obtain ⟨h1, h2⟩ := List.mem_filter.mp hz
  exact ⟨z, h1, of_decide_eq_true h2⟩
section
variable {E : XE} {Q : D → Hm → Prop} {h : Hm} {col : Nat → Nat} {k : Nat} {lr lo lp lt : Nat} {ps : List (Option Nat)} {s : RmS}
theorem Rm.fzF (w : Rm col k h lr lo lp lt ps s) {h' : Hm} (f : Fz (fun _ => False) h h') : Rm col k h' lr lo lp lt ps s := w.st (j := k + 1) (f.mono fun _ z _ => z.elim) (by omega) fun _ _ => rfl
theorem Ow.fzF {lR lT lW : Nat} {rs : List (Nat × Option Nat)} {wl : List Wd} (w : Ow col k h lo lR lT lW rs s wl) {h' : Hm} (f : Fz (fun _ => False) h h') : Ow col k h' lo lR lT lW rs s wl := w.st (j := k + 1) (f.mono fun _ z _ => z.elim) (by omega) fun _ _ => rfl
end
theorem gro {h h' : Hm} (f : Fz (fun _ => False) h h') (col : Nat → Nat) (j : Nat) : Fz (fun l => col l = j) h h' := f.mono fun _ z _ => z.elim
theorem agE (col : Nat → Nat) (h : Hm) (k : Nat) : ∀ l, l < h.n → colE col h k l = col l := fun l hl => if_pos hl
end Lw
end
section
set_option maxHeartbeats 4000000
namespace Lw
open PySem Mo
section
variable {E : XE} {Q : D → Hm → Prop} {col : Nat → Nat} {k : Nat} {h : Hm} {lr lo lp lt : Nat} {ps : List (Option Nat)} {s : RmS}
structure Pn (base : Nat) (h : Hm) (pl : List (Option (List Wd))) (n : Nat) (as : List (Option Nat)) : Prop where
  l : as.length = n
  q : ∀ (i a : Nat), as[i]? = some (some a) → ∃ ws, pl[i]? = some (some ws) ∧ h.g a = some (.lst (dW ws)) ∧ base ≤ a ∧ a < h.n
  q0 : ∀ i : Nat, as[i]? = some none → pl[i]? = some none
  mono : ∀ i j a b : Nat, as[i]? = some (some a) → as[j]? = some (some b) → i < j → a < b
theorem Pn.none {base n : Nat} {pl : List (Option (List Wd))} {as : List (Option Nat)} (w : Pn base h pl n as) (e : pl[n]? = some none) : Pn base h pl (n + 1) (as ++ [none]) := by
  obtain ⟨l, q, q0, mono⟩ := w
  have last : ∀ {i : Nat} {p : Option Nat}, (as ++ [Option.none])[i]? = some p → (i < as.length ∧ as[i]? = some p) ∨ (i = n ∧ p = Option.none) := fun {i p} e => by
    by_cases hi : i < as.length
    · rw [List.getElem?_append_left hi] at e
      exact .inl ⟨hi, e⟩
    · have h1 := (List.getElem?_eq_some_iff.mp e).1
      rw [List.length_append, List.length_singleton] at h1
      rw [List.getElem?_append_right (by omega), show i - as.length = 0 by omega] at e
      cases e
      exact .inr ⟨by omega, rfl⟩
  refine ⟨by rw [List.length_append, l]; rfl, fun i a e => ?_, fun i e => ?_, fun i j a b ea eb hij => ?_⟩
  · rcases last e with ⟨_, e⟩ | ⟨_, z⟩
    · exact q i a e
    · cases z
  · rcases last e with ⟨_, e⟩ | ⟨rfl, z⟩
    · exact q0 i e
    · assumption
  · rcases last ea with ⟨_, ea⟩ | ⟨_, z⟩
    · rcases last eb with ⟨_, eb⟩ | ⟨_, z⟩
      · exact mono i j a b ea eb hij
      · cases z
    · cases z
theorem Pn.more {base n : Nat} {pl : List (Option (List Wd))} {as : List (Option Nat)} (w : Pn base h pl n as) {ws : List Wd} (e : pl[n]? = some (some ws)) (hb : base ≤ h.n) : Pn base (h.new (.lst (dW ws))) pl (n + 1) (as ++ [some h.n]) := by
  obtain ⟨l, q, q0, mono⟩ := w
  have last : ∀ {i : Nat} {p : Option Nat}, (as ++ [some h.n])[i]? = some p → (i < as.length ∧ as[i]? = some p) ∨ (i = n ∧ p = some h.n) := fun {i p} e => by
    by_cases hi : i < as.length
    · rw [List.getElem?_append_left hi] at e
      exact .inl ⟨hi, e⟩
    · have h1 := (List.getElem?_eq_some_iff.mp e).1
      rw [List.length_append, List.length_singleton] at h1
      rw [List.getElem?_append_right (by omega), show i - as.length = 0 by omega] at e
      cases e
      exact .inr ⟨by omega, rfl⟩
  refine ⟨by rw [List.length_append, l]; rfl, fun i a e => ?_, fun i e => ?_, fun i j a b ea eb hij => ?_⟩
  · rcases last e with ⟨_, e⟩ | ⟨rfl, z⟩
    · obtain ⟨ws, g1, g2, g3, g4⟩ := q i a e
      exact ⟨ws, g1, (new_ne (by omega)).trans g2, g3, by rw [new_n]; omega⟩
    · cases z
      exact ⟨ws, by assumption, new_eq rfl, hb, by rw [new_n]; omega⟩
  · rcases last e with ⟨_, e⟩ | ⟨_, z⟩
    · exact q0 i e
    · cases z
  · rcases last ea with ⟨_, ea⟩ | ⟨rfl, z⟩
    · rcases last eb with ⟨_, eb⟩ | ⟨_, z⟩
      · exact mono i j a b ea eb hij
      · cases z
        obtain ⟨_, _, _, _, g4⟩ := q i a ea
        exact g4
    · rcases last eb with ⟨hj, eb⟩ | ⟨rfl, z⟩
      · omega
      · omega
theorem places_w {h2 : Hm} {σ : Mo.Env} {a0 a1 a2 : Option D} (hσ : σ = [a0, a1, a2]) (w : Rm col k h2 lr lo lp lt ps s) (ho : s.own.length < 9000) {ok : Hm → Bool} (okk : ∀ h', Fz (fun _ => False) h2 h' → ok h' = true) {QL : List D → Hm → Prop} (q : ∀ h' as, Fz (fun _ => False) h2 h' → Pn h2.n h' s.pl s.own.length as → QL (as.map pD) h') : Ev E (compGo (bindC true [2]) tYes c_Rooms_rooms_twin_1 ok (wipe σ [2]) (ps.map pD) [] h2) QL := by
  subst hσ
  have l1 := w.l1
  refine comp_inv (fun n acc h' => ∃ as, acc = as.map pD ∧ Fz (fun _ => False) h2 h' ∧ Pn h2.n h' s.pl n as) _ 0 [] h2 ⟨[], rfl, Fz.refl _ _, rfl, (fun i a e => by cases e), (fun i e => by cases e), (fun i j a b e => by cases e)⟩ (fun i acc h' _ _ hI => ?_) (fun i d acc h' ed hI => ?_) (fun acc h' hI => ?_)
  · obtain ⟨as, rfl, f, _⟩ := hI
    exact okk h' f
  · obtain ⟨as, rfl, f, p⟩ := hI
    rw [Nat.zero_add] at p ⊢
    rw [List.getElem?_map] at ed
    obtain ⟨o, e1, rfl⟩ := Option.map_eq_some_iff.mp ed
    have hi := (List.getElem?_eq_some_iff.mp e1).1
    have fn := f.n
    refine ⟨_, rfl, ?_⟩
    unfold c_Rooms_rooms_twin_1
    cases o with
    | none =>
      unfold pD
      repeat (walk_at "m1")
      refine ⟨?_, as ++ [none], by rw [List.map_append]; rfl, f, p.none (w.q0 i e1)⟩
      rw [List.length_map, p.l]
      unfold SL
      omega
    | some a =>
      obtain ⟨ws, g1, g2, g3, g4, g5⟩ := w.q i a e1
      unfold pD
      repeat (walk_at "m1")
      refine ⟨?_, as ++ [some h'.n], by rw [List.map_append]; rfl, f.new _, p.more g1 fn⟩
      rw [List.length_map, p.l]
      unfold SL
      omega
  · obtain ⟨as, rfl, f, p⟩ := hI
    rw [Nat.zero_add, List.length_map, l1] at p
    exact q h' as f p
theorem twin_w (w : Rm col k h lr lo lp lt ps s) (m0 : 0 ≤ s.mo) (m1 : s.mo ≤ 1000) (ho : s.own.length < 9000) (kk : Nat) (q : ∀ h' lr' lo' lp' lt' ps', Fz (fun _ => False) h h' → h.n ≤ lr' → Rm (colE col h kk) kk h' lr' lo' lp' lt' ps' s → Q (.loc lr') h') : Ev E (f_Rooms_rooms_twin [.loc lr] h) Q := by
  have w1 := w.r
  have w2 := w.o
  have w3 := w.p
  have w4 := w.t
  have wc := w.ch
  have l1 := w.l1
  have l2 := w.l2
  refine u_Rooms_rooms_twin ?_
  unfold b_Rooms_rooms_twin
  repeat (walk_at "m1")
  refine init_w (mo := s.mo) col 5 m0 m1 fun h1 f1 ra => ?_
  have g0 := ra.r
  have g0c := ra.ch
  clear ra
  have gn := f1.n
  repeat (walk_at "m1")
  have F2 : Fz (fun _ => False) h ((((h1.new (.lst (dI s.own))).new (.lst (dI s.tc))).put h.n (.ins 0 (putF q_all_owners (.loc h1.n) (roomsF (s0 s.mo).mo (h.n + 1) (h.n + 2) (h.n + 3))))).put h.n (.ins 0 (putF q_touched (.loc (h1.new (.lst (dI s.own))).n) (putF q_all_owners (.loc h1.n) (roomsF (s0 s.mo).mo (h.n + 1) (h.n + 2) (h.n + 3)))))) := (((f1.new _).new _).put _ (.inr (Nat.le_refl _))).put _ (.inr (Nat.le_refl _))
  have n2 : ((((h1.new (.lst (dI s.own))).new (.lst (dI s.tc))).put h.n (.ins 0 (putF q_all_owners (.loc h1.n) (roomsF (s0 s.mo).mo (h.n + 1) (h.n + 2) (h.n + 3))))).put h.n (.ins 0 (putF q_touched (.loc (h1.new (.lst (dI s.own))).n) (putF q_all_owners (.loc h1.n) (roomsF (s0 s.mo).mo (h.n + 1) (h.n + 2) (h.n + 3)))))).n = h1.n + 2 := rfl
  have e1 : ((((h1.new (.lst (dI s.own))).new (.lst (dI s.tc))).put h.n (.ins 0 (putF q_all_owners (.loc h1.n) (roomsF (s0 s.mo).mo (h.n + 1) (h.n + 2) (h.n + 3))))).put h.n (.ins 0 (putF q_touched (.loc (h1.new (.lst (dI s.own))).n) (putF q_all_owners (.loc h1.n) (roomsF (s0 s.mo).mo (h.n + 1) (h.n + 2) (h.n + 3)))))).g h.n = some (.ins 0 (roomsF s.mo h1.n (h.n + 2) (h1.n + 1))) := put_eq rfl
  have e2 : ((((h1.new (.lst (dI s.own))).new (.lst (dI s.tc))).put h.n (.ins 0 (putF q_all_owners (.loc h1.n) (roomsF (s0 s.mo).mo (h.n + 1) (h.n + 2) (h.n + 3))))).put h.n (.ins 0 (putF q_touched (.loc (h1.new (.lst (dI s.own))).n) (putF q_all_owners (.loc h1.n) (roomsF (s0 s.mo).mo (h.n + 1) (h.n + 2) (h.n + 3)))))).g h1.n = some (.lst (dI s.own)) := (put_ne (by omega)).trans ((put_ne (by omega)).trans ((new_ne (by rw [new_n]; omega)).trans (new_eq rfl)))
  have e3 : ((((h1.new (.lst (dI s.own))).new (.lst (dI s.tc))).put h.n (.ins 0 (putF q_all_owners (.loc h1.n) (roomsF (s0 s.mo).mo (h.n + 1) (h.n + 2) (h.n + 3))))).put h.n (.ins 0 (putF q_touched (.loc (h1.new (.lst (dI s.own))).n) (putF q_all_owners (.loc h1.n) (roomsF (s0 s.mo).mo (h.n + 1) (h.n + 2) (h.n + 3)))))).g (h1.n + 1) = some (.lst (dI s.tc)) := (put_ne (by omega)).trans ((put_ne (by omega)).trans (new_eq rfl))
  generalize ((((h1.new (.lst (dI s.own))).new (.lst (dI s.tc))).put h.n (.ins 0 (putF q_all_owners (.loc h1.n) (roomsF (s0 s.mo).mo (h.n + 1) (h.n + 2) (h.n + 3))))).put h.n (.ins 0 (putF q_touched (.loc (h1.new (.lst (dI s.own))).n) (putF q_all_owners (.loc h1.n) (roomsF (s0 s.mo).mo (h.n + 1) (h.n + 2) (h.n + 3)))))) = h2 at F2 n2 e1 e2 e3 ⊢
  have wD := w.fzF F2
  refine places_w (ps := ps) rfl wD ho (fun h' f => decide_eq_true (seq_loc (wD.fzF f).p)) fun h3 as f3 p => ?_
  have n3 := f3.n
  have x1 := f3.at (by omega) (fun z => z) e1
  have x2 := f3.at (by omega) (fun z => z) e2
  have x3 := f3.at (by omega) (fun z => z) e3
  have F3 := F2.after f3 fun _ z _ => z
  clear F2 f3 f1
  repeat (walk_at "m1")
  refine q _ h.n h1.n h3.n (h1.n + 1) as ((F3.new _).put _ (.inr (Nat.le_refl _))) (Nat.le_refl _) ?_
  have hc : ∀ l, h.n ≤ l → colE col h kk l = kk := fun l hl => if_neg (by omega)
  refine ⟨put_eq rfl, by walk_at "mH", by walk_at "mH", by walk_at "mH", p.l, l2, fun i a e => ?_, p.q0, p.mono, by simp only [put_n, new_n]; omega, ⟨hc _ (by omega), hc _ (by omega), hc _ (by omega), hc _ (by omega)⟩⟩
  obtain ⟨ws, y1, y2, y3, y4⟩ := p.q i a e
  exact ⟨ws, y1, (put_ne (by omega)).trans ((new_ne (by omega)).trans y2), by omega, by simp only [put_n, new_n]; omega, hc _ (by omega)⟩
end
end Lw
end
section
set_option maxHeartbeats 4000000
namespace Lw
open PySem Mo
structure On (L : Nat) (h : Hm) (s : RmS) (n : Nat) (as : List (Nat × Option Nat)) : Prop where
  l : as.length = n
  q : ∀ (i : Nat) (p : Nat × Option Nat), as[i]? = some p → ∃ o, s.own[i]? = some o ∧ h.g p.1 = some (rowF o p.2) ∧ L < p.1 ∧ p.1 < h.n
  q2 : ∀ (i a b : Nat), as[i]? = some (a, some b) → ∃ ws, s.pl[i]? = some (some ws) ∧ h.g b = some (.lst (dW ws)) ∧ L < b ∧ b < a
  q0 : ∀ i a : Nat, as[i]? = some (a, none) → s.pl[i]? = some none
  mono : ∀ (i j : Nat) (p p' : Nat × Option Nat), as[i]? = some p → as[j]? = some p' → i < j → p.1 < p'.1 ∧ ∀ b, p'.2 = some b → p.1 < b
theorem On.st {L n : Nat} {h h' : Hm} {s : RmS} {as : List (Nat × Option Nat)} (w : On L h s n as) (f : ∀ l, L < l → l < h.n → h'.g l = h.g l) (hn : h.n ≤ h'.n) : On L h' s n as := by
  obtain ⟨l, q, q2, q0, mono⟩ := w
  refine ⟨l, fun i p e => ?_, fun i a b e => ?_, q0, mono⟩
  · obtain ⟨o, e1, e2, e3, e4⟩ := q i p e
    exact ⟨o, e1, (f _ e3 e4).trans e2, e3, by omega⟩
  · obtain ⟨ws, e1, e2, e3, e4⟩ := q2 i a b e
    obtain ⟨_, _, _, _, e5⟩ := q i _ e
    have e5 : a < h.n := e5
    exact ⟨ws, e1, (f _ e3 (by omega)).trans e2, e3, e4⟩
theorem On.more {L n : Nat} {h : Hm} {s : RmS} {as : List (Nat × Option Nat)} (w : On L h s n as) {o : Int} {p : Option Nat} {x : Nat} (h0 : Hm) (h1 : h0.n ≤ x) (w0 : On L h0 s n as) (e1 : s.own[n]? = some o) (e2 : h.g x = some (rowF o p)) (e3 : L < x) (e4 : x < h.n) (e5 : p = none → s.pl[n]? = some none) (e6 : ∀ b, p = some b → h0.n ≤ b ∧ b < x ∧ L < b ∧ ∃ ws, s.pl[n]? = some (some ws) ∧ h.g b = some (.lst (dW ws))) : On L h s (n + 1) (as ++ [(x, p)]) := by
  obtain ⟨l, q, q2, q0, mono⟩ := w
  have last : ∀ {i : Nat} {r : Nat × Option Nat}, (as ++ [(x, p)])[i]? = some r → (i < as.length ∧ as[i]? = some r) ∨ (i = n ∧ r = (x, p)) := fun {i r} e => by
    by_cases hi : i < as.length
    · rw [List.getElem?_append_left hi] at e
      exact .inl ⟨hi, e⟩
    · have h1 := (List.getElem?_eq_some_iff.mp e).1
      rw [List.length_append, List.length_singleton] at h1
      rw [List.getElem?_append_right (by omega), show i - as.length = 0 by omega] at e
      cases e
      exact .inr ⟨by omega, rfl⟩
  refine ⟨by rw [List.length_append, l]; rfl, fun i r e => ?_, fun i a b e => ?_, fun i a e => ?_, fun i j r r' er er' hij => ?_⟩
  · rcases last e with ⟨_, e⟩ | ⟨rfl, rfl⟩
    · exact q i r e
    · exact ⟨o, e1, e2, e3, e4⟩
  · rcases last e with ⟨_, e⟩ | ⟨rfl, z⟩
    · exact q2 i a b e
    · cases z
      obtain ⟨_, y2, y3, ws, y4, y5⟩ := e6 b rfl
      exact ⟨ws, y4, y5, y3, y2⟩
  · rcases last e with ⟨_, e⟩ | ⟨rfl, z⟩
    · exact q0 i a e
    · cases z
      exact e5 rfl
  · rcases last er with ⟨hi, er⟩ | ⟨rfl, rfl⟩
    · rcases last er' with ⟨_, er'⟩ | ⟨_, rfl⟩
      · exact mono i j r r' er er' hij
      · obtain ⟨_, _, _, _, y⟩ := w0.q i r er
        refine ⟨by show r.1 < x; omega, fun b eb => ?_⟩
        obtain ⟨y1, _⟩ := e6 b eb
        omega
    · rcases last er' with ⟨hj, er'⟩ | ⟨rfl, z⟩
      · omega
      · omega
end Lw
end
section
set_option maxHeartbeats 800000
namespace Lw
open PySem Mo
section
variable {E : XE} {Q : D → Hm → Prop} {col : Nat → Nat} {k : Nat} {h : Hm} {lo lR lT lW : Nat} {rs : List (Nat × Option Nat)} {s : RmS} {wl : List Wd}
theorem rD_snoc (as : List (Nat × Option Nat)) (x : Nat) (p : Option Nat) : rD (as ++ [(x, p)]) = rD as ++ [.loc x] := by simp
theorem copied_w (w : Ow col k h lo lR lT lW rs s wl) (ho : s.own.length < 9000) (kk : Nat) (q : ∀ h' lo' lR' lT' lW' rs', Fz (fun _ => False) h h' → h.n ≤ lo' → Ow (colE col h kk) kk h' lo' lR' lT' lW' rs' s wl → Q (.loc lo') h') : Ev E (f_copied [.loc lo] h) Q := by
  have w1 := w.d
  have w2 := w.r
  have wc := w.ch
  have l1 := w.l1
  have l2 := w.l2
  refine u_copied ?_
  unfold b_copied
  repeat (walk_at "m1")
  refine for_inv (fun n σ h' => ∃ a2 as, σ = [some (.loc lo), some (.loc h.n), a2] ∧ Fz (fun _ => False) h h' ∧ h.n < h'.n ∧ h'.g h.n = some (.lst (rD as)) ∧ On h.n h' s n as) _ 0 _ _ ⟨none, [], rfl, (Fz.refl (fun _ => False) h).new _, by rw [new_n]; omega, new_eq rfl, rfl, (fun i p e => by cases e), (fun i a b e => by cases e), (fun i a e => by cases e), (fun i j p p' e => by cases e)⟩ (fun i σ h' _ _ hI => ?_) (fun i d σ h' ed hI => ?_) (fun σ h' hI => ?_)
  · obtain ⟨a2, as, rfl, f, _⟩ := hI
    exact decide_eq_true (seq_loc (w.fzF f).r)
  · obtain ⟨a2, as, rfl, f, hn, g, p⟩ := hI
    rw [Nat.zero_add] at p ⊢
    rw [List.getElem?_map] at ed
    obtain ⟨⟨a, po⟩, e1, rfl⟩ := Option.map_eq_some_iff.mp ed
    have hi := (List.getElem?_eq_some_iff.mp e1).1
    have wB := w.fzF f
    clear w1 w2
    obtain ⟨o, f1, f2, f3, f4, f5⟩ := wB.q i _ e1
    have f2 : h'.g a = some (rowF o po) := f2
    have f4 : a < h'.n := f4
    have la : (rD as).length = i := by rw [List.length_map, p.l]
    unfold l_copied_1
    cases po with
    | none =>
      have f6 := wB.q0 i a e1
      unfold pD at f2
      repeat (walk_at "m1")
      refine ⟨_, as ++ [(h'.n, none)], rfl, (f.new _).put _ (.inr (Nat.le_refl _)), by simp only [put_n, new_n]; omega, (put_eq rfl).trans (by rw [rD_snoc]), ?_⟩
      refine On.more (h0 := h') (p.st (fun l k1 k2 => (put_ne (by omega)).trans (new_ne (by omega))) (by simp only [put_n, new_n]; omega)) (Nat.le_refl _) p f1 ((put_ne (by omega)).trans ((new_eq rfl).trans rfl)) hn (by simp only [put_n, new_n]; omega) (fun _ => f6) (fun b z => nomatch z)
    | some b =>
      obtain ⟨ws, g1, g2, g3, g4, g5⟩ := wB.q2 i a b e1
      unfold pD at f2
      repeat (walk_at "m1")
      unfold pD
      repeat (walk_at "m1")
      refine ⟨_, as ++ [((h'.new (.lst (dW ws))).n, some h'.n)], rfl, ((f.new _).new _).put _ (.inr (Nat.le_refl _)), by simp only [put_n, new_n]; omega, (put_eq rfl).trans (by rw [rD_snoc]), ?_⟩
      refine On.more (h0 := h') (p.st (fun l k1 k2 => (put_ne (by omega)).trans ((new_ne (by rw [new_n]; omega)).trans (new_ne (by omega)))) (by simp only [put_n, new_n]; omega)) (by rw [new_n]; omega) p f1 ((put_ne (by rw [new_n]; omega)).trans ((new_eq rfl).trans rfl)) (by rw [new_n]; omega) (by simp only [put_n, new_n]; omega) (fun z => nomatch z) fun b' z => ?_
      cases z
      exact ⟨Nat.le_refl _, by rw [new_n]; omega, hn, ws, g1, (put_ne (by omega)).trans ((new_ne (by rw [new_n]; omega)).trans (new_eq rfl))⟩
  · obtain ⟨a2, as, rfl, f, hn, g, p⟩ := hI
    have wB := w.fzF f
    have w1 := wB.d
    have w3 := wB.t
    have w4 := wB.w
    have F3 := ((f.new (.lst (dI s.tc))).new (.lst (dW wl))).new (.dic (List.foldl (fun acc kv => putK acc kv.1 kv.2) [] [(.inr q_most, .int s.mo), (.inr q_rows, .loc h.n), (.inr q_touched, .loc h'.n), (.inr q_words, .loc (h'.new (.lst (dI s.tc))).n)]))
    clear f
    rw [Nat.zero_add, List.length_map, l1] at p
    repeat (walk_at "m1")
    have hc : ∀ l, h.n ≤ l → colE col h kk l = kk := fun l hl => if_neg (by omega)
    refine q _ (h'.n + 2) h.n h'.n (h'.n + 1) as F3 (by omega) ?_
    have p3 : On h.n (((h'.new (.lst (dI s.tc))).new (.lst (dW wl))).new (.dic (List.foldl (fun acc kv => putK acc kv.1 kv.2) [] [(.inr q_most, .int s.mo), (.inr q_rows, .loc h.n), (.inr q_touched, .loc h'.n), (.inr q_words, .loc (h'.new (.lst (dI s.tc))).n)]))) s s.own.length as :=
      p.st (fun l k1 k2 => (new_ne (by simp only [new_n]; omega)).trans ((new_ne (by rw [new_n]; omega)).trans (new_ne (by omega)))) (by simp only [new_n]; omega)
    have pn : ∀ (i : Nat) (r : Nat × Option Nat), as[i]? = some r → r.1 < h'.n := fun i r e => by
      obtain ⟨_, _, _, _, y⟩ := p.q i r e
      exact y
    refine ⟨(new_eq rfl).trans rfl, (new_ne (by simp only [new_n]; omega)).trans ((new_ne (by rw [new_n]; omega)).trans ((new_ne (by omega)).trans g)), (new_ne (by simp only [new_n]; omega)).trans ((new_ne (by rw [new_n]; omega)).trans (new_eq rfl)), (new_ne (by simp only [new_n]; omega)).trans (new_eq rfl), p3.l, l2, fun i r e => ?_, fun i a b e => ?_, p3.q0, p3.mono, by simp only [new_n]; omega, ⟨hc _ (by omega), hc _ (by omega), hc _ (by omega), hc _ (by omega)⟩, w.wo⟩
    · obtain ⟨o, y1, y2, y3, y4⟩ := p3.q i r e
      have := pn i r e
      exact ⟨o, y1, y2, by unfold Ap; omega, y4, hc _ (by omega)⟩
    · obtain ⟨ws, y1, y2, y3, y4⟩ := p3.q2 i a b e
      have := pn i _ e
      have : a < h'.n := this
      exact ⟨ws, y1, y2, by unfold Ap; omega, y4, hc _ (by omega)⟩
end
end Lw
end
section
set_option maxHeartbeats 4000000
namespace Lw
open PySem Mo
section
variable {E : XE} {Q : D → Hm → Prop} {col col' : Nat → Nat} {k k2 : Nat} {h h' : Hm} {lr ll lp lt : Nat} {ps : List (Option Nat)} {s : RmS} {lo lR lT lW : Nat} {rs : List (Nat × Option Nat)} {wl : List Wd} {P : Nat → Prop}
theorem Rm.stP (w : Rm col k h lr ll lp lt ps s) (f : Fz P h h') (ne : ∀ l, P l → col l ≠ k) (ag : ∀ l, l < h.n → col' l = col l) : Rm col' k h' lr ll lp lt ps s := by
  obtain ⟨r, o, p, t, l1, l2, q, q0, mono, ch, c⟩ := w
  have fn := f.n
  have at' : ∀ {l : Nat} {x : O}, l < h.n → col l = k → h.g l = some x → h'.g l = some x := fun n c e => f.at n (fun z => ne _ z c) e
  refine ⟨at' (by omega) c.1 r, at' (by omega) c.2.1 o, at' (by omega) c.2.2.1 p, at' (by omega) c.2.2.2 t, l1, l2, fun i a e => ?_, q0, mono, by omega, by rw [ag lr (by omega), ag ll (by omega), ag lp (by omega), ag lt (by omega)]; exact c⟩
  obtain ⟨ws, e1, e2, e3, e4, e5⟩ := q i a e
  exact ⟨ws, e1, at' e4 e5 e2, e3, by omega, by rw [ag a e4]; exact e5⟩
theorem Ow.stP (w : Ow col k h lo lR lT lW rs s wl) (f : Fz P h h') (ne : ∀ l, P l → col l ≠ k) (ag : ∀ l, l < h.n → col' l = col l) : Ow col' k h' lo lR lT lW rs s wl := by
  obtain ⟨d, r, t, ww, l1, l2, q, q2, q0, mono, ch, c, wo⟩ := w
  have fn := f.n
  have at' : ∀ {l : Nat} {x : O}, l < h.n → col l = k → h.g l = some x → h'.g l = some x := fun n c e => f.at n (fun z => ne _ z c) e
  refine ⟨at' (by omega) c.1 d, at' (by omega) c.2.1 r, at' (by omega) c.2.2.1 t, at' (by omega) c.2.2.2 ww, l1, l2, fun i p e => ?_, fun i a b e => ?_, q0, mono, by omega, by rw [ag lo (by omega), ag lR (by omega), ag lT (by omega), ag lW (by omega)]; exact c, wo⟩
  · obtain ⟨o, e1, e2, e3, e4, e5⟩ := q i p e
    exact ⟨o, e1, at' e4 e5 e2, e3, by omega, by rw [ag _ e4]; exact e5⟩
  · obtain ⟨ws, e1, e2, e3, e4, e5⟩ := q2 i a b e
    obtain ⟨o, e6, e7, e8, e9, e10⟩ := q i _ e
    have e9 : a < h.n := e9
    exact ⟨ws, e1, at' (Nat.lt_trans e4 e9) e5 e2, e3, e4, by rw [ag _ (Nat.lt_trans e4 e9)]; exact e5⟩
end
section
variable {E : XE} {Q : D → Hm → Prop} {col : Nat → Nat} {k k2 : Nat} {h : Hm} {lr ll lp lt : Nat} {ps : List (Option Nat)} {s : RmS} {lo lR lT lW : Nat} {rs : List (Nat × Option Nat)} {wl : List Wd} {ld : Nat} {cs : List Int} {b : Int}
theorem owner_right_w (dr : Dr col 0 h ld cs b) (hb : b < 100000) (w : Rm col k h lr ll lp lt ps s) (o : Ow col k2 h lo lR lT lW rs s wl) (hn : s.own.length < 64) (c0 : k ≠ 0) (c1 : k2 ≠ 0) (c2 : k ≠ k2)
    (q : ∀ h' ps' rs' ow, Fz (fun l => col l = 0 ∨ col l = k ∨ col l = k2) h h' → Dr col 0 h' ld cs (b + 1) → Rm col k h' lr ll lp lt ps' (endS s ow) → Ow col k2 h' lo lR lT lW rs' (endS s ow) wl → Q (.bl true) h') : Ev E (f_owner_right [.loc ld, .loc lr, .loc lo] h) Q := by
  refine u_owner_right ?_
  unfold b_owner_right
  repeat (walk_at "m1")
  refine take_w dr (by omega) (by omega) (by omega) fun v h1 v0 v1 f1 e1 dr => ?_
  have w := w.st (col' := col) f1 (by omega) fun _ _ => rfl
  have o := o.st (col' := col) f1 (by omega) fun _ _ => rfl
  have F1 : Fz (fun l => col l = 0 ∨ col l = k ∨ col l = k2) h h1 := f1.mono fun _ z _ => .inl z
  clear f1
  have hE : h.n = h1.n := e1.symm
  clear e1
  have o1 := o.d
  have o2 := o.r
  have l1 := o.l1
  have l2 := o.l2
  repeat (walk_at "m1")
  refine comp_inv (fun n acc h' => h' = h1 ∧ acc = dI ((thereN s n).filter fun z => decide (ownI s z = v - 1))) _ 0 [] h1 ⟨rfl, rfl⟩ (fun i acc h' _ _ hh => ?_) (fun i d acc h' e hh => ?_) (fun acc h' hh => ?_)
  · obtain ⟨rfl, rfl⟩ := hh
    exact decide_eq_true (seq_loc o2)
  · obtain ⟨rfl, rfl⟩ := hh
    obtain ⟨x, e1, rfl⟩ := num_at e
    rw [List.getElem?_map] at e1
    obtain ⟨p, e2, rfl⟩ := Option.map_eq_some_iff.mp e1
    obtain ⟨z1, z2, z3, _⟩ := row_none o e2
    have hi := (List.getElem?_eq_some_iff.mp e2).1
    refine ⟨_, rfl, ?_⟩
    repeat (walk_at "m1")
    rw [Nat.zero_add, fil_succ, z1]
    obtain ⟨a, p⟩ := p
    cases p with
    | none =>
      unfold pD
      repeat (walk_at "m1")
      exact ⟨rfl, by simp⟩
    | some b =>
      unfold pD
      repeat (walk_at "m1")
      refine sel_of (fun c => ?_) (fun c => ?_)
      · unfold c_owner_right_1
        repeat (walk_at "m1")
        have t1 := List.length_filter_le (fun z => decide (ownI s z = v - 1)) (thereN s i)
        have t2 := thereN_len s i
        refine ⟨?_, rfl, ?_⟩
        · rw [List.length_map]
          unfold SL
          omega
        · simp [c]
      · refine ⟨rfl, ?_⟩
        simp [c]
  · obtain ⟨rfl, rfl⟩ := hh
    rw [num_len, List.length_map, Nat.zero_add, l1, ← l2]
    repeat (walk_at "m1")
    refine for_inv (fun n σ h2 => ∃ a4 a9 a10, σ = [some (.loc ld), some (.loc lr), some (.loc lo), some (.kl (dI (endL s (v - 1)))), a4, none, some (.int (v - 1)), some .non, some .non, a9, a10] ∧ Fz (fun l => col l = k2) h' h2 ∧ h2.n = h'.n ∧ ∃ rs', Ow col k2 h2 lo lR lT lW rs' { s with pl := goneL s.pl ((endL s (v - 1)).take n) } wl) _ 0 _ _ ⟨none, none, none, rfl, Fz.refl _ _, rfl, rs, o⟩ (fun i σ h2 _ _ _ => rfl) ?_ ?_
    · rintro i d σ h2 e ⟨a4, a9, a10, rfl, f2, n2, rs', o⟩
      have e : (dI (endL s (v - 1)))[i]? = some d := e
      rw [List.getElem?_map] at e
      obtain ⟨z, e1, rfl⟩ := Option.map_eq_some_iff.mp e
      have hz := (List.mem_filter.mp (List.mem_of_getElem? e1)).1
      obtain ⟨j, hj, rfl, g⟩ := thereN_mem hz
      rw [Nat.zero_add] at o
      have o1 := o.d
      have o2 := o.r
      have wl1 := o.l1
      have wl2 := o.l2
      have gl := goneL_len ((endL s (v - 1)).take i) s.pl
      have wl1 : rs'.length = s.own.length := wl1
      obtain ⟨p, o', x1, x2, x3, x4⟩ := row_at o (r := (j : Int)) (by omega) (by rw [List.length_map]; omega)
      rw [Int.toNat_natCast] at x1 x3
      have y5 : col p.1 = k2 := (let ⟨_, _, _, _, _, y⟩ := o.q j p x1; y)
      repeat (walk_at "m1")
      unfold l_owner_right_2
      refine es_dputS ?_
      repeat (walk_at "m1")
      refine ev_ixL o2 x2 ?_
      repeat (walk_at "m1")
      have et : goneL s.pl ((endL s (v - 1)).take (0 + i + 1)) = (goneL s.pl ((endL s (v - 1)).take i)).set j none := by
        unfold goneL
        rw [Nat.zero_add, List.take_add_one, e1, List.foldl_append]
        rfl
      refine ⟨_, _, _, rfl, f2.put _ (.inl y5), n2, rs'.set j (p.1, none), ?_⟩
      have := o.gone (i := j) (a := p.1) (po := p.2) x1 x3
      rw [et]
      exact this
    · rintro σ h2 ⟨a4, a9, a10, rfl, f2, n2, rs', o⟩
      rw [List.length_map, Nat.zero_add, show ((thereN s s.pl.length).filter fun z => decide (ownI s z = v - 1)) = endL s (v - 1) from rfl, List.take_length] at o
      have o : Ow col k2 h2 lo lR lT lW rs' (endS s (v - 1)) wl := o
      have w := w.st (col' := col) f2 c2 fun _ _ => rfl
      have dr := dr.st (col' := col) f2 (by omega) fun _ _ => rfl
      have F2 := F1.after f2 fun _ z _ => .inr (.inr z)
      clear f2 F1
      repeat (walk_at "m1")
      by_cases ce : endL s (v - 1) = []
      · obtain ⟨es, no⟩ := ended_none ce
        have wr := w.r
        refine es_try ?_
        repeat (walk_at "m1")
        refine endI_w w hn no fun hx fx => ?_
        refine ⟨rfl, ?_⟩
        refine sel_t rfl ?_
        refine es_gone ?_
        have F3 : Fz (fun _ => False) h2 ((hx.new (xN (.int (v - 1)))).new (.xc 1 hx.n)) := (fx.new _).new _
        have g2 : ((hx.new (xN (.int (v - 1)))).new (.xc 1 hx.n)).g hx.n = some (xN (.int (v - 1))) := Eq.trans (new_ne (by rw [new_n]; omega)) (new_eq rfl)
        have g3 : ((hx.new (xN (.int (v - 1)))).new (.xc 1 hx.n)).g (hx.new (xN (.int (v - 1)))).n = some (.xc 1 hx.n) := new_eq rfl
        have w := w.fzF F3
        have o := o.fzF F3
        have dr := dr.st (col' := col) (gro F3 col k) (by omega) fun _ _ => rfl
        have F3 := F2.after F3 fun _ z _ => z.elim
        clear fx
        generalize ((hx.new (xN (.int (v - 1)))).new (.xc 1 hx.n)) = h3 at F3 g2 g3 w o dr ⊢
        generalize (hx.new (xN (.int (v - 1)))).n = lx at g3 ⊢
        generalize hx.n = ly at g2 g3
        rw [ce]
        repeat (walk_at "m1")
        refine ev_eqD (dat_kI (n := 10) []) (dat0 (n := 11)) ?_
        rw [eqv0]
        repeat (first | with_reducible refine ev_xf ?_ | ((with_reducible refine' ev_xfK ?e1 ?e2 ?e3 ?e4 ?qq); (case e1 => walk_at "mH"); (case e2 => walk_at "mH"); (case e3 => exact rfl); (case e4 => exact rfl)) | walk_at "m1")
        rw [es] at o
        rw [decide_eq_true (p := v - 1 = v - 1) rfl]
        refine q h3 ps rs' (v - 1) F3 dr ?_ ?_
        · rw [es]
          exact w
        · rw [es]
          exact o
      · have wr := w.r
        refine es_try ?_
        repeat (walk_at "m1")
        refine end_w w hn (ended_some ce) fun h3 ps' f3 w => ?_
        have o := o.st (col' := col) f3 (by omega) fun _ _ => rfl
        have dr := dr.st (col' := col) f3 (by omega) fun _ _ => rfl
        have F3 := F2.after f3 fun _ z _ => .inr (.inl z)
        clear f3
        repeat (walk_at "m1")
        refine ev_eqD (dat_kI (n := 10) (endL s (v - 1))) (dat0 (n := 11)) ?_
        rw [eqv0, decide_eq_false (p := List.map PyData.int (endL s (v - 1)) = []) (by simpa using ce)]
        repeat (walk_at "m1")
        refine ev_eqD (dat_kI (n := 10) (endL s (v - 1))) (dat_kI (n := 10) (endL s (v - 1))) ?_
        rw [eqv_of_tame _ (by simp only [tame]; exact (ints_gp (endL_sm (by rw [l2]; omega))).1)]
        exact q h3 ps' rs' (v - 1) F3 dr w o
end
end Lw
end
section
set_option maxHeartbeats 4000000
namespace Lw
open PySem Mo
section
variable {E : XE} {Q : D → Hm → Prop} {col : Nat → Nat} {k : Nat} {h : Hm} {lr ll lp lt : Nat} {ps : List (Option Nat)} {s : RmS}
def Own (b : Nat) (h : Hm) (d : D) : Prop := ∃ a ys, d = .loc a ∧ b ≤ a ∧ a < h.n ∧ h.g a = some (.lst ys) ∧ ys.length ≤ 2000
theorem Own.st {b : Nat} {h h' : Hm} {d : D} (w : Own b h d) (f : Fz (fun _ => False) h h') : Own b h' d := by
  obtain ⟨a, ys, e, k1, k2, g, l⟩ := w
  exact ⟨a, ys, e, k1, Nat.lt_of_lt_of_le k2 f.n, f.at k2 (fun z => z) g, l⟩
theorem Own.put {b : Nat} {h : Hm} {d : D} (w : Own b h d) (x : Nat) (ys : List D) (hy : ys.length ≤ 2000) : Own b (h.put x (.lst ys)) d := by
  obtain ⟨a, zs, e, k1, k2, g, l⟩ := w
  by_cases c : a = x
  · exact ⟨a, ys, e, k1, k2, put_eq c, hy⟩
  · exact ⟨a, zs, e, k1, k2, (put_ne c).trans g, l⟩
theorem spoilt_w (w : Rm col k h lr ll lp lt ps s) (hn : s.own.length < 64) (ok : ∀ i, (wsAt s i).length ≤ 64) (q : ∀ h', Fz (fun _ => False) h h' → Q .non h') : Ev E (f_spoilt [.loc lr] h) Q := by
  have wr := w.r
  have wc := w.ch
  have l2 := w.l2
  have tl : (thereS s).length ≤ s.pl.length := thereN_len s s.pl.length
  refine u_spoilt ?_
  unfold b_spoilt
  repeat (walk_at "m1")
  refine there_w w hn ?_
  have F1 : Fz (fun _ => False) h (h.new (.lst (dI (thereS s)))) := (Fz.refl _ _).new _
  have o1 : Own h.n (h.new (.lst (dI (thereS s)))) (.loc h.n) := ⟨_, _, rfl, Nat.le_refl _, by rw [new_n]; omega, new_eq rfl, by rw [List.length_map]; omega⟩
  have w1 := w.fzF F1
  generalize (h.new (.lst (dI (thereS s)))) = h1 at F1 o1 w1 ⊢
  have FT1 : True → Fz (fun _ => False) h h1 := fun _ => F1
  clear F1
  have wr1 := w1.r
  have wc1 := w1.ch
  repeat (walk_at "m1")
  refine owners_w w1 hn fun h2 f2 n2 g2 => ?_
  have sl := sortU_len ((thereS s).map (ownI s))
  rw [List.length_map] at sl
  have o2 := o1.st f2
  have o3 : Own h.n h2 (.loc (h1.n + 1)) := ⟨_, _, rfl, by have := (FT1 trivial).n; omega, by omega, g2, by rw [List.length_map]; omega⟩
  have FT2 : True → Fz (fun _ => False) h h2 := fun _ => (FT1 trivial).after f2 fun _ z _ => z
  have w2 := w1.fzF f2
  clear f2
  have wr2 := w2.r
  repeat (walk_at "m1")
  refine ev_own1 (ms := [(0, f_Rooms_len)]) (chk := chkLen) (b := bLen) wr2 rfl ?_
  refine len_w w2 ?_
  with_reducible refine ev_chkLen (i := (s.own.length : Int)) ?_ ?_
  · exact ⟨by omega, by omega⟩
  repeat (walk_at "m1")
  refine comp_inv (fun n acc h' => acc.length = n ∧ Fz (fun _ => False) h2 h' ∧ ∀ d ∈ acc, Own h.n h' d) _ 0 [] h2 ⟨rfl, Fz.refl _ _, fun d hd => nomatch hd⟩ (fun i acc h' _ _ _ => rfl) (fun i d acc h' ed hI => ?_) (fun acc h' hI => ?_)
  · obtain ⟨la, f, ow⟩ := hI
    obtain ⟨rfl, hi⟩ := ints_at ed
    rw [Nat.zero_add] at la
    have hi : i < s.own.length := by simpa using hi
    refine ⟨_, rfl, ?_⟩
    have w3 := w2.fzF f
    have FT3 : True → Fz (fun _ => False) h2 h' := fun _ => f
    clear f
    have wr3 := w3.r
    unfold c_spoilt_1
    rw [Int.zero_add]
    repeat (walk_at "m1")
    refine places_of_w w3 hi hn ?_
    have f3 : Fz (fun _ => False) h' (h'.new (.lst (dW (wsAt s i)))) := (Fz.refl _ _).new _
    have hn2 := (FT2 trivial).n
    have hn3 := (FT3 trivial).n
    refine ⟨by rw [la]; unfold SL; omega, by rw [List.length_append, la, Nat.zero_add]; rfl, (FT3 trivial).after f3 fun _ z _ => z, fun d hd => ?_⟩
    rcases List.mem_append.mp hd with hd | hd
    · exact (ow d hd).st f3
    · rw [List.mem_singleton.mp hd]
      have := ok i
      exact ⟨_, _, rfl, by omega, by rw [new_n]; omega, new_eq rfl, by rw [List.length_map]; omega⟩
  · obtain ⟨la, f, ow⟩ := hI
    rw [ints_len, Nat.zero_add] at la
    have FT3 : True → Fz (fun _ => False) h h' := fun _ => (FT2 trivial).after f fun _ z _ => z
    have p2 := o2.st f
    have p3 := o3.st f
    clear f
    refine ev_addKK (by show 2 + acc.length ≤ SL; rw [la]; unfold SL; omega) ?_
    repeat (walk_at "m1")
    refine for_inv (fun n σ h' => (∃ a1 a2, σ = [some (.loc lr), a1, a2]) ∧ Fz (fun _ => False) h h' ∧ ∀ d ∈ [D.loc h.n, D.loc (h1.n + 1)] ++ acc, Own h.n h' d) _ 0 _ _ ⟨⟨_, _, rfl⟩, FT3 trivial, fun d hd => ?_⟩ (fun i σ h' _ _ _ => rfl) (fun i d σ h' ed hI => ?_) (fun σ h' hI => ?_)
    · rcases List.mem_append.mp hd with hd | hd
      · simp only [List.mem_cons, List.not_mem_nil, or_false] at hd
        rcases hd with rfl | rfl
        · exact p2
        · exact p3
      · exact ow d hd
    · obtain ⟨⟨a1, a2, rfl⟩, f, ow⟩ := hI
      obtain ⟨a, ys, rfl, k1, k2, g, ly⟩ := ow d (List.mem_of_getElem? ed)
      have FT4 : True → Fz (fun _ => False) h h' := fun _ => f
      clear f
      repeat (walk_at "m1")
      unfold l_spoilt_2
      repeat (walk_at "m1")
      refine ev_reverse (put_eq rfl) ?_
      repeat (walk_at "m1")
      refine ev_clear (put_eq rfl) ?_
      repeat (walk_at "m1")
      rw [put_put, put_put]
      exact ⟨⟨_, _, rfl⟩, (FT4 trivial).put _ (.inr k1), fun d hd => (ow d hd).put a [] (Nat.zero_le _)⟩
    · obtain ⟨⟨a1, a2, rfl⟩, f, ow⟩ := hI
      exact q h' f
end
end Lw
end
section
set_option maxHeartbeats 4000000
namespace Lw
open PySem Mo
abbrev tI (i : Int) : List Nat := (Str.ofString (toString i)).cps.toList
def isN (c : Nat) : Prop := c = 45 ∨ (48 ≤ c ∧ c ≤ 57)
theorem tI_nat (m : Nat) : tI (m : Int) = (Nat.toDigits 10 m).map Char.toNat := PySem.W.KIN.signs_num m
theorem tI_neg (m : Nat) : tI (Int.negSucc m) = 45 :: (Nat.toDigits 10 (m + 1)).map Char.toNat := by
  show (Str.ofString ("-" ++ Nat.repr (m + 1))).cps.toList = _
  have e : ∀ t : String, (Str.ofString t).cps.toList = t.toList.map Char.toNat := fun t => by rw [Str.ofString_eq_toList]
  rw [e, String.toList_append, List.map_append, Nat.toList_repr]
  rfl
theorem dig_inj {m n : Nat} (e : (Nat.toDigits 10 m).map Char.toNat = (Nat.toDigits 10 n).map Char.toNat) : m = n := by
  rw [← PySem.W.KIN.val_back m, ← PySem.W.KIN.val_back n, e]
theorem dig_isN {m c : Nat} (h : c ∈ (Nat.toDigits 10 m).map Char.toNat) : 48 ≤ c ∧ c ≤ 57 := by
  obtain ⟨ch, hch, rfl⟩ := List.mem_map.mp h
  have := Nat.isDigit_of_mem_toDigits (by decide) (by decide) hch
  simp only [Char.isDigit, Bool.and_eq_true, decide_eq_true_eq] at this
  exact ⟨this.1, this.2⟩
theorem dig_ne (m : Nat) : (Nat.toDigits 10 m).map Char.toNat ≠ [] := by
  intro e
  rw [List.map_eq_nil_iff] at e
  exact Nat.toDigits_ne_nil e
theorem tI_isN {i : Int} : (∃ c r, tI i = c :: r) ∧ ∀ c ∈ tI i, isN c := by
  cases i with
  | ofNat m =>
    have e := tI_nat m
    have e : tI (Int.ofNat m) = _ := e
    rw [e]
    refine ⟨?_, fun c hc => .inr (dig_isN hc)⟩
    cases z : (Nat.toDigits 10 m).map Char.toNat with
    | nil => exact absurd z (dig_ne m)
    | cons c r => exact ⟨c, r, rfl⟩
  | negSucc m =>
    rw [tI_neg]
    refine ⟨⟨_, _, rfl⟩, fun c hc => ?_⟩
    rcases List.mem_cons.mp hc with rfl | hc
    · exact .inl rfl
    · exact .inr (dig_isN hc)
theorem tI_inj {i j : Int} (e : tI i = tI j) : i = j := by
  have neg : ∀ (m n : Nat), tI (Int.ofNat m) ≠ tI (Int.negSucc n) := fun m n e => by
    have e1 : tI (Int.ofNat m) = _ := tI_nat m
    rw [e1, tI_neg] at e
    have := dig_isN (m := m) (c := 45) (by rw [e]; exact List.mem_cons_self)
    omega
  cases i with
  | ofNat m =>
    cases j with
    | ofNat n =>
      have e1 : tI (Int.ofNat m) = _ := tI_nat m
      have e2 : tI (Int.ofNat n) = _ := tI_nat n
      rw [e1, e2] at e
      rw [dig_inj e]
    | negSucc n => exact absurd e (neg m n)
  | negSucc m =>
    cases j with
    | ofNat n => exact absurd e.symm (neg n m)
    | negSucc n =>
      rw [tI_neg, tI_neg] at e
      have := dig_inj (List.cons.inj e).2
      rw [show m = n by omega]
def Dl (x : List Nat) : Prop := ∀ c r, x = c :: r → ¬ isN c
theorem num_pf : ∀ {a b x y : List Nat}, (∀ z ∈ a, isN z) → (∀ z ∈ b, isN z) → Dl x → Dl y → a ++ x = b ++ y → a = b ∧ x = y
  | [], [], x, y, _, _, _, _, e => ⟨rfl, e⟩
  | [], d :: b, x, y, _, hb, hx, _, e => absurd (hb d List.mem_cons_self) (hx d (b ++ y) e)
  | c :: a, [], x, y, ha, _, _, hy, e => absurd (ha c List.mem_cons_self) (hy c (a ++ x) e.symm)
  | c :: a, d :: b, x, y, ha, hb, hx, hy, e => by
    simp only [List.cons_append, List.cons.injEq] at e
    obtain ⟨z1, z2⟩ := num_pf (fun z hz => ha z (List.mem_cons_of_mem _ hz)) (fun z hz => hb z (List.mem_cons_of_mem _ hz)) hx hy e.2
    exact ⟨by rw [e.1, z1], z2⟩
structure Pf {α : Type} (f : α → List Nat) : Prop where
  i : ∀ a b x y, Dl x → Dl y → f a ++ x = f b ++ y → a = b ∧ x = y
  h : ∀ a, ∃ c r, f a = c :: r ∧ c ≠ 93
theorem pf_int : Pf tI := ⟨fun a b x y hx hy e => by
  obtain ⟨z1, z2⟩ := num_pf tI_isN.2 tI_isN.2 hx hy e
  exact ⟨tI_inj z1, z2⟩, fun a => by
  obtain ⟨⟨c, r, e⟩, k⟩ := tI_isN (i := a)
  refine ⟨c, r, e, ?_⟩
  have := k c (by rw [e]; exact List.mem_cons_self)
  unfold isN at this
  omega⟩
def tlL {α : Type} (f : α → List Nat) : List α → List Nat
  | [] => [93]
  | a :: r => 44 :: 32 :: (f a ++ tlL f r)
def lsL {α : Type} (f : α → List Nat) : List α → List Nat
  | [] => [91, 93]
  | a :: r => 91 :: (f a ++ tlL f r)
theorem dl_of {c : Nat} {r : List Nat} (h : ¬ isN c) : Dl (c :: r) := fun d s e => by
  rw [← (List.cons.inj e).1]
  exact h
theorem tl_dl {α : Type} (f : α → List Nat) (as : List α) (x : List Nat) : Dl (tlL f as ++ x) := by
  cases as with
  | nil => exact dl_of (by unfold isN; omega)
  | cons a r => exact dl_of (by unfold isN; omega)
theorem tl_pf {α : Type} {f : α → List Nat} (p : Pf f) : ∀ (as bs : List α) (x y : List Nat), tlL f as ++ x = tlL f bs ++ y → as = bs ∧ x = y
  | [], [], x, y, e => ⟨rfl, (List.cons.inj e).2⟩
  | [], b :: bs, x, y, e => by
    have := (List.cons.inj e).1
    omega
  | a :: as, [], x, y, e => by
    have := (List.cons.inj e).1
    omega
  | a :: as, b :: bs, x, y, e => by
    have e : (f a ++ tlL f as) ++ x = (f b ++ tlL f bs) ++ y := (List.cons.inj (List.cons.inj e).2).2
    rw [List.append_assoc, List.append_assoc] at e
    obtain ⟨z1, z2⟩ := p.i a b _ _ (tl_dl f as x) (tl_dl f bs y) e
    obtain ⟨z3, z4⟩ := tl_pf p as bs x y z2
    exact ⟨by rw [z1, z3], z4⟩
theorem ls_i {α : Type} {f : α → List Nat} (p : Pf f) (as bs : List α) (x y : List Nat) (e : lsL f as ++ x = lsL f bs ++ y) : as = bs ∧ x = y := by
  cases as with
  | nil =>
    cases bs with
    | nil => exact ⟨rfl, (List.cons.inj (List.cons.inj e).2).2⟩
    | cons b bs =>
      obtain ⟨c, r, z, k⟩ := p.h b
      have e : [93] ++ x = (f b ++ tlL f bs) ++ y := (List.cons.inj e).2
      rw [List.append_assoc, z] at e
      exact absurd (List.cons.inj e).1.symm k
  | cons a as =>
    cases bs with
    | nil =>
      obtain ⟨c, r, z, k⟩ := p.h a
      have e : (f a ++ tlL f as) ++ x = [93] ++ y := (List.cons.inj e).2
      rw [List.append_assoc, z] at e
      exact absurd (List.cons.inj e).1 k
    | cons b bs =>
      have e : (f a ++ tlL f as) ++ x = (f b ++ tlL f bs) ++ y := (List.cons.inj e).2
      rw [List.append_assoc, List.append_assoc] at e
      obtain ⟨z1, z2⟩ := p.i a b _ _ (tl_dl f as x) (tl_dl f bs y) e
      obtain ⟨z3, z4⟩ := tl_pf p as bs x y z2
      exact ⟨by rw [z1, z3], z4⟩
theorem pf_ls {α : Type} {f : α → List Nat} (p : Pf f) : Pf (lsL f) := ⟨fun a b x y _ _ e => ls_i p a b x y e, fun a => by
  cases a with
  | nil => exact ⟨91, _, rfl, by omega⟩
  | cons a r => exact ⟨91, _, rfl, by omega⟩⟩
end Lw
end
section
set_option maxHeartbeats 4000000
namespace Lw
open PySem Mo
abbrev shL (x : PyData) : List Nat := x.shown.cps.toList
theorem appT (a b : Str) : (a ++ b).cps.toList = a.cps.toList ++ b.cps.toList := Array.toList_append
theorem c_op : (Str.ofString "(").cps.toList = [40] := by decide +kernel
theorem c_cl : (Str.ofString ")").cps.toList = [41] := by decide +kernel
theorem c_cm : (Str.ofString ", ").cps.toList = [44, 32] := by decide +kernel
theorem c_lb : (Str.ofString "[").cps.toList = [91] := by decide +kernel
theorem c_rb : (Str.ofString "]").cps.toList = [93] := by decide +kernel
theorem c_lc : (Str.ofString "{").cps.toList = [123] := by decide +kernel
theorem c_rc : (Str.ofString "}").cps.toList = [125] := by decide +kernel
theorem c_col : (Str.ofString ": ").cps.toList = [58, 32] := by decide +kernel
theorem c_none : (Str.ofString "None").cps.toList = [78, 111, 110, 101] := by decide +kernel
theorem c_num : (reprText q_num).cps.toList = [39, 110, 117, 109, 39] := by decide +kernel
theorem c_room : (reprText q_room).cps.toList = [39, 114, 111, 111, 109, 39] := by decide +kernel
theorem c_proc : (reprText q_proc).cps.toList = [39, 112, 114, 111, 99, 39] := by decide +kernel
theorem c_owner : (reprText q_owner).cps.toList = [39, 111, 119, 110, 101, 114, 39] := by decide +kernel
theorem c_places : (reprText q_places).cps.toList = [39, 112, 108, 97, 99, 101, 115, 39] := by decide +kernel
theorem shA (ps : List PyData) : PyData.shownAll ps = ps.map PyData.shown := by
  induction ps with
  | nil => rfl
  | cons p ps ih => rw [PyData.shownAll, ih]; rfl
theorem tf_tail : ∀ (ps : List PyData) (k : Nat) (acc : Str), (textFrom (k + 1) acc (ps.map PyData.shown) ++ Str.ofString "]").cps.toList = acc.cps.toList ++ tlL shL ps
  | [], k, acc => by
    rw [appT, c_rb]
    rfl
  | p :: ps, k, acc => by
    show (textFrom (k + 1 + 1) (acc ++ Str.ofString (if k + 1 > 0 then ", " else "") ++ p.shown) (ps.map PyData.shown) ++ Str.ofString "]").cps.toList = _
    rw [tf_tail ps (k + 1), if_pos (Nat.succ_pos k), appT, appT, c_cm]
    simp [tlL]
theorem ls_sh (ps : List PyData) : shL (.list ps) = lsL shL ps := by
  show (textFrom 0 (Str.ofString "[") (PyData.shownAll ps) ++ Str.ofString "]").cps.toList = _
  rw [shA]
  cases ps with
  | nil =>
    rw [appT, c_rb]
    show (Str.ofString "[").cps.toList ++ _ = _
    rw [c_lb]
    rfl
  | cons p ps =>
    show (textFrom (0 + 1) (Str.ofString "[" ++ Str.ofString (if (0 : Nat) > 0 then ", " else "") ++ p.shown) (ps.map PyData.shown) ++ Str.ofString "]").cps.toList = _
    rw [tf_tail, appT, appT, c_lb, if_neg (Nat.lt_irrefl 0)]
    have e0 : (Str.ofString "").cps.toList = [] := by decide +kernel
    rw [e0]
    simp [lsL]
theorem tl_map {α : Type} (f : α → PyData) : ∀ as : List α, tlL shL (as.map f) = tlL (fun a => shL (f a)) as
  | [] => rfl
  | a :: as => by
    show 44 :: 32 :: (shL (f a) ++ tlL shL (as.map f)) = _
    rw [tl_map f as]
    rfl
theorem ls_map {α : Type} (f : α → PyData) (as : List α) : shL (.list (as.map f)) = lsL (fun a => shL (f a)) as := by
  rw [ls_sh]
  cases as with
  | nil => rfl
  | cons a as =>
    show 91 :: (shL (f a) ++ tlL shL (as.map f)) = _
    rw [tl_map]
    rfl
def wL : Wd → List Nat
  | .num n => 40 :: 39 :: 110 :: 117 :: 109 :: 39 :: 44 :: 32 :: (tI n ++ [41])
  | .room r s z => 40 :: 39 :: 114 :: 111 :: 111 :: 109 :: 39 :: 44 :: 32 :: (tI r ++ 44 :: 32 :: (tI s ++ 44 :: 32 :: (tI z ++ [41])))
  | .proc a b => 40 :: 39 :: 112 :: 114 :: 111 :: 99 :: 39 :: 44 :: 32 :: (tI a ++ 44 :: 32 :: (tI b ++ [41]))
theorem wd_sh (w : Wd) : shL w.p = wL w := by
  cases w with
  | num n => simp [shL, Wd.p, wL, PyData.shown, PyData.shownAll, tupleText, Str.join, appT, c_op, c_cl, c_cm, c_num]
  | room r s z => simp [shL, Wd.p, wL, PyData.shown, PyData.shownAll, tupleText, Str.join, appT, c_op, c_cl, c_cm, c_room]; rfl
  | proc a b => simp [shL, Wd.p, wL, PyData.shown, PyData.shownAll, tupleText, Str.join, appT, c_op, c_cl, c_cm, c_proc]; rfl
theorem dl41 (x : List Nat) : Dl (41 :: x) := dl_of (by unfold isN; omega)
theorem dl44 (x : List Nat) : Dl (44 :: x) := dl_of (by unfold isN; omega)
theorem pf_wd : Pf wL := ⟨fun a b x y _ _ e => by
  cases a with
  | num n =>
    cases b with
    | num m =>
      simp only [wL, List.cons_append, List.cons.injEq, true_and, List.append_assoc, List.nil_append] at e
      obtain ⟨z1, z2⟩ := pf_int.i _ _ _ _ (dl41 _) (dl41 _) e
      exact ⟨by rw [z1], (List.cons.inj z2).2⟩
    | room r s z => simp [wL] at e
    | proc c d => simp [wL] at e
  | room r s z =>
    cases b with
    | num m => simp [wL] at e
    | room r' s' z' =>
      simp only [wL, List.cons_append, List.cons.injEq, true_and, List.append_assoc, List.nil_append] at e
      obtain ⟨z1, z2⟩ := pf_int.i _ _ _ _ (dl44 _) (dl44 _) e
      obtain ⟨z3, z4⟩ := pf_int.i _ _ _ _ (dl44 _) (dl44 _) (List.cons.inj (List.cons.inj z2).2).2
      obtain ⟨z5, z6⟩ := pf_int.i _ _ _ _ (dl41 _) (dl41 _) (List.cons.inj (List.cons.inj z4).2).2
      exact ⟨by rw [z1, z3, z5], (List.cons.inj z6).2⟩
    | proc c d => simp [wL] at e
  | proc c d =>
    cases b with
    | num m => simp [wL] at e
    | room r s z => simp [wL] at e
    | proc c' d' =>
      simp only [wL, List.cons_append, List.cons.injEq, true_and, List.append_assoc, List.nil_append] at e
      obtain ⟨z1, z2⟩ := pf_int.i _ _ _ _ (dl44 _) (dl44 _) e
      obtain ⟨z3, z4⟩ := pf_int.i _ _ _ _ (dl41 _) (dl41 _) (List.cons.inj (List.cons.inj z2).2).2
      exact ⟨by rw [z1, z3], (List.cons.inj z4).2⟩, fun a => by
  cases a with
  | num n => exact ⟨40, _, rfl, by omega⟩
  | room r s z => exact ⟨40, _, rfl, by omega⟩
  | proc c d => exact ⟨40, _, rfl, by omega⟩⟩
def plP : Option (List Wd) → PyData
  | none => .none
  | some ws => .list (ws.map Wd.p)
def plL : Option (List Wd) → List Nat
  | none => [78, 111, 110, 101]
  | some ws => lsL wL ws
theorem pl_sh (o : Option (List Wd)) : shL (plP o) = plL o := by
  cases o with
  | none => exact c_none
  | some ws =>
    show shL (.list (ws.map Wd.p)) = lsL wL ws
    rw [ls_map, show (fun a => shL (Wd.p a)) = wL from funext wd_sh]
theorem pf_pl : Pf plL := ⟨fun a b x y _ _ e => by
  cases a with
  | none =>
    cases b with
    | none =>
      simp only [plL, List.cons_append, List.cons.injEq, true_and, List.nil_append] at e
      exact ⟨rfl, e⟩
    | some ws => cases ws <;> simp [plL, lsL] at e
  | some ws =>
    cases b with
    | none => cases ws <;> simp [plL, lsL] at e
    | some us =>
      obtain ⟨z1, z2⟩ := ls_i pf_wd ws us x y e
      exact ⟨by rw [z1], z2⟩, fun a => by
  cases a with
  | none => exact ⟨78, _, rfl, by omega⟩
  | some ws => exact (pf_ls pf_wd).h ws⟩
abbrev Rowp := Int × Option (List Wd)
def rowP (r : Rowp) : PyData := .dict [(.str q_owner, .int r.1), (.str q_places, plP r.2)]
def rowL (r : Rowp) : List Nat := 123 :: 39 :: 111 :: 119 :: 110 :: 101 :: 114 :: 39 :: 58 :: 32 :: (tI r.1 ++ 44 :: 32 :: 39 :: 112 :: 108 :: 97 :: 99 :: 101 :: 115 :: 39 :: 58 :: 32 :: (plL r.2 ++ [125]))
theorem row_sh (r : Rowp) : shL (rowP r) = rowL r := by
  unfold rowP rowL
  rw [← pl_sh]
  simp [shL, PyData.shown, PyData.shownKv, dictText, Str.join, appT, c_lc, c_rc, c_cm, c_col, c_owner, c_places]
theorem dl125 (x : List Nat) : Dl (125 :: x) := dl_of (by unfold isN; omega)
theorem pf_row : Pf rowL := ⟨fun a b x y _ _ e => by
  simp only [rowL, List.cons_append, List.cons.injEq, true_and, List.append_assoc, List.nil_append] at e
  obtain ⟨z1, z2⟩ := pf_int.i _ _ _ _ (dl44 _) (dl44 _) e
  simp only [List.cons.injEq, true_and] at z2
  obtain ⟨z3, z4⟩ := pf_pl.i _ _ _ _ (dl125 _) (dl125 _) z2
  exact ⟨Prod.ext z1 z3, (List.cons.inj z4).2⟩, fun a => ⟨123, _, rfl, by omega⟩⟩
def rowsOf (s : RmS) : List Rowp := s.own.zip s.pl
def RP (s : RmS) : PyData := .tuple [.int s.mo, .list ((rowsOf s).map rowP), .list (s.tc.map .int)]
theorem rp_sh (s : RmS) : shL (RP s) = 40 :: (tI s.mo ++ 44 :: 32 :: (lsL rowL (rowsOf s) ++ 44 :: 32 :: (lsL tI s.tc ++ [41]))) := by
  have e1 : lsL rowL (rowsOf s) = shL (.list ((rowsOf s).map rowP)) := by rw [ls_map, show (fun a => shL (rowP a)) = rowL from funext row_sh]
  have e2 : lsL tI s.tc = shL (.list (s.tc.map .int)) := by rw [ls_map]; rfl
  rw [e1, e2]
  simp [shL, RP, PyData.shown, PyData.shownAll, tupleText, Str.join, appT, c_op, c_cl, c_cm]
theorem zip_inj {α β : Type} : ∀ {as cs : List α} {bs ds : List β}, as.length = bs.length → cs.length = ds.length → as.zip bs = cs.zip ds → as = cs ∧ bs = ds
  | [], [], [], [], _, _, _ => ⟨rfl, rfl⟩
  | [], c :: cs, [], d :: ds, _, _, e => by cases e
  | a :: as, [], b :: bs, [], _, _, e => by cases e
  | a :: as, c :: cs, b :: bs, d :: ds, h1, h2, e => by
    simp only [List.zip_cons_cons, List.cons.injEq, Prod.mk.injEq] at e
    obtain ⟨z1, z2⟩ := zip_inj (Nat.succ.inj h1) (Nat.succ.inj h2) e.2
    exact ⟨by rw [e.1.1, z1], by rw [e.1.2, z2]⟩
theorem rp_inj {s t : RmS} (h1 : s.pl.length = s.own.length) (h2 : t.pl.length = t.own.length) (e : (RP s).shown = (RP t).shown) : s = t := by
  have e : shL (RP s) = shL (RP t) := congrArg (fun s : Str => s.cps.toList) e
  rw [rp_sh, rp_sh] at e
  obtain ⟨z1, z2⟩ := pf_int.i _ _ _ _ (dl44 _) (dl44 _) (List.cons.inj e).2
  simp only [List.cons.injEq, true_and] at z2
  obtain ⟨z3, z4⟩ := ls_i pf_row _ _ _ _ z2
  simp only [List.cons.injEq, true_and] at z4
  obtain ⟨z5, _⟩ := ls_i pf_int _ _ _ _ z4
  obtain ⟨y1, y2⟩ := zip_inj h1.symm h2.symm z3
  obtain ⟨mo, own, pl, tc⟩ := s
  obtain ⟨mo', own', pl', tc'⟩ := t
  simp only at z1 z5 y1 y2
  subst z1 z5 y1 y2
  rfl
end Lw
end
section
set_option maxHeartbeats 4000000
namespace Lw
open PySem Mo
def KP (s : RmS) : PyData := .tuple [.int s.mo, .list (s.own.map .int), .list (s.pl.map plP), .list (s.tc.map .int)]
def Qj {α : Type} (f : α → PyData) : Prop := ∀ a b, PyData.eqv (f a) (f b) = true → a = b
theorem qj_int : Qj PyData.int := fun a b e => by
  rw [eqv_int] at e
  exact of_decide_eq_true e
theorem qj_all {α : Type} {f : α → PyData} (p : Qj f) : ∀ as bs : List α, PyData.eqvAll (as.map f) (bs.map f) = true → as = bs
  | [], [], _ => rfl
  | [], b :: bs, e => by simp [PyData.eqvAll] at e
  | a :: as, [], e => by simp [PyData.eqvAll] at e
  | a :: as, b :: bs, e => by
    simp only [List.map_cons, PyData.eqvAll, Bool.and_eq_true] at e
    rw [p a b e.1, qj_all p as bs e.2]
theorem qj_list {α : Type} {f : α → PyData} (p : Qj f) : Qj fun as : List α => .list (as.map f) := fun as bs e => by
  simp only [PyData.eqv] at e
  exact qj_all p as bs e
theorem qj_wd : Qj Wd.p := fun a b e => by
  cases a with
  | num n =>
    cases b with
    | num m =>
      simp only [Wd.p, PyData.eqv, PyData.eqvAll, Bool.and_eq_true, beq_iff_eq] at e
      rw [e.2.1]
    | room r s z => simp [Wd.p, PyData.eqv, PyData.eqvAll] at e
    | proc c d => simp [Wd.p, PyData.eqv, PyData.eqvAll] at e
  | room r s z =>
    cases b with
    | num m => simp [Wd.p, PyData.eqv, PyData.eqvAll] at e
    | room r' s' z' =>
      simp only [Wd.p, PyData.eqv, PyData.eqvAll, Bool.and_eq_true, beq_iff_eq] at e
      rw [e.2.1, e.2.2.1, e.2.2.2.1]
    | proc c d => simp [Wd.p, PyData.eqv, PyData.eqvAll] at e
  | proc c d =>
    cases b with
    | num m => simp [Wd.p, PyData.eqv, PyData.eqvAll] at e
    | room r s z => simp [Wd.p, PyData.eqv, PyData.eqvAll] at e
    | proc c' d' =>
      simp only [Wd.p, PyData.eqv, PyData.eqvAll, Bool.and_eq_true, beq_iff_eq] at e
      rw [e.2.1, e.2.2.1]
theorem qj_pl : Qj plP := fun a b e => by
  cases a with
  | none =>
    cases b with
    | none => rfl
    | some ws => simp [plP, PyData.eqv] at e
  | some ws =>
    cases b with
    | none => simp [plP, PyData.eqv] at e
    | some us => rw [qj_list qj_wd ws us e]
theorem qj_kp : Qj KP := fun s t e => by
  simp only [KP, PyData.eqv, PyData.eqvAll, Bool.and_eq_true, beq_iff_eq] at e
  obtain ⟨e1, e2, e3, e4, _⟩ := e
  have y2 := qj_all qj_int _ _ e2
  have y3 := qj_all qj_pl _ _ e3
  have y4 := qj_all qj_int _ _ e4
  obtain ⟨mo, own, pl, tc⟩ := s
  obtain ⟨mo', own', pl', tc'⟩ := t
  simp only at e1 y2 y3 y4
  subst e1 y2 y3 y4
  rfl
theorem plP_gp {o : Option (List Wd)} (k : ∀ ws, o = some ws → ws.length ≤ 64 ∧ ∀ x ∈ ws, x.ok) : tame (plP o) = true ∧ (plP o).bulk ≤ 600 := by
  cases o with
  | none => exact ⟨by simp only [plP, tame], by simp only [plP, PyData.bulk]; omega⟩
  | some ws =>
    obtain ⟨k1, k2⟩ := k ws rfl
    obtain ⟨a, b⟩ := wds_gp k2
    exact ⟨by simp only [plP, tame]; exact a, by simp only [plP, PyData.bulk]; omega⟩
theorem own_sm {s : RmS} (k : ∀ x ∈ s.own, Ownr x) : ∀ x ∈ s.own, Sm x := fun x hx => by
  have := k x hx
  unfold Ownr at this
  unfold Sm
  omega
theorem pls_gp : ∀ {pl : List (Option (List Wd))}, (∀ ws, some ws ∈ pl → ws.length ≤ 64 ∧ ∀ x ∈ ws, x.ok) → tameL (pl.map plP) = true
  | [], _ => by simp only [List.map_nil, tameL]
  | o :: pl, k => by
    have a := (plP_gp (o := o) fun ws e => k ws (by rw [← e]; exact List.mem_cons_self)).1
    have b := pls_gp (pl := pl) fun ws h => k ws (List.mem_cons_of_mem _ h)
    simp only [List.map_cons, tameL, a, b, Bool.and_self]
theorem kp_tame {s : RmS} {n : Nat} (k : SOk s n) (m0 : 0 ≤ s.mo) (m1 : s.mo ≤ 1000) : tame (KP s) = true := by
  simp only [KP, tame, tameL, Bool.and_true, Bool.and_eq_true, decide_eq_true_eq]
  refine ⟨by omega, (ints_gp (own_sm k.so)).1, pls_gp k.w, (ints_gp k.st).1⟩
theorem kp_rp {s t : RmS} {n m : Nat} (k : SOk s n) (k2 : SOk t m) (m0 : 0 ≤ s.mo) (m1 : s.mo ≤ 1000) : PyData.eqv (KP s) (KP t) = @decide ((RP s).shown = (RP t).shown) (strDec (RP s).shown (RP t).shown) := by
  by_cases c : s = t
  · subst c
    rw [eqv_of_tame _ (kp_tame k m0 m1), @decide_eq_true _ (strDec _ _) rfl]
  · have a : PyData.eqv (KP s) (KP t) = false := by
      cases z : PyData.eqv (KP s) (KP t) with
      | false => rfl
      | true => exact absurd (qj_kp s t z) c
    rw [a, @decide_eq_false _ (strDec _ _) fun e => c (rp_inj k.l k2.l e)]
theorem datL_ix {f : D → Option PyData} : ∀ {xs : List D} {qs : List PyData}, xs.length = qs.length → (∀ (i : Nat) (x : D) (p : PyData), xs[i]? = some x → qs[i]? = some p → f x = some p) → datL f xs = some qs
  | [], [], _, _ => rfl
  | [], q :: qs, h, _ => by cases h
  | x :: xs, [], h, _ => by cases h
  | x :: xs, q :: qs, h, k => datL_cons (k 0 x q rfl rfl) (datL_ix (Nat.succ.inj h) fun i y p e1 e2 => k (i + 1) y p e1 e2)
theorem datRS {n : Nat} {h : Hm} {x : Str} (k : PyData.strOk x = true) : datR (n + 1) h (.str x) = some (.str x) := by
  unfold datR
  simp only [k]
theorem datRW {n : Nat} {h : Hm} (w : Wd) : datR (n + 2) h w.d = some w.p := by
  cases w with
  | num a =>
    show (datL (datR (n + 1) h) [.str q_num, .int a]).map PyData.tuple = _
    rw [datL_cons (datRS ok_q_num) (datL_cons rfl rfl)]
    rfl
  | room a b c =>
    show (datL (datR (n + 1) h) [.str q_room, .int a, .int b, .int c]).map PyData.tuple = _
    rw [datL_cons (datRS ok_q_room) (datL_cons rfl (datL_cons rfl (datL_cons rfl rfl)))]
    rfl
  | proc a b =>
    show (datL (datR (n + 1) h) [.str q_proc, .int a, .int b]).map PyData.tuple = _
    rw [datL_cons (datRS ok_q_proc) (datL_cons rfl (datL_cons rfl rfl))]
    rfl
theorem datR_lst {n a : Nat} {h : Hm} {xs : List D} {qs : List PyData} (e : h.g a = some (.lst xs)) (k : datL (datR n h) xs = some qs) : datR (n + 1) h (.loc a) = some (.list qs) := by
  unfold datR
  simp only [e, k]
  rfl
theorem dat_lstN {n a : Nat} {h : Hm} {xs : List D} {qs : List PyData} (e : h.g a = some (.lst xs)) (k : datL (dat n h) xs = some qs) : dat (n + 1) h (.loc a) = some (.list qs) := by
  unfold dat
  simp only [e, k]
  rfl
theorem datLR_ints {n : Nat} {h : Hm} (ks : List Int) : datL (datR (n + 1) h) (dI ks) = some (ks.map .int) := datL_map fun x _ => rfl
section
variable {E : XE} {Q : D → Hm → Prop} {col : Nat → Nat} {k : Nat} {h : Hm} {lr ll lp lt : Nat} {ps : List (Option Nat)} {s : RmS} {lo lR lT lW : Nat} {rs : List (Nat × Option Nat)} {wl : List Wd}
theorem all_kept_dat (w : Rm col k h lr ll lp lt ps s) : dat DEP h (.tup [.int s.mo, .loc ll, .loc lp, .loc lt]) = some (KP s) := by
  show (datL (dat 11 h) [.int s.mo, .loc ll, .loc lp, .loc lt]).map PyData.tuple = _
  rw [datL_cons (p := .int s.mo) rfl (datL_cons (dat_lstN w.o (datL_ints (n := 9) _)) (datL_cons (dat_lstN w.p (qs := s.pl.map plP) (datL_ix (by rw [List.length_map, List.length_map, w.l1, w.l2]) fun i x p e1 e2 => ?_)) (datL_cons (dat_lstN w.t (datL_ints (n := 9) _)) rfl)))]
  · rfl
  · rw [List.getElem?_map] at e1 e2
    obtain ⟨o, e3, rfl⟩ := Option.map_eq_some_iff.mp e1
    obtain ⟨y, e4, rfl⟩ := Option.map_eq_some_iff.mp e2
    cases o with
    | none =>
      rw [w.q0 i e3] at e4
      cases e4
      rfl
    | some a =>
      obtain ⟨ws, g1, g2, _⟩ := w.q i a e3
      rw [g1] at e4
      cases e4
      exact datWs (n := 7) g2
theorem rooms_eq_w {col' : Nat → Nat} {k' : Nat} {lr' ll' lp' lt' : Nat} {ps' : List (Option Nat)} {t : RmS} (w : Rm col k h lr ll lp lt ps s) (w' : Rm col' k' h lr' ll' lp' lt' ps' t) (q : Q (.bl (PyData.eqv (KP s) (KP t))) h) : Ev E (f_Rooms_eq [.loc lr, .loc lr'] h) Q := by
  have w1 := w.r
  have w2 := w'.r
  refine u_Rooms_eq ?_
  unfold b_Rooms_eq
  repeat (walk_at "m1")
  refine ev_isR (by unfold isK tyD; simp only [w2]; rfl) ?_
  repeat (walk_at "m1")
  refine u_Rooms_all_kept ?_
  unfold b_Rooms_all_kept
  repeat (walk_at "m1")
  refine u_Rooms_all_kept ?_
  unfold b_Rooms_all_kept
  repeat (walk_at "m1")
  refine ev_eqD (all_kept_dat w) (all_kept_dat w') ?_
  exact q
theorem kept_dat (o : Ow col k h lo lR lT lW rs s wl) : datR DEP h (.tup [.int s.mo, .loc lR, .loc lT]) = some (RP s) := by
  have l1 := o.l1
  have l2 := o.l2
  show (datL (datR 11 h) [.int s.mo, .loc lR, .loc lT]).map PyData.tuple = _
  rw [datL_cons (p := .int s.mo) rfl (datL_cons (datR_lst o.r (qs := (rowsOf s).map rowP) (datL_ix (by unfold rowsOf; rw [List.length_map, List.length_map, List.length_zip, o.l1, o.l2, Nat.min_self]) fun i x p e1 e2 => ?_)) (datL_cons (datR_lst o.t (datLR_ints (n := 9) _)) rfl))]
  · rfl
  · rw [List.getElem?_map] at e1 e2
    obtain ⟨⟨a, b⟩, e3, rfl⟩ := Option.map_eq_some_iff.mp e1
    obtain ⟨y, e4, rfl⟩ := Option.map_eq_some_iff.mp e2
    obtain ⟨ow, g1, g2, _⟩ := o.q i _ e3
    have g2 : h.g a = some (rowF ow b) := g2
    unfold rowsOf at e4
    have hi := (List.getElem?_eq_some_iff.mp e3).1
    have pli : s.pl[i]? = some (s.pl[i]'(by omega)) := List.getElem?_eq_getElem _
    have ey : y = (ow, s.pl[i]'(by omega)) := by
      rw [List.getElem?_zip_eq_some] at e4
      have y1 := e4.1
      have y2 := e4.2
      rw [g1] at y1
      rw [pli] at y2
      exact Prod.ext (Option.some.inj y1).symm (Option.some.inj y2).symm
    rw [ey]
    show datR 10 h (.loc a) = _
    unfold datR
    simp only [g2]
    have pd : datR 9 h (pD b) = some (plP (s.pl[i]'(by omega))) := by
      cases b with
      | none =>
        have := o.q0 i a e3
        rw [pli] at this
        rw [Option.some.inj this]
        rfl
      | some b =>
        obtain ⟨ws, z1, z2, _⟩ := o.q2 i a b e3
        rw [pli] at z1
        rw [Option.some.inj z1]
        exact datR_lst z2 (datL_map fun x _ => datRW (n := 6) x)
    have k1 : kyP (.inr q_owner) = some (.str q_owner) := by unfold kyP; simp only [ok_q_owner]
    have k2 : kyP (.inr q_places) = some (.str q_places) := by unfold kyP; simp only [ok_q_places]
    have d1 : datR 9 h (.int ow) = some (.int ow) := rfl
    unfold datK
    simp only [k1, d1]
    unfold datK
    simp only [k2, pd]
    rfl
theorem rowsP_gp : ∀ {rows : List Rowp}, (∀ r ∈ rows, Sm r.1 ∧ ∀ ws, r.2 = some ws → ws.length ≤ 64 ∧ ∀ x ∈ ws, x.ok) → tameRL (rows.map rowP) = true ∧ PyData.bulkAll (rows.map rowP) ≤ 700 * rows.length
  | [], _ => ⟨by simp only [List.map_nil, tameRL], by simp only [List.map_nil, PyData.bulkAll, List.length_nil]; omega⟩
  | r :: rows, k => by
    obtain ⟨k1, k2⟩ := k r List.mem_cons_self
    obtain ⟨a, b⟩ := plP_gp k2
    obtain ⟨c, d⟩ := rowsP_gp (rows := rows) fun r h => k r (List.mem_cons_of_mem _ h)
    have t1 := tameR_of _ (sm_tame k1)
    have t2 := tameR_of _ a
    have t3 : tameR (.str q_owner) = true := by simp only [tameR]; exact ok_q_owner
    have t4 : tameR (.str q_places) = true := by simp only [tameR]; exact ok_q_places
    have tr : tameR (rowP r) = true := by
      unfold rowP
      rw [tameR, tameRK, t3, t1, tameRK, t4, t2, tameRK]
      rfl
    have br : (rowP r).bulk ≤ 660 := by
      unfold rowP
      simp only [PyData.bulk, PyData.bulkKv]
      have : q_owner.cps.size = 5 := rfl
      have : q_places.cps.size = 6 := rfl
      omega
    refine ⟨by rw [List.map_cons, tameRL, tr, c]; rfl, ?_⟩
    simp only [List.map_cons, PyData.bulkAll, List.length_cons]
    omega
theorem rp_fits {n : Nat} (ok : SOk s n) (hn : n ≤ 40) (m0 : 0 ≤ s.mo) (m1 : s.mo ≤ 1000) : fitsR (RP s) = true := by
  have k1 := ok.o
  have k2 := ok.t
  have lz : (rowsOf s).length ≤ 40 := by
    unfold rowsOf
    rw [List.length_zip, ok.l]
    omega
  obtain ⟨a, b⟩ := rowsP_gp (rows := rowsOf s) fun r hr => by
    unfold rowsOf at hr
    obtain ⟨h1, h2⟩ := List.of_mem_zip (show (r.1, r.2) ∈ s.own.zip s.pl from hr)
    exact ⟨own_sm ok.so _ h1, fun ws e => ok.w ws (by rw [← e]; exact h2)⟩
  obtain ⟨c, d⟩ := ints_gp ok.st
  have t1 : tameR (.int s.mo) = true := tameR_of _ (sm_tame (z := s.mo) ⟨by omega, by omega⟩)
  have t3 : tameR (.list (s.tc.map .int)) = true := tameR_of _ (by simp only [tame]; exact c)
  have t2 : tameR (.list ((rowsOf s).map rowP)) = true := by rw [tameR]; exact a
  unfold fitsR RP
  rw [tameR, tameRL, t1, tameRL, t2, tameRL, t3, tameRL]
  simp only [PyData.bulk, PyData.bulkAll, Bool.and_self, Bool.true_and]
  exact decide_eq_true (by omega)
theorem kept_w {n : Nat} (o : Ow col k h lo lR lT lW rs s wl) (ok : SOk s n) (hn : n ≤ 40) (m0 : 0 ≤ s.mo) (m1 : s.mo ≤ 1000) (q : Q (.str (RP s).shown) h) : Ev E (f_kept [.loc lo] h) Q := by
  have o1 := o.d
  refine u_kept ?_
  unfold b_kept
  repeat (walk_at "m1")
  refine ev_reprR (kept_dat o) (rp_fits ok hn m0 m1) ?_
  exact q
end
end Lw
end
section
set_option maxHeartbeats 4000000
namespace Lw
open PySem Mo
abbrev pT (p : Nat × Nat) : D := .tup [.loc p.1, .loc p.2]
structure Pz (col : Nat → Nat) (kr ko : Nat) (h : Hm) (r o : Nat) (s : RmS) (wl : List Wd) : Prop where
  e : ∃ ll lp lt ps lR lT lW rs, Rm col kr h r ll lp lt ps s ∧ Ow col ko h o lR lT lW rs s wl
section
variable {E : XE} {Q : D → Hm → Prop} {h : Hm}
theorem okT {l c : Nat} {fs : List (Str × D)} (e : h.g l = some (.ins c fs)) : okTy c (.loc l) h = true := by
  unfold okTy tyD
  simp only [e, decide_true]
theorem dat_bl (b : Bool) : dat DEP h (.bl b) = some (.bool b) := rfl
theorem eqv_bl (a b : Bool) : PyData.eqv (.bool a) (.bool b) = (a == b) := by
  cases a <;> cases b <;> rfl
theorem equal_right_w {la n : Nat} {as : List (Nat × Nat)} (hn : n ≤ 40) (g : h.g la = some (.lst (as.map pT))) (ok : ∀ p ∈ as, ∃ col kr ko s wl, Pz col kr ko h p.1 p.2 s wl ∧ SOk s n ∧ 0 ≤ s.mo ∧ s.mo ≤ 1000) (q : Q (.bl true) h) : Ev E (f_equal_right [.loc la] h) Q := by
  refine u_equal_right ?_
  unfold b_equal_right
  repeat (walk_at "m1")
  refine for_inv (fun n σ h' => ∃ a1 a2 a3 a4 a5 a6, σ = [some (.loc la), a1, a2, a3, a4, a5, a6] ∧ h' = h) _ 0 _ _ ⟨_, _, _, _, _, _, rfl, rfl⟩ (fun i σ h' _ _ hI => ?_) (fun i d σ h' ed hI => ?_) (fun σ h' hI => ?_)
  · obtain ⟨a1, a2, a3, a4, a5, a6, rfl, rfl⟩ := hI
    exact decide_eq_true (seq_loc g)
  · obtain ⟨a1, a2, a3, a4, a5, a6, rfl, rfl⟩ := hI
    rw [List.getElem?_map] at ed
    obtain ⟨⟨r, o⟩, e1, rfl⟩ := Option.map_eq_some_iff.mp ed
    obtain ⟨col, kr, ko, s, wl, ⟨⟨ll, lp, lt, ps, lR, lT, lW, rs, ra, oa⟩⟩, sk, m0, m1⟩ := ok _ (List.mem_of_getElem? e1)
    have ra : Rm col kr h' r ll lp lt ps s := ra
    have oa : Ow col ko h' o lR lT lW rs s wl := oa
    have rr := ra.r
    have od := oa.d
    have orr := oa.r
    repeat (walk_at "m1")
    unfold l_equal_right_3
    repeat (walk_at "m1")
    refine for_inv (fun n σ h2 => ∃ a3 a4 a5 a6, σ = [some (.loc la), some (.loc r), some (.loc o), a3, a4, a5, a6] ∧ h2 = h') _ 0 _ _ ⟨_, _, _, _, rfl, rfl⟩ (fun i σ h2 _ _ hI => ?_) (fun i d σ h2 ed hI => ?_) (fun σ h2 hI => ?_)
    · obtain ⟨a3, a4, a5, a6, rfl, rfl⟩ := hI
      exact decide_eq_true (seq_loc g)
    · obtain ⟨a3, a4, a5, a6, rfl, rfl⟩ := hI
      rw [List.getElem?_map] at ed
      obtain ⟨⟨r', o'⟩, e2, rfl⟩ := Option.map_eq_some_iff.mp ed
      obtain ⟨col', kr', ko', t, wl', ⟨⟨ll', lp', lt', ps', lR', lT', lW', rs', ra', oa'⟩⟩, sk', m0', m1'⟩ := ok _ (List.mem_of_getElem? e2)
      have ra' : Rm col' kr' h2 r' ll' lp' lt' ps' t := ra'
      have oa' : Ow col' ko' h2 o' lR' lT' lW' rs' t wl' := oa'
      have rr' := ra'.r
      repeat (walk_at "m1")
      unfold l_equal_right_1
      repeat (walk_at "m1")
      refine kept_w oa sk hn m0 m1 ?_
      repeat (walk_at "m1")
      refine kept_w oa' sk' hn m0' m1' ?_
      have ek := kp_rp sk sk' m0 m1
      repeat (walk_at "m1")
      generalize @decide ((RP s).shown = (RP t).shown) (strDec (RP s).shown (RP t).shown) = b at ek ⊢
      refine ev_eqO (F := f_Rooms_eq) rr rfl (okT rr') ?_
      refine rooms_eq_w ra ra' ⟨_, rfl, ?_⟩
      rw [ek]
      repeat (walk_at "m1")
      refine ev_neD (dat_bl b) (dat_bl b) ?_
      rw [eqv_bl, beq_self_eq_true]
      repeat (walk_at "m1")
      refine ev_eqO (F := f_Rooms_eq) rr rfl (okT rr') ?_
      refine rooms_eq_w ra ra' ⟨_, rfl, ?_⟩
      rw [ek]
      repeat (walk_at "m1")
      refine ev_eqD (dat_bl (!b)) (dat_bl b) ?_
      rw [eqv_bl, show ((!b) == b) = false by cases b <;> rfl]
      repeat (walk_at "m1")
      exact ⟨_, _, _, _, rfl, rfl⟩
    · obtain ⟨a3, a4, a5, a6, rfl, rfl⟩ := hI
      repeat (walk_at "m1")
      refine touches_w ra ?_
      repeat (walk_at "m1")
      have no : ∀ x, x ∈ [D.non, .int 0, .str q_Rooms_0_, .kl [], .loc lR, .tup (dI s.tc)] → plainK h2 x = true ∧ okTy 0 x h2 = true ∧ isK [("NoneType", false), ("bool", false), ("int", false), ("str", false), ("tuple", false), ("list", false), ("dict", false)] [(0, true)] [] x h2 = some false := fun x hx => by
        simp only [List.mem_cons, List.not_mem_nil, or_false] at hx
        rcases hx with rfl | rfl | rfl | rfl | rfl | rfl
        · exact ⟨rfl, rfl, rfl⟩
        · exact ⟨rfl, rfl, rfl⟩
        · exact ⟨rfl, rfl, rfl⟩
        · exact ⟨rfl, rfl, rfl⟩
        · refine ⟨?_, ?_, ?_⟩
          · unfold plainK tyD
            simp only [orr]
            rfl
          · unfold okTy tyD
            simp only [orr]
          · unfold isK tyD
            simp only [orr]
            rfl
        · exact ⟨rfl, rfl, rfl⟩
      refine for_inv (fun n σ h' => ∃ a3 a4 a5 a6, σ = [some (.loc la), some (.loc r), some (.loc o), a3, a4, a5, a6] ∧ h' = h2) _ 0 _ _ ⟨_, _, _, _, rfl, rfl⟩ (fun i σ h' _ _ hI => rfl) (fun i d σ h' ed hI => ?_) (fun σ h' hI => ?_)
      · obtain ⟨a3, a4, a5, a6, rfl, rfl⟩ := hI
        obtain ⟨n1, n2, n3⟩ := no d (List.mem_of_getElem? ed)
        have re : ∀ {E : XE} {Q : D → Hm → Prop}, Q (.bl false) h' → Ev E (f_Rooms_eq [.loc r, d] h') Q := fun q => by
          refine u_Rooms_eq ?_
          unfold b_Rooms_eq
          repeat (walk_at "m1")
          refine ev_isR n3 ?_
          repeat (walk_at "m1")
          exact q
        repeat (walk_at "m1")
        unfold l_equal_right_2
        repeat (walk_at "m1")
        refine ev_eqO (F := f_Rooms_eq) rr rfl n2 ?_
        refine re ⟨_, rfl, ?_⟩
        repeat (walk_at "m1")
        refine ev_eqR (F := f_Rooms_eq) rr rfl n1 ?_
        refine re ⟨_, rfl, ?_⟩
        repeat (walk_at "m1")
        exact ⟨_, _, _, _, rfl, rfl⟩
      · obtain ⟨a3, a4, a5, a6, rfl, rfl⟩ := hI
        exact ⟨_, _, _, _, _, _, rfl, rfl⟩
  · obtain ⟨a1, a2, a3, a4, a5, a6, rfl, rfl⟩ := hI
    repeat (walk_at "m1")
    exact q
end
end Lw
end
section
set_option maxHeartbeats 4000000
namespace Lw
open PySem Mo
structure Lk (col : Nat → Nat) (k : Nat) (h0 h : Hm) (r : Nat) (s : RmS) : Prop where
  e : ∃ col' lo lp lt ps, Fz (fun l => col l = k) h0 h ∧ (∀ l, l < h0.n → col' l = col l) ∧ Rm col' k h r lo lp lt ps s
structure Ro (h : Hm) (r : Nat) (s : RmS) : Prop where
  e : ∃ col k lo lp lt ps, Rm col k h r lo lp lt ps s
theorem Ro.fz {h h' : Hm} {r : Nat} {s : RmS} (w : Ro h r s) (f : Fz (fun _ => False) h h') : Ro h' r s := by
  obtain ⟨col, k, lo, lp, lt, ps, ra⟩ := w.e
  exact ⟨col, k, lo, lp, lt, ps, ra.fzF f⟩
theorem Lk.ro {col : Nat → Nat} {k : Nat} {h0 h : Hm} {r : Nat} {s : RmS} (w : Lk col k h0 h r s) : Ro h r s := by
  obtain ⟨col, lo, lp, lt, ps, _, _, ra⟩ := w.e
  exact ⟨col, k, lo, lp, lt, ps, ra⟩
theorem Ro.r {h : Hm} {r : Nat} {s : RmS} (w : Ro h r s) : ∃ lo lp lt, h.g r = some (.ins 0 (roomsF s.mo lo lp lt)) := by
  obtain ⟨col, k, lo, lp, lt, ps, ra⟩ := w.e
  exact ⟨_, _, _, ra.r⟩
section
variable {E : XE} {Q : D → Hm → Prop} {h h0 : Hm} {col : Nat → Nat} {k r : Nat} {s : RmS}
theorem lk_make (w : Lk col k h0 h r s) {n o : Int} (n0 : 0 ≤ n) (n1 : n ≤ 64) (l : (s.own.length : Int) < s.mo) (l1 : s.own.length < 1000) (l2 : s.tc.length < 1000) (q : ∀ h', Lk col k h0 h' r ⟨s.mo, s.own ++ [o], s.pl ++ [some (zeros n)], s.tc ++ [(s.own.length : Int)]⟩ → Q (.tup [.str q_room, .int s.own.length, .int 0, .int n]) h') : Ev E (f_Rooms_make_room [.loc r, .tup [.str q_num, .int n], .int o] h) Q := by
  obtain ⟨col', lo, lp, lt, ps, F, ag, ra⟩ := w.e
  have em : makeS s (.num n) o = (.told (some (.room s.own.length 0 n)), ⟨s.mo, s.own ++ [o], s.pl ++ [some (zeros n)], s.tc ++ [(s.own.length : Int)]⟩) := by
    unfold makeS
    simp only
    rw [if_pos ⟨n0, n1⟩, if_neg (by omega)]
  refine make_room_w (m := .num n) ra (by omega) (by omega) (fun x h' ps' col2 e f ag2 ra => ?_) fun e z => ?_
  · rw [em] at e ra
    cases e
    exact q h' ⟨col2, _, _, _, _, F.after f fun l z hl => (ag l hl).symm.trans z, fun l hl => (ag2 l (Nat.lt_of_lt_of_le hl F.n)).trans (ag l hl), ra⟩
  · rw [em] at z
    cases z
theorem lk_put (w : Lk col k h0 h r s) {W a o : Wd} (hw : W.ok) (l2 : s.tc.length < 1000) {i p : Int} (e : placeS s.pl W a = .ok (i, p)) (q : ∀ h', Lk col k h0 h' r ⟨s.mo, s.own, s.pl.set i.toNat (some ((roomAt s.pl i).set p.toNat o)), s.tc ++ [i]⟩ → Q .non h') : Ev E (f_Rooms_put_at [.loc r, W.d, a.d, o.d] h) Q := by
  obtain ⟨col', lo, lp, lt, ps, F, ag, ra⟩ := w.e
  have em : putS s W a o = (.told none, ⟨s.mo, s.own, s.pl.set i.toNat (some ((roomAt s.pl i).set p.toNat o)), s.tc ++ [i]⟩) := by
    unfold putS
    rw [e]
  refine put_at_w ra hw (by omega) (fun h' _ f n ra => ?_) fun e z => ?_
  · rw [em] at ra
    exact q h' ⟨col', _, _, _, _, F.after f fun l z hl => (ag l hl).symm.trans z, ag, ra⟩
  · rw [em] at z
    cases z
theorem lk_look (w : Lk col k h0 h r s) {W a x : Wd} (hw : W.ok) (l2 : s.tc.length < 1000) {i p : Int} (e : placeS s.pl W a = .ok (i, p)) (ex : (roomAt s.pl i)[p.toNat]? = some x) (q : ∀ h', Lk col k h0 h' r ⟨s.mo, s.own, s.pl, s.tc ++ [i]⟩ → Q x.d h') : Ev E (f_Rooms_word_at [.loc r, W.d, a.d] h) Q := by
  obtain ⟨col', lo, lp, lt, ps, F, ag, ra⟩ := w.e
  have em : lookS s W a = (.told (some x), ⟨s.mo, s.own, s.pl, s.tc ++ [i]⟩) := by
    unfold lookS
    rw [e]
    simp only [ex]
  refine word_at_w ra hw (by omega) (fun x h' e f n ra => ?_) fun e z => ?_
  · rw [em] at ra e
    cases e
    exact q h' ⟨col', _, _, _, _, F.after f fun l z hl => (ag l hl).symm.trans z, ag, ra⟩
  · rw [em] at z
    cases z
theorem lk_end (w : Lk col k h0 h r s) (hn : s.own.length < 64) {o : Int} (ho : ∃ z ∈ thereS s, ownI s z = o) (q : ∀ h', Lk col k h0 h' r (endS s o) → Q (.kl (dI (endL s o))) h') : Ev E (f_Rooms_end_rooms [.loc r, .int o] h) Q := by
  obtain ⟨col', lo, lp, lt, ps, F, ag, ra⟩ := w.e
  refine end_w ra hn ho fun h' ps' f ra => ?_
  exact q h' ⟨col', _, _, _, _, F.after f fun l z hl => (ag l hl).symm.trans z, ag, ra⟩
theorem ev_intB {b : Bool} (v : Int) (e : (if b then 1 else 0) = v) (q : Q (.int v) h) : Ev E (bInt [.bl b] h) Q := by
  subst e
  exact q
theorem w_ok {r z : Nat} (h1 : r ≤ 100) (h2 : z ≤ 100) : (Wd.room r 0 z).ok := by
  show 0 ≤ (r : Int) ∧ (0 : Int) ≤ 0 ∧ 0 ≤ (z : Int) ∧ Sm r ∧ Sm 0 ∧ (z : Int) ≤ 1000
  unfold Sm
  omega
def sA (m o v : Int) : RmS := ⟨m, [o, 1], [some [.num 0, .num v, .num 0], some []], [0, 1, 0]⟩
def ledS (m o : Int) : Nat → RmS
  | 0 => sA m o 7
  | 1 => ⟨m, [o, 1], [some [.num 0, .num 7, .num 0], some []], [0, 1, 0, 0]⟩
  | 2 => ⟨m, [o, 1], [some [.num 0, .num 7, .num 0], some []], [0, 1, 0, 0]⟩
  | 3 => ⟨m, [o, 1], [some [.num 0, .num 7, .num 0], none], [0, 1, 0]⟩
  | 4 => sA m o 8
  | _ => ⟨m, [o, 1], [none, some []], [0, 1, 0]⟩
theorem end3 {m o : Int} (ho : o = 3 ∨ o = 4) : endS (sA m o 7) 1 = ledS m o 3 ∧ endS (sA m o 7) o = ledS m o 5 ∧ (∃ z ∈ thereS (sA m o 7), ownI (sA m o 7) z = 1) ∧ (∃ z ∈ thereS (sA m o 7), ownI (sA m o 7) z = o) := by
  rcases ho with rfl | rfl
  · exact ⟨rfl, rfl, ⟨1, .tail _ (.head _), rfl⟩, ⟨0, .head _, rfl⟩⟩
  · exact ⟨rfl, rfl, ⟨1, .tail _ (.head _), rfl⟩, ⟨0, .head _, rfl⟩⟩
theorem led_w {m o : Int} {i : Nat} (hm : 5 ≤ m) (hm2 : m ≤ 6) (ho : o = 3 ∨ o = 4) (hi : i < 6) (q : ∀ h' r, Fz (fun _ => False) h h' → Ro h' r (ledS m o i) → Q (.loc r) h') : Ev E (f_led [.int m, .int o, .int (i : Int)] h) Q := by
  obtain ⟨e3, e5, z3, z5⟩ := end3 (m := m) ho
  refine u_led ?_
  unfold b_led
  repeat (walk_at "m1")
  refine init_w (mo := m) (fun _ => 0) 1 (by omega) (by omega) fun h1 f1 ra => ?_
  have cb : ∀ l, l < h.n → colE (fun _ => 0) h 1 l ≠ 1 := fun l hl => by rw [agE _ _ _ l hl]; decide
  generalize colE (fun _ => 0) h 1 = col at ra cb
  have W : Lk col 1 h1 h1 h.n (s0 m) := ⟨col, _, _, _, _, Fz.refl _ _, fun _ _ => rfl, ra⟩
  have q : ∀ h', Lk col 1 h1 h' h.n (ledS m o i) → Q (.loc h.n) h' := fun h' W => by
    obtain ⟨_, _, _, _, _, f, _, _⟩ := W.e
    exact q h' h.n (f1.after f fun l z hl => (cb l hl z).elim) W.ro
  clear f1 ra cb
  generalize h.n = r at W q ⊢
  obtain ⟨_, _, _, g⟩ := W.ro.r
  repeat (walk_at "m1")
  refine lk_make W (n := 3) (o := o) (by decide) (by decide) (by show (0 : Int) < m; omega) (by show 0 < 1000; decide) (by show 0 < 1000; decide) fun h2 W => ?_
  clear g
  obtain ⟨_, _, _, g⟩ := W.ro.r
  repeat (walk_at "m1")
  refine lk_make W (n := 0) (o := 1) (by decide) (by decide) (by show (1 : Int) < m; omega) (by show 1 < 1000; decide) (by show 1 < 1000; decide) fun h3 W => ?_
  have W : Lk col 1 h1 h3 r ⟨m, [o, 1], [some [.num 0, .num 0, .num 0], some []], [0, 1]⟩ := W
  clear g
  obtain ⟨_, _, _, g⟩ := W.ro.r
  match i, hi with
  | 0, _ =>
    repeat (walk_at "m1")
    refine ev_intB 0 rfl ?_
    repeat (walk_at "m1")
    refine lk_put W (W := .room 0 0 3) (a := .num 1) (o := .num 7) (w_ok (by decide) (by decide)) (by show 2 < 1000; decide) (i := 0) (p := 1) rfl fun h4 W => ?_
    have W : Lk col 1 h1 h4 r (sA m o 7) := W
    clear g
    obtain ⟨_, _, _, g⟩ := W.ro.r
    repeat (walk_at "m1")
    exact q _ W
  | 1, _ =>
    repeat (walk_at "m1")
    refine ev_intB 0 rfl ?_
    repeat (walk_at "m1")
    refine lk_put W (W := .room 0 0 3) (a := .num 1) (o := .num 7) (w_ok (by decide) (by decide)) (by show 2 < 1000; decide) (i := 0) (p := 1) rfl fun h4 W => ?_
    have W : Lk col 1 h1 h4 r (sA m o 7) := W
    clear g
    obtain ⟨_, _, _, g⟩ := W.ro.r
    repeat (walk_at "m1")
    refine lk_look W (W := .room 0 0 3) (a := .num 0) (x := .num 0) (w_ok (by decide) (by decide)) (by show 3 < 1000; decide) (i := 0) (p := 0) rfl rfl fun h5 W => ?_
    repeat (walk_at "m1")
    exact q _ W
  | 2, _ =>
    repeat (walk_at "m1")
    refine ev_intB 0 rfl ?_
    repeat (walk_at "m1")
    refine lk_put W (W := .room 0 0 3) (a := .num 1) (o := .num 7) (w_ok (by decide) (by decide)) (by show 2 < 1000; decide) (i := 0) (p := 1) rfl fun h4 W => ?_
    have W : Lk col 1 h1 h4 r (sA m o 7) := W
    clear g
    obtain ⟨_, _, _, g⟩ := W.ro.r
    repeat (walk_at "m1")
    refine lk_put W (W := .room 0 0 3) (a := .num 1) (o := .num 7) (w_ok (by decide) (by decide)) (by show 3 < 1000; decide) (i := 0) (p := 1) rfl fun h5 W => ?_
    repeat (walk_at "m1")
    exact q _ W
  | 3, _ =>
    repeat (walk_at "m1")
    refine ev_intB 0 rfl ?_
    repeat (walk_at "m1")
    refine lk_put W (W := .room 0 0 3) (a := .num 1) (o := .num 7) (w_ok (by decide) (by decide)) (by show 2 < 1000; decide) (i := 0) (p := 1) rfl fun h4 W => ?_
    have W : Lk col 1 h1 h4 r (sA m o 7) := W
    clear g
    obtain ⟨_, _, _, g⟩ := W.ro.r
    repeat (walk_at "m1")
    refine lk_end W (by show 2 < 64; decide) z3 fun h5 W => ?_
    rw [e3] at W
    repeat (walk_at "m1")
    exact q _ W
  | 4, _ =>
    repeat (walk_at "m1")
    refine ev_intB 1 rfl ?_
    repeat (walk_at "m1")
    refine lk_put W (W := .room 0 0 3) (a := .num 1) (o := .num 8) (w_ok (by decide) (by decide)) (by show 2 < 1000; decide) (i := 0) (p := 1) rfl fun h4 W => ?_
    have W : Lk col 1 h1 h4 r (sA m o 8) := W
    clear g
    obtain ⟨_, _, _, g⟩ := W.ro.r
    repeat (walk_at "m1")
    exact q _ W
  | 5, _ =>
    repeat (walk_at "m1")
    refine ev_intB 0 rfl ?_
    repeat (walk_at "m1")
    refine lk_put W (W := .room 0 0 3) (a := .num 1) (o := .num 7) (w_ok (by decide) (by decide)) (by show 2 < 1000; decide) (i := 0) (p := 1) rfl fun h4 W => ?_
    have W : Lk col 1 h1 h4 r (sA m o 7) := W
    clear g
    obtain ⟨_, _, _, g⟩ := W.ro.r
    repeat (walk_at "m1")
    refine lk_end W (by show 2 < 64; decide) z5 fun h5 W => ?_
    rw [e5] at W
    repeat (walk_at "m1")
    exact q _ W
end
end Lw
end
section
set_option maxHeartbeats 4000000
namespace Lw
open PySem Mo
def tS : Nat → RmS
  | 1 => ⟨2, [0, 0], [some [.num 0], some [.num 0]], [0, 1, 1, 0]⟩
  | _ => ⟨2, [0, 0], [some [.num 0], some [.num 0]], [0, 1, 0, 1]⟩
section
variable {E : XE} {X : XS} {P : Po} {Q : D → Hm → Prop} {h h0 : Hm} {col : Nat → Nat} {k r : Nat} {s : RmS}
theorem lk1_w {a0 a1 a3 : Option D} {i : Nat} {b0 : List Int} (W : Lk col k h0 h r ⟨2, [0, 0], [some [.num 0], some [.num 0]], b0⟩) (hb : b0.length < 100) (hi : i < 2) (q : ∀ h', Lk col k h0 h' r ⟨2, [0, 0], [some [.num 0], some [.num 0]], b0 ++ [(i : Int)]⟩ → P.nx [a0, a1, some (.loc r), a3, some (.tup [.str q_room, .int i, .int 0, .int 1])] h') : EvS X (l_turns_right_1 [a0, a1, some (.loc r), a3, some (.tup [.str q_room, .int i, .int 0, .int 1])] h) P := by
  obtain ⟨_, _, _, g⟩ := W.ro.r
  unfold l_turns_right_1
  repeat (walk_at "m1")
  have e : placeS [some [Wd.num 0], some [Wd.num 0]] (.room i 0 1) (.num 0) = .ok ((i : Int), 0) := by
    match i, hi with
    | 0, _ => rfl
    | 1, _ => rfl
  have ex : (roomAt [some [Wd.num 0], some [Wd.num 0]] (i : Int))[(0 : Int).toNat]? = some (.num 0) := by
    match i, hi with
    | 0, _ => rfl
    | 1, _ => rfl
  refine lk_look W (W := .room i 0 1) (a := .num 0) (x := .num 0) (w_ok (z := 1) (by omega) (by decide)) (by show b0.length < 1000; omega) e ex fun h5 W => ?_
  repeat (walk_at "m1")
  exact q h5 W
theorem turn1_w {a0 a3 a4 : Option D} {i : Nat} (W : Lk col k h0 h r (s0 2)) (hi : i < 3) (q : ∀ h' b3 b4, Lk col k h0 h' r (tS i) → P.nx [a0, some (.int i), some (.loc r), b3, b4] h') : EvS X (l_turns_right_2 [a0, some (.int i), some (.loc r), a3, a4] h) P := by
  obtain ⟨_, _, _, g⟩ := W.ro.r
  unfold l_turns_right_2
  repeat (walk_at "m1")
  refine lk_make W (n := 1) (o := 0) (by decide) (by decide) (by decide) (by decide) (by decide) fun h2 W => ?_
  clear g
  obtain ⟨_, _, _, g⟩ := W.ro.r
  repeat (walk_at "m1")
  refine lk_make W (n := 1) (o := 0) (by decide) (by decide) (by decide) (by decide) (by decide) fun h3 W => ?_
  have W : Lk col k h0 h3 r ⟨2, [0, 0], [some [.num 0], some [.num 0]], [0, 1]⟩ := W
  clear g
  match i, hi with
  | 0, _ =>
    repeat (walk_at "m1")
    refine ev_eStep ?_
    repeat (walk_at "m1")
    refine ev_step1 (xs := [.tup [.str q_room, .int ((0 : Nat) : Int), .int 0, .int 1], .tup [.str q_room, .int ((1 : Nat) : Int), .int 0, .int 1]]) rfl ?_
    repeat (walk_at "m1")
    refine for_cons rfl ?_
    repeat (walk_at "m1")
    refine lk1_w (i := 0) W (by decide) (by decide) fun h4 W => ?_
    refine for_cons rfl ?_
    repeat (walk_at "m1")
    refine lk1_w (i := 1) W (by decide) (by decide) fun h5 W => ?_
    dsimp only
    refine for_nil rfl ?_
    exact q _ _ _ W
  | 1, _ =>
    repeat (walk_at "m1")
    refine ev_eStep ?_
    repeat (walk_at "m1")
    refine ev_stepR (xs := [.tup [.str q_room, .int ((0 : Nat) : Int), .int 0, .int 1], .tup [.str q_room, .int ((1 : Nat) : Int), .int 0, .int 1]]) rfl ?_
    repeat (walk_at "m1")
    refine for_cons rfl ?_
    repeat (walk_at "m1")
    refine lk1_w (i := 1) W (by decide) (by decide) fun h4 W => ?_
    refine for_cons rfl ?_
    repeat (walk_at "m1")
    refine lk1_w (i := 0) W (by decide) (by decide) fun h5 W => ?_
    dsimp only
    refine for_nil rfl ?_
    exact q _ _ _ W
  | 2, _ =>
    repeat (walk_at "m1")
    refine ev_eStep ?_
    repeat (walk_at "m1")
    refine ev_step1 (xs := [.tup [.str q_room, .int ((0 : Nat) : Int), .int 0, .int 1], .tup [.str q_room, .int ((1 : Nat) : Int), .int 0, .int 1]]) rfl ?_
    repeat (walk_at "m1")
    refine for_cons rfl ?_
    repeat (walk_at "m1")
    refine lk1_w (i := 0) W (by decide) (by decide) fun h4 W => ?_
    refine for_cons rfl ?_
    repeat (walk_at "m1")
    refine lk1_w (i := 1) W (by decide) (by decide) fun h5 W => ?_
    dsimp only
    refine for_nil rfl ?_
    exact q _ _ _ W
theorem ro_eq {neg : Bool} {r' : Nat} {t : RmS} (w : Ro h r s) (w' : Ro h r' t) (q : Q (.bl (if neg then !(PyData.eqv (KP s) (KP t)) else PyData.eqv (KP s) (KP t))) h) : Ev E (opEqO neg [(0, f_Rooms_eq)] (.loc r) (.loc r') h) Q := by
  obtain ⟨col, k, lo, lp, lt, ps, ra⟩ := w.e
  obtain ⟨col', k', lo', lp', lt', ps', ra'⟩ := w'.e
  refine ev_eqO (F := f_Rooms_eq) ra.r rfl (okT ra'.r) ?_
  exact rooms_eq_w ra ra' ⟨_, rfl, q⟩
theorem tS_eq (i j : Nat) (hi : i < 3) (hj : j < 3) : PyData.eqv (KP (tS i)) (KP (tS j)) = decide (i % 2 = j % 2) := by
  match i, hi, j, hj with
  | 0, _, 0, _ => rfl
  | 0, _, 1, _ => rfl
  | 0, _, 2, _ => rfl
  | 1, _, 0, _ => rfl
  | 1, _, 1, _ => rfl
  | 1, _, 2, _ => rfl
  | 2, _, 0, _ => rfl
  | 2, _, 1, _ => rfl
  | 2, _, 2, _ => rfl
theorem Lk.start {lo lp lt : Nat} {ps : List (Option Nat)} (w : Rm col k h r lo lp lt ps s) : Lk col k h h r s := ⟨col, _, _, _, _, Fz.refl _ _, fun _ _ => rfl, w⟩
theorem turns_right_w (q : ∀ h', Fz (fun _ => False) h h' → Q (.bl true) h') : Ev E (f_turns_right [] h) Q := by
  refine u_turns_right ?_
  unfold b_turns_right
  repeat (walk_at "m1")
  refine init_w (mo := 2) (fun _ => 0) 1 (by decide) (by decide) fun h1 f1 ra => ?_
  have cb1 : ∀ l, l < h.n → colE (fun _ => 0) h 1 l = 0 := fun l hl => agE _ _ _ l hl
  generalize colE (fun _ => 0) h 1 = c1 at ra cb1
  have FT1 : True → Fz (fun _ => False) h h1 := fun _ => f1
  clear f1
  repeat (walk_at "m1")
  refine init_w (mo := 2) c1 2 (by decide) (by decide) fun h2 f2 rb => ?_
  have n1 := (FT1 trivial).n
  have cb2 : ∀ l, l < h.n → colE c1 h1 2 l = 0 := fun l hl => (agE _ _ _ l (by omega)).trans (cb1 l hl)
  have ra := ra.st (gro f2 c1 8) (by omega) (agE c1 h1 2)
  generalize colE c1 h1 2 = c2 at ra rb cb2
  have FT2 : True → Fz (fun _ => False) h h2 := fun _ => (FT1 trivial).after f2 fun _ z _ => z
  clear f2 cb1
  repeat (walk_at "m1")
  refine init_w (mo := 2) c2 3 (by decide) (by decide) fun h3 f3 rc => ?_
  have n2 := (FT2 trivial).n
  have cb3 : ∀ l, l < h.n → colE c2 h2 3 l = 0 := fun l hl => (agE _ _ _ l (by omega)).trans (cb2 l hl)
  have ra := ra.st (gro f3 c2 8) (by omega) (agE c2 h2 3)
  have rb := rb.st (gro f3 c2 8) (by omega) (agE c2 h2 3)
  generalize colE c2 h2 3 = c3 at ra rb rc cb3
  have FT3 : True → Fz (fun _ => False) h h3 := fun _ => (FT2 trivial).after f3 fun _ z _ => z
  clear f3 cb2
  have q : ∀ h', Fz (fun l => c3 l ≠ 0) h3 h' → Q (.bl true) h' := fun h' f => q h' ((FT3 trivial).after f fun l z hl => z (cb3 l hl))
  generalize h.n = l0 at *
  generalize h1.n = l1 at *
  generalize h2.n = l2 at *
  clear FT1 FT2 FT3 n1 n2 cb3
  repeat (walk_at "m1")
  refine for_cons (decide_eq_true rfl) ?_
  repeat (walk_at "m1")
  refine turn1_w (i := 0) (Lk.start ra) (by decide) fun h4 _ _ W => ?_
  obtain ⟨c4, _, _, _, _, f4, ag4, ra⟩ := W.e
  have rb := rb.st f4 (by omega) ag4
  have rc := rc.st f4 (by omega) ag4
  have n4 := f4.n
  have q : ∀ h', Fz (fun l => c4 l ≠ 0) h4 h' → Q (.bl true) h' := fun h' f => q h' ((f4.mono fun l z _ => by rw [z]; decide).after f fun l z hl => by rw [← ag4 l hl]; exact z)
  clear W f4
  refine for_cons (decide_eq_true rfl) ?_
  repeat (walk_at "m1")
  refine turn1_w (i := 1) (Lk.start rb) (by decide) fun h5 _ _ W => ?_
  obtain ⟨c5, _, _, _, _, f5, ag5, rb⟩ := W.e
  have ra := ra.st f5 (by omega) ag5
  have rc := rc.st f5 (by omega) ag5
  have q : ∀ h', Fz (fun l => c5 l ≠ 0) h5 h' → Q (.bl true) h' := fun h' f => q h' ((f5.mono fun l z _ => by rw [z]; decide).after f fun l z hl => by rw [← ag5 l hl]; exact z)
  clear W f5
  refine for_cons (decide_eq_true rfl) ?_
  repeat (walk_at "m1")
  refine turn1_w (i := 2) (Lk.start rc) (by decide) fun h6 _ _ W => ?_
  obtain ⟨c6, _, _, _, _, f6, ag6, rc⟩ := W.e
  have ra := ra.st f6 (by omega) ag6
  have rb := rb.st f6 (by omega) ag6
  have q := q h6 (f6.mono fun l z _ => by rw [z]; decide)
  clear W f6
  dsimp only
  refine for_nil (decide_eq_true rfl) ?_
  have oa : Ro h6 _ _ := ⟨_, _, _, _, _, _, ra⟩
  have ob : Ro h6 _ _ := ⟨_, _, _, _, _, _, rb⟩
  have oc : Ro h6 _ _ := ⟨_, _, _, _, _, _, rc⟩
  repeat (walk_at "m1")
  refine ro_eq oa ob ?_
  rw [tS_eq _ _ (by decide) (by decide)]
  repeat (walk_at "m1")
  refine ro_eq ob oc ?_
  rw [tS_eq _ _ (by decide) (by decide)]
  repeat (walk_at "m1")
  refine ro_eq oa oc ?_
  rw [tS_eq _ _ (by decide) (by decide)]
  exact q
end
end Lw
end
section
set_option maxHeartbeats 4000000
namespace Lw
open PySem Mo
section
variable {E : XE} {X : XS} {P : Po} {Q : D → Hm → Prop} {h h0 : Hm}
theorem ro_twin {r : Nat} {s : RmS} (w : Ro h r s) (m0 : 0 ≤ s.mo) (m1 : s.mo ≤ 1000) (ho : s.own.length < 9000) (q : ∀ h' r', Fz (fun _ => False) h h' → Ro h' r' s → Q (.loc r') h') : Ev E (f_Rooms_rooms_twin [.loc r] h) Q := by
  obtain ⟨col, k, lo, lp, lt, ps, ra⟩ := w.e
  exact twin_w ra m0 m1 ho 1 fun h' lr' lo' lp' lt' ps' f _ ra => q h' lr' f ⟨_, _, _, _, _, _, ra⟩
theorem near_right_w (q : ∀ h', Fz (fun _ => False) h h' → Q (.bl true) h') : Ev E (f_near_right [] h) Q := by
  refine u_near_right ?_
  unfold b_near_right
  repeat (walk_at "m1")
  refine led_w (m := 5) (o := 3) (i := 0) (by decide) (by decide) (.inl rfl) (by decide) fun h1 ra f1 wa => ?_
  have q : ∀ h', Fz (fun _ => False) h1 h' → Q (.bl true) h' := fun h' f => q h' (f1.after f fun _ z _ => z)
  clear f1
  repeat (walk_at "m1")
  refine led_w (m := 5) (o := 3) (i := 0) (by decide) (by decide) (.inl rfl) (by decide) fun h2 rb f2 wb => ?_
  have wa := wa.fz f2
  have q : ∀ h', Fz (fun _ => False) h2 h' → Q (.bl true) h' := fun h' f => q h' (f2.after f fun _ z _ => z)
  clear f2
  repeat (walk_at "m1")
  refine led_w (m := 6) (o := 3) (i := 0) (by decide) (by decide) (.inl rfl) (by decide) fun h3 rc f3 wc => ?_
  have wa := wa.fz f3
  have wb := wb.fz f3
  have q : ∀ h', Fz (fun _ => False) h3 h' → Q (.bl true) h' := fun h' f => q h' (f3.after f fun _ z _ => z)
  clear f3
  repeat (walk_at "m1")
  refine led_w (m := 5) (o := 4) (i := 0) (by decide) (by decide) (.inr rfl) (by decide) fun h4 rd f4 wd => ?_
  have wa := wa.fz f4
  have wb := wb.fz f4
  have wc := wc.fz f4
  have q : ∀ h', Fz (fun _ => False) h4 h' → Q (.bl true) h' := fun h' f => q h' (f4.after f fun _ z _ => z)
  clear f4
  repeat (walk_at "m1")
  refine comp_inv (fun n acc h' => ∃ rs : List Nat, acc = rs.map .loc ∧ Fz (fun _ => False) h4 h' ∧ rs.length = n ∧ ∀ j r, rs[j]? = some r → Ro h' r (ledS 5 3 (j + 1))) _ 0 [] h4 ⟨[], rfl, Fz.refl _ _, rfl, fun j r e => by cases e⟩ (fun i acc h' _ _ _ => rfl) (fun i d acc h' ed hI => ?_) (fun acc h5 hI => ?_)
  · obtain ⟨rs, rfl, f, l, wr⟩ := hI
    have FT : True → Fz (fun _ => False) h4 h' := fun _ => f
    clear f
    obtain ⟨rfl, hi⟩ : d = .int ((i + 1 : Nat) : Int) ∧ i < 5 := by
      match i, ed with
      | 0, ed => cases ed; exact ⟨rfl, by decide⟩
      | 1, ed => cases ed; exact ⟨rfl, by decide⟩
      | 2, ed => cases ed; exact ⟨rfl, by decide⟩
      | 3, ed => cases ed; exact ⟨rfl, by decide⟩
      | 4, ed => cases ed; exact ⟨rfl, by decide⟩
      | n + 5, ed => cases ed
    rw [Nat.zero_add] at l ⊢
    refine ⟨_, rfl, ?_⟩
    unfold c_near_right_1
    repeat (walk_at "m1")
    refine led_w (m := 5) (o := 3) (i := i + 1) (by decide) (by decide) (.inl rfl) (by omega) fun h5 r f5 w5 => ?_
    refine ⟨by rw [List.length_map, l]; unfold SL; omega, rs ++ [r], by rw [List.map_append]; rfl, (FT trivial).after f5 fun _ z _ => z, by rw [List.length_append, l]; rfl, fun j r' e => ?_⟩
    by_cases hj : j < rs.length
    · rw [List.getElem?_append_left hj] at e
      exact (wr j r' e).fz f5
    · rw [List.getElem?_append_right (by omega)] at e
      have hz := (List.getElem?_eq_some_iff.mp e).1
      rw [List.length_singleton] at hz
      rw [show j - rs.length = 0 by omega] at e
      cases e
      rw [show j = i by omega]
      exact w5
  obtain ⟨rs, rfl, f5, l, wr⟩ := hI
  have l : rs.length = 5 := l
  match rs, l with
  | [r1, r2, r3, r4, r5], _ =>
  have w1 := wr 0 r1 rfl
  have w2 := wr 1 r2 rfl
  have w3 := wr 2 r3 rfl
  have w4 := wr 3 r4 rfl
  have w5 := wr 4 r5 rfl
  clear wr
  have wa := wa.fz f5
  have wb := wb.fz f5
  have wc := wc.fz f5
  have wd := wd.fz f5
  have q : ∀ h', Fz (fun _ => False) h5 h' → Q (.bl true) h' := fun h' f => q h' (f5.after f fun _ z _ => z)
  clear f5
  refine ev_addKK (by show 2 + 5 ≤ SL; unfold SL; decide) ?_
  repeat (walk_at "m1")
  refine led_w (m := 5) (o := 4) (i := 5) (by decide) (by decide) (.inr rfl) (by decide) fun h6 r6 f6 w6 => ?_
  have wa := wa.fz f6
  have wb := wb.fz f6
  have wc := wc.fz f6
  have wd := wd.fz f6
  have w1 := w1.fz f6
  have w2 := w2.fz f6
  have w3 := w3.fz f6
  have w4 := w4.fz f6
  have w5 := w5.fz f6
  have q : ∀ h', Fz (fun _ => False) h6 h' → Q (.bl true) h' := fun h' f => q h' (f6.after f fun _ z _ => z)
  clear f6
  refine ro_eq w5 w6 ?_
  have e1 : PyData.eqv (KP (ledS 5 3 5)) (KP (ledS 5 4 5)) = false := rfl
  have e2 : PyData.eqv (KP (ledS 5 3 5)) (KP (ledS 5 3 5)) = true := rfl
  rw [e1]
  repeat (walk_at "m1")
  refine led_w (m := 5) (o := 3) (i := 5) (by decide) (by decide) (.inl rfl) (by decide) fun h7 r7 f7 w7 => ?_
  have wa := wa.fz f7
  have wb := wb.fz f7
  have wc := wc.fz f7
  have wd := wd.fz f7
  have w1 := w1.fz f7
  have w2 := w2.fz f7
  have w3 := w3.fz f7
  have w4 := w4.fz f7
  have w5 := w5.fz f7
  have q : ∀ h', Fz (fun _ => False) h7 h' → Q (.bl true) h' := fun h' f => q h' (f7.after f fun _ z _ => z)
  clear f7
  refine ro_eq w5 w7 ?_
  rw [e2]
  repeat (walk_at "m1")
  refine turns_right_w fun h8 f8 => ?_
  have wa := wa.fz f8
  have wb := wb.fz f8
  have wc := wc.fz f8
  have wd := wd.fz f8
  have w1 := w1.fz f8
  have w2 := w2.fz f8
  have w3 := w3.fz f8
  have w4 := w4.fz f8
  have w5 := w5.fz f8
  have q : ∀ h', Fz (fun _ => False) h8 h' → Q (.bl true) h' := fun h' f => q h' (f8.after f fun _ z _ => z)
  clear f8
  repeat (walk_at "m1")
  refine ro_eq wa wb ?_
  have e3 : PyData.eqv (KP (ledS 5 3 0)) (KP (ledS 5 3 0)) = true := rfl
  have e4 : PyData.eqv (KP (ledS 5 3 1)) (KP (ledS 5 3 2)) = true := rfl
  rw [e3]
  repeat (walk_at "m1")
  refine ro_eq w1 w2 ?_
  rw [e4]
  obtain ⟨_, _, _, ga⟩ := wa.r
  repeat (walk_at "m1")
  refine ro_twin wa (by decide) (by decide) (by decide) fun h9 r9 f9 w9 => ?_
  have wa := wa.fz f9
  have wb := wb.fz f9
  have wc := wc.fz f9
  have wd := wd.fz f9
  have w1 := w1.fz f9
  have w2 := w2.fz f9
  have w3 := w3.fz f9
  have w4 := w4.fz f9
  have w5 := w5.fz f9
  have q := q h9 f9
  clear f9 ga
  refine ro_eq wa w9 ?_
  rw [e3]
  repeat (walk_at "m1")
  have un : ∀ d, d ∈ [D.loc rc, .loc rd, .loc r1, .loc r2, .loc r3, .loc r4, .loc r5] → ∃ r s, d = .loc r ∧ Ro h9 r s ∧ PyData.eqv (KP s) (KP (ledS 5 3 0)) = false ∧ PyData.eqv (KP (ledS 5 3 0)) (KP s) = false := fun d hd => by
    simp only [List.mem_cons, List.not_mem_nil, or_false] at hd
    rcases hd with rfl | rfl | rfl | rfl | rfl | rfl | rfl
    · exact ⟨_, _, rfl, wc, rfl, rfl⟩
    · exact ⟨_, _, rfl, wd, rfl, rfl⟩
    · exact ⟨_, _, rfl, w1, rfl, rfl⟩
    · exact ⟨_, _, rfl, w2, rfl, rfl⟩
    · exact ⟨_, _, rfl, w3, rfl, rfl⟩
    · exact ⟨_, _, rfl, w4, rfl, rfl⟩
    · exact ⟨_, _, rfl, w5, rfl, rfl⟩
  refine comp_inv (fun n acc h' => acc = [] ∧ h' = h9) _ 0 [] h9 ⟨rfl, rfl⟩ (fun i acc h' _ _ _ => rfl) (fun i d acc h' ed hI => ?_) (fun acc h' hI => ?_)
  · obtain ⟨rfl, rfl⟩ := hI
    obtain ⟨r, s, rfl, w, n1, n2⟩ := un d (List.mem_of_getElem? ed)
    refine ⟨_, rfl, ?_⟩
    repeat (walk_at "m1")
    refine ro_eq w wa ?_
    rw [n1]
    repeat (walk_at "m1")
    refine ro_eq wa w ?_
    rw [n2]
    repeat (walk_at "m1")
    refine ro_eq w wa ?_
    rw [n1]
    repeat (walk_at "m1")
    exact ⟨rfl, rfl⟩
  · obtain ⟨rfl, rfl⟩ := hI
    repeat (walk_at "m1")
    refine ev_eqD (dat_kI (n := 10) []) (dat0 (n := 11)) ?_
    rw [eqv0]
    exact q
end
end Lw
end
section
set_option maxHeartbeats 4000000
namespace Lw
open PySem Mo
structure Pm (col : Nat → Nat) (kr ko : Nat) (h : Hm) (r o n : Nat) : Prop where
  e : ∃ ll lp lt ps s lR lT lW rs wl, Rm col kr h r ll lp lt ps s ∧ Ow col ko h o lR lT lW rs s wl ∧ SOk s n ∧ wl.length ≤ n ∧ 0 ≤ s.mo ∧ s.mo ≤ 1000
theorem Pm.stP {col col' : Nat → Nat} {kr ko r o n : Nat} {h h' : Hm} {P : Nat → Prop} (w : Pm col kr ko h r o n) (f : Fz P h h') (ne : ∀ l, P l → col l ≠ kr ∧ col l ≠ ko) (ag : ∀ l, l < h.n → col' l = col l) : Pm col' kr ko h' r o n := by
  obtain ⟨ll, lp, lt, ps, s, lR, lT, lW, rs, wl, a, b, c, d, e, g⟩ := w.e
  exact ⟨ll, lp, lt, ps, s, lR, lT, lW, rs, wl, a.stP f (fun l z => (ne l z).1) ag, b.stP f (fun l z => (ne l z).2) ag, c, d, e, g⟩
theorem Pm.up {col : Nat → Nat} {kr ko r o n m : Nat} {h : Hm} (w : Pm col kr ko h r o n) (l : n ≤ m) : Pm col kr ko h r o m := by
  obtain ⟨ll, lp, lt, ps, s, lR, lT, lW, rs, wl, a, b, c, d, e, g⟩ := w.e
  exact ⟨ll, lp, lt, ps, s, lR, lT, lW, rs, wl, a, b, c.up l, Nat.le_trans d l, e, g⟩
structure Cx (h0 h : Hm) (col : Nat → Nat) (ld : Nat) (cs : List Int) (b : Int) (la : Nat) (as : List (Nat × Nat)) (n j : Nat) : Prop where
  F : Fz (fun l => l = ld) h0 h
  cb : ∀ l, l < h0.n → l ≠ ld → col l = 9
  dr : Dr col 0 h ld cs b
  g : h.g la = some (.lst (as.map pT))
  gn : la < h.n ∧ h0.n ≤ la ∧ col la = 50
  o : ∀ (i r o : Nat), i ≠ j → as[i]? = some (r, o) → Pm col (1 + 2 * i) (2 + 2 * i) h r o n
section
variable {h0 h h' : Hm} {col col' : Nat → Nat} {ld la n j : Nat} {cs : List Int} {b b' : Int} {as : List (Nat × Nat)} {P : Nat → Prop}
theorem Cx.stP (w : Cx h0 h col ld cs b la as n j) (f : Fz P h h') (ne : ∀ l, P l → col l ≠ 9 ∧ col l ≠ 50 ∧ ∀ i, i ≠ j → col l ≠ 1 + 2 * i ∧ col l ≠ 2 + 2 * i) (ag : ∀ l, l < h.n → col' l = col l) (dr : Dr col' 0 h' ld cs b') : Cx h0 h' col' ld cs b' la as n j := by
  obtain ⟨F, cb, _, g, gn, o⟩ := w
  have fn := f.n
  have Fn := F.n
  refine ⟨F.after f fun l z hl => Classical.byContradiction fun nl => (ne l z).1 (cb l hl nl), fun l hl nl => (ag l (by omega)).trans (cb l hl nl), dr, f.at gn.1 (fun z => (ne _ z).2.1 gn.2.2) g, ⟨by omega, gn.2.1, (ag _ gn.1).trans gn.2.2⟩, fun i r o' hi e => (o i r o' hi e).stP f (fun l z => (ne l z).2.2 i hi) ag⟩
theorem Cx.st {c : Nat} (w : Cx h0 h col ld cs b la as n j) (f : Fz (fun l => col l = c) h h') (ne : c ≠ 0 ∧ c ≠ 9 ∧ c ≠ 50 ∧ ∀ i, i ≠ j → c ≠ 1 + 2 * i ∧ c ≠ 2 + 2 * i) (ag : ∀ l, l < h.n → col' l = col l) : Cx h0 h' col' ld cs b la as n j :=
  w.stP f (fun l z => ⟨by rw [z]; exact ne.2.1, by rw [z]; exact ne.2.2.1, fun i hi => by rw [z]; exact ne.2.2.2 i hi⟩) ag (w.dr.st f (fun z => ne.1 z.symm) ag)
theorem Cx.tk (w : Cx h0 h col ld cs b la as n j) (f : Fz (fun l => col l = 0) h h') (dr : Dr col 0 h' ld cs b') : Cx h0 h' col ld cs b' la as n j :=
  w.stP f (fun l z => ⟨by omega, by omega, fun i hi => by omega⟩) (fun _ _ => rfl) dr
theorem Cx.fz (w : Cx h0 h col ld cs b la as n j) (f : Fz (fun _ => False) h h') (ag : ∀ l, l < h.n → col' l = col l) : Cx h0 h' col' ld cs b la as n j :=
  w.stP f (fun l z => z.elim) ag (w.dr.st (gro f col 8) (by decide) ag)
theorem Cx.le (w : Cx h0 h col ld cs b la as n j) (l : b ≤ b') : Cx h0 h col ld cs b' la as n j := ⟨w.F, w.cb, w.dr.le l, w.g, w.gn, w.o⟩
theorem Cx.up {m : Nat} (w : Cx h0 h col ld cs b la as n j) (l : n ≤ m) : Cx h0 h col ld cs b la as m j := ⟨w.F, w.cb, w.dr, w.g, w.gn, fun i r o hi e => (w.o i r o hi e).up l⟩
theorem Cx.pick (w : Cx h0 h col ld cs b la as n 100) (l : as.length ≤ 4) (j : Nat) : Cx h0 h col ld cs b la as n j := ⟨w.F, w.cb, w.dr, w.g, w.gn, fun i r o hi e => w.o i r o (by
  have := (List.getElem?_eq_some_iff.mp e).1
  omega) e⟩
theorem Cx.join {r o : Nat} (w : Cx h0 h col ld cs b la as n j) (e : as[j]? = some (r, o)) (p : Pm col (1 + 2 * j) (2 + 2 * j) h r o n) : Cx h0 h col ld cs b la as n 100 := ⟨w.F, w.cb, w.dr, w.g, w.gn, fun i r' o' hi e' => by
  by_cases c : i = j
  · subst c
    rw [e] at e'
    cases e'
    exact p
  · exact w.o i r' o' c e'⟩
theorem Cx.colE (w : Cx h0 h col ld cs b la as n j) (k : Nat) : Cx h0 h (colE col h k) ld cs b la as n j := w.fz (Fz.refl _ _) (agE col h k)
theorem Cx.more {r o : Nat} (w : Cx h0 h col ld cs b la as n 100) (l : as.length < 4) (p : Pm col (1 + 2 * as.length) (2 + 2 * as.length) h r o n) : Cx h0 (h.put la (.lst ((as ++ [(r, o)]).map pT))) col ld cs b la (as ++ [(r, o)]) n 100 := by
  obtain ⟨F, cb, dr, g, gn, ok⟩ := w
  have f : Fz (fun l => col l = 50) h (h.put la (.lst ((as ++ [(r, o)]).map pT))) := (Fz.refl _ _).put _ (.inl gn.2.2)
  refine ⟨F.put _ (.inr gn.2.1), cb, dr.st f (by decide) fun _ _ => rfl, put_eq rfl, gn, fun i r' o' hi e => ?_⟩
  by_cases hi : i < as.length
  · rw [List.getElem?_append_left hi] at e
    exact (ok i r' o' (by omega) e).stP f (fun l z => ⟨by omega, by omega⟩) fun _ _ => rfl
  · have hz := (List.getElem?_eq_some_iff.mp e).1
    rw [List.length_append, List.length_singleton] at hz
    rw [List.getElem?_append_right (by omega), show i - as.length = 0 by omega] at e
    cases e
    rw [show i = as.length by omega]
    exact p.stP f (fun l z => ⟨by omega, by omega⟩) fun _ _ => rfl
end
theorem ws_len {s : RmS} {n : Nat} (k : SOk s n) (i : Nat) : (wsAt s i).length ≤ 64 := by
  unfold wsAt
  split
  · rename_i ws e
    exact (k.w ws (List.mem_of_getElem? e)).1
  · exact Nat.zero_le _
end Lw
end
section
set_option maxHeartbeats 4000000
namespace Lw
open PySem Mo
structure Wl (h0 h : Hm) (ld : Nat) (cs : List Int) (la n : Nat) : Prop where
  e : ∃ col as, Cx h0 h col ld cs (1000 + 30 * n) la as n 100 ∧ 2 ≤ as.length ∧ as.length ≤ 4
structure Wj (h0 h : Hm) (ld : Nat) (cs : List Int) (la n j r o : Nat) : Prop where
  e : ∃ col as, Cx h0 h col ld cs (1000 + 30 * n) la as n 100 ∧ 2 ≤ as.length ∧ as.length ≤ 4 ∧ as[j]? = some (r, o)
section
variable {E : XS} {P : Po} {h h0 : Hm} {ld la n j r o : Nat} {cs : List Int} {col : Nat → Nat} {as : List (Nat × Nat)}
theorem deed_w {a0 a2 a4 a8 a9 a10 a11 : Option D} {v : Int} (C : Cx h0 h col ld cs (1000 + 30 * n + 2) la as n 100) (l2 : 2 ≤ as.length) (l4 : as.length ≤ 4) (ej : as[j]? = some (r, o)) (hn : n < 40)
    (q : ∀ h' b10 b11, Wj h0 h' ld cs la (n + 1) j r o → P.nx [a0, some (.loc ld), a2, some (.loc la), a4, some (.int v), some (.loc r), some (.loc o), a8, a9, b10, b11] h') :
    EvS E ((sSeq (sAsg (eCall (callP 2 0 (fun ds _ => ds) f_any_deed) (aCons (eV 1) (aCons (eV 7) (aNil))) (aNil)) (gN 10))
  (sSeq (sAsg (eCall (callP 2 0 (fun ds _ => ds) f_due) (aCons (eV 7) (aCons (eV 10) (aNil))) (aNil)) (gN 11))
  (sSeq (sIf (tB (eOp opNe (eBi bRepr (aCons (eCall (callP 3 0 (fun ds _ => ds) f_done) (aCons (eV 6) (aCons (eV 10) (aCons (eOp opEq (eV 5) (eC (.int 2))) (aNil)))) (aNil)) (aNil))) (eBi bRepr (aCons (eV 11) (aNil))))) (sRet (eC (.bl false))) (sNext))
  (sExpr (eCall (callP 2 0 (fun ds _ => ds) f_noted) (aCons (eV 7) (aCons (eV 11) (aNil))) (aNil)))))) [a0, some (.loc ld), a2, some (.loc la), a4, some (.int v), some (.loc r), some (.loc o), a8, a9, a10, a11] h) P := by
  have hj := (List.getElem?_eq_some_iff.mp ej).1
  obtain ⟨ll, lp, lt, ps, s, lR, lT, lW, rs, wl, ra, oa, ok, hw, m0, m1⟩ := (C.o j r o (by omega) ej).e
  have C := C.pick l4 j
  have l1 := oa.l1
  have ko := ok.o
  have kt := ok.t
  repeat (walk_at "m1")
  refine any_deed_w C.dr (by omega) oa (by omega) (by omega) (by omega) fun x h3 hx f3 n3 dr => ?_
  have ra := ra.st (col' := col) f3 (by omega) fun _ _ => rfl
  have oa := oa.st (col' := col) f3 (by omega) fun _ _ => rfl
  have C := C.tk f3 dr
  clear f3 dr
  repeat (walk_at "m1")
  refine due_w oa hx (by omega) (by omega) fun h5 rs' col5 f5 ag5 oa => ?_
  have ra := ra.st f5 (by omega) ag5
  have C := C.st f5 (by refine ⟨by omega, by omega, by omega, fun i hi => by omega⟩) ag5
  clear f5
  repeat (walk_at "m1")
  refine done_w ra hx (by omega) (by omega) _ fun h4 ps' col4 f4 ag4 ra => ?_
  have oa := oa.st f4 (by omega) ag4
  have C := C.st f4 (by refine ⟨by omega, by omega, by omega, fun i hi => by omega⟩) ag4
  clear f4
  have t2 : ∀ w, (stepS s x).1 = .told (some w) → w.ok := fun w e => told_ok ok (by omega) hx e
  have rd := fun h => rs_dat (h := h) (x := (stepS s x).1) (fun e k => step_tr k) t2
  refine ev_repr (rd h4).1 (rd h4).2 ?_
  repeat (walk_at "m1")
  refine ev_repr (rd h4).1 (rd h4).2 ?_
  repeat (walk_at "m1")
  rw [hd]
  repeat (walk_at "m1")
  refine noted_w oa t2 (by omega) fun h6 f6 n6 oa => ?_
  have ra := ra.st (col' := col4) f6 (by omega) fun _ _ => rfl
  have C := C.st (col' := col4) f6 (by refine ⟨by omega, by omega, by omega, fun i hi => by omega⟩) fun _ _ => rfl
  clear f6
  refine q h6 _ _ ⟨col4, as, ?_, l2, l4, ej⟩
  have C := (C.up (Nat.le_succ n)).le (b' := 1000 + 30 * ((n + 1 : Nat) : Int)) (by omega)
  refine C.join ej ⟨_, _, _, _, _, _, _, _, _, _, ra, oa, ok.step (by omega) hx, Nat.le_trans (note_len _ _) (by omega), ?_, ?_⟩
  · rw [step_mo]; exact m0
  · rw [step_mo]; exact m1
end
end Lw
end
section
set_option maxHeartbeats 4000000
namespace Lw
open PySem Mo
section
variable {E : XS} {P : Po} {h h0 : Hm} {ld la n j r o : Nat} {cs : List Int} {col : Nat → Nat} {as : List (Nat × Nat)}
theorem owner_w {a0 a2 a4 a8 a9 a10 a11 : Option D} {v : Int} (C : Cx h0 h col ld cs (1000 + 30 * n + 2) la as n 100) (l2 : 2 ≤ as.length) (l4 : as.length ≤ 4) (ej : as[j]? = some (r, o)) (hn : n < 40)
    (q : ∀ h', Wj h0 h' ld cs la (n + 1) j r o → P.nx [a0, some (.loc ld), a2, some (.loc la), a4, some (.int v), some (.loc r), some (.loc o), a8, a9, a10, a11] h') :
    EvS E (sIf (tNot (tB (eCall (callP 3 0 (fun ds _ => ds) f_owner_right) (aCons (eV 1) (aCons (eV 6) (aCons (eV 7) (aNil)))) (aNil)))) (sRet (eC (.bl false))) (sNext) [a0, some (.loc ld), a2, some (.loc la), a4, some (.int v), some (.loc r), some (.loc o), a8, a9, a10, a11] h) P := by
  have hj := (List.getElem?_eq_some_iff.mp ej).1
  obtain ⟨ll, lp, lt, ps, s, lR, lT, lW, rs, wl, ra, oa, ok, hw, m0, m1⟩ := (C.o j r o (by omega) ej).e
  have C := C.pick l4 j
  have ko := ok.o
  repeat (walk_at "m1")
  refine owner_right_w C.dr (by omega) ra oa (by omega) (by omega) (by omega) (by omega) fun h1 ps' rs' ow f dr ra oa => ?_
  have C := C.stP (col' := col) f (fun l z => ⟨by omega, by omega, fun i hi => by omega⟩) (fun _ _ => rfl) dr
  clear f dr
  repeat (walk_at "m1")
  refine q h1 ⟨col, as, ?_, l2, l4, ej⟩
  have C := (C.up (Nat.le_succ n)).le (b' := 1000 + 30 * ((n + 1 : Nat) : Int)) (by omega)
  exact C.join ej ⟨_, _, _, _, _, _, _, _, _, _, ra, oa, (ok.ends ow).up (Nat.le_succ n), by omega, m0, m1⟩
theorem twins_w {a0 a2 a4 a8 a9 a10 a11 : Option D} {v : Int} (C : Cx h0 h col ld cs (1000 + 30 * n + 2) la as n 100) (l2 : 2 ≤ as.length) (l4 : as.length < 4) (ej : as[j]? = some (r, o)) (hn : n < 40)
    (q : ∀ h', Wj h0 h' ld cs la (n + 1) j r o → P.nx [a0, some (.loc ld), a2, some (.loc la), a4, some (.int v), some (.loc r), some (.loc o), a8, a9, a10, a11] h') :
    EvS E (sExpr (eBM "list" mAppend (eV 3) (aCons (eTup (aCons (eMeth (eV 6) q_rooms_twin [(0, callP 1 0 (fun ds _ => ds) f_Rooms_rooms_twin)] (aNil) (aNil)) (aCons (eCall (callP 1 0 (fun ds _ => ds) f_copied) (aCons (eV 7) (aNil)) (aNil)) (aNil)))) (aNil))) [a0, some (.loc ld), a2, some (.loc la), a4, some (.int v), some (.loc r), some (.loc o), a8, a9, a10, a11] h) P := by
  have hj := (List.getElem?_eq_some_iff.mp ej).1
  obtain ⟨ll, lp, lt, ps, s, lR, lT, lW, rs, wl, ra, oa, ok, hw, m0, m1⟩ := (C.o j r o (by omega) ej).e
  have ko := ok.o
  have wr := ra.r
  have gl := C.g
  have C := (C.up (Nat.le_succ n)).le (b' := 1000 + 30 * ((n + 1 : Nat) : Int)) (by omega)
  repeat (walk_at "m1")
  refine twin_w ra m0 m1 (by omega) (1 + 2 * as.length) fun h1 r' ll' lp' lt' ps' f1 _ rb => ?_
  have C := C.fz f1 (agE col h (1 + 2 * as.length))
  have oa := oa.stP (col' := colE col h (1 + 2 * as.length)) f1 (fun _ z => z.elim) (agE col h _)
  generalize colE col h (1 + 2 * as.length) = c1 at C oa rb
  clear f1 ra wr gl
  repeat (walk_at "m1")
  refine copied_w oa (by omega) (2 + 2 * as.length) fun h2 o' lR' lT' lW' rs' f2 _ ob => ?_
  have C := C.fz f2 (agE c1 h1 (2 + 2 * as.length))
  have rb := rb.stP (col' := colE c1 h1 (2 + 2 * as.length)) f2 (fun _ z => z.elim) (agE c1 h1 _)
  generalize colE c1 h1 (2 + 2 * as.length) = c2 at C ob rb
  clear f2 oa
  have gl := C.g
  repeat (walk_at "m1")
  have C := C.more l4 ⟨_, _, _, _, _, _, _, _, _, _, rb, ob, ok.up (Nat.le_succ n), by omega, m0, m1⟩
  rw [List.map_append] at C
  refine q _ ⟨c2, as ++ [(r', o')], C, ?_, ?_, ?_⟩
  · rw [List.length_append]
    omega
  · rw [List.length_append, List.length_singleton]
    omega
  · rw [List.getElem?_append_left hj]
    exact ej
end
end Lw
end
section
set_option maxHeartbeats 4000000
namespace Lw
open PySem Mo
section
variable {E : XS} {P : Po} {h h0 : Hm} {ld la : Nat} {cs : List Int}
theorem else_w {n j r o : Nat} {col : Nat → Nat} {as : List (Nat × Nat)} {a0 a2 a4 a8 a9 a10 a11 : Option D} {v : Int} (C : Cx h0 h col ld cs (1000 + 30 * n + 2) la as n 100) (l2 : 2 ≤ as.length) (l4 : as.length ≤ 4) (ej : as[j]? = some (r, o)) (hn : n < 40)
    (q : ∀ h' b10 b11, Wj h0 h' ld cs la (n + 1) j r o → P.nx [a0, some (.loc ld), a2, some (.loc la), a4, some (.int v), some (.loc r), some (.loc o), a8, a9, b10, b11] h') :
    EvS E (sIf (tB (eOp opEq (eV 5) (eC (.int 1)))) (sIf (tNot (tB (eCall (callP 3 0 (fun ds _ => ds) f_owner_right) (aCons (eV 1) (aCons (eV 6) (aCons (eV 7) (aNil)))) (aNil)))) (sRet (eC (.bl false))) (sNext)) (sSeq (sAsg (eCall (callP 2 0 (fun ds _ => ds) f_any_deed) (aCons (eV 1) (aCons (eV 7) (aNil))) (aNil)) (gN 10))
  (sSeq (sAsg (eCall (callP 2 0 (fun ds _ => ds) f_due) (aCons (eV 7) (aCons (eV 10) (aNil))) (aNil)) (gN 11))
  (sSeq (sIf (tB (eOp opNe (eBi bRepr (aCons (eCall (callP 3 0 (fun ds _ => ds) f_done) (aCons (eV 6) (aCons (eV 10) (aCons (eOp opEq (eV 5) (eC (.int 2))) (aNil)))) (aNil)) (aNil))) (eBi bRepr (aCons (eV 11) (aNil))))) (sRet (eC (.bl false))) (sNext))
  (sExpr (eCall (callP 2 0 (fun ds _ => ds) f_noted) (aCons (eV 7) (aCons (eV 11) (aNil))) (aNil)))))) [a0, some (.loc ld), a2, some (.loc la), a4, some (.int v), some (.loc r), some (.loc o), a8, a9, a10, a11] h) P := by
  refine es_if ?_
  repeat (walk_at "m1")
  refine sel_of (fun c => ?_) (fun c => ?_)
  · exact owner_w C l2 l4 ej hn fun h' W => q h' _ _ W
  · exact deed_w C l2 l4 ej hn q
theorem turn_w {i : Nat} {a0 a2 a4 a5 a6 a7 a8 a9 a10 a11 : Option D} (w : Wl h0 h ld cs la i) (hi : i < 40) (q : ∀ h' b5 b6 b7 b8 b9 b10 b11, Wl h0 h' ld cs la (i + 1) → P.nx [a0, some (.loc ld), a2, some (.loc la), a4, b5, b6, b7, b8, b9, b10, b11] h') : EvS E (l_law_2 [a0, some (.loc ld), a2, some (.loc la), a4, a5, a6, a7, a8, a9, a10, a11] h) P := by
  obtain ⟨col, as, C, l2, l4⟩ := w.e
  have gl := C.g
  have ll : (as.map pT).length = as.length := List.length_map ..
  unfold l_law_2
  repeat (walk_at "m1")
  rw [ll]
  refine take_w C.dr (by omega) (by omega) (by omega) fun v h1 v0 v1 f1 n1 dr => ?_
  have C := C.tk f1 dr
  clear f1 dr gl
  have gl := C.g
  have ej : ∃ (j r o : Nat), as[j]? = some (r, o) ∧ v = (j : Int) := by
    refine ⟨v.toNat, (as[v.toNat]'(by omega)).1, (as[v.toNat]'(by omega)).2, List.getElem?_eq_getElem _, by omega⟩
  obtain ⟨j, r, o, ej, rfl⟩ := ej
  refine ev_ixL (d := pT (r, o)) gl (by
    unfold nth
    rw [ixI_at (by omega) (by rw [ll]; omega)]
    show (as.map pT)[j]? = _
    rw [List.getElem?_map, ej]
    rfl) ?_
  repeat (walk_at "m1")
  refine take_w C.dr (by omega) (by omega) (by omega) fun v2 h2 v20 v21 f2 n2 dr => ?_
  have C := (C.tk f2 dr).le (b' := 1000 + 30 * i + 2) (by omega)
  clear f2 dr gl
  have gl := C.g
  refine es_seq ?_
  refine EvS.mono (P := ⟨fun σ h' => ∃ b10 b11, σ = [a0, some (.loc ld), a2, some (.loc la), a4, some (.int v2), some (.loc r), some (.loc o), a8, a9, b10, b11] ∧ Wj h0 h' ld cs la (i + 1) j r o, fun _ _ => False, fun _ _ => False, fun _ _ => False⟩) ?_ (fun σ h' => ?_) (fun _ _ z => z.elim) (fun _ _ z => z.elim) (fun _ _ z => z.elim)
  · refine es_if ?_
    repeat (walk_at "m1")
    refine sel_of (fun c => ?_) (fun c => ?_)
    · repeat (walk_at "m1")
      refine sel_of (fun c2 => ?_) (fun c2 => ?_)
      · have c2 := of_decide_eq_true c2
        rw [ll] at c2
        exact twins_w C l2 (by omega) ej hi fun h' W => ⟨_, _, rfl, W⟩
      · exact else_w C l2 l4 ej hi fun h' b10 b11 W => ⟨_, _, rfl, W⟩
    · exact else_w C l2 l4 ej hi fun h' b10 b11 W => ⟨_, _, rfl, W⟩
  · rintro ⟨b10, b11, rfl, W⟩
    obtain ⟨col, as, C, l2, l4, ej⟩ := W.e
    obtain ⟨ll', lp, lt, ps, s, lR, lT, lW, rs, wl, ra, oa, ok, hw, m0, m1⟩ := (C.o j r o (by
      have := (List.getElem?_eq_some_iff.mp ej).1
      omega) ej).e
    have ko := ok.o
    have gl := C.g
    repeat (walk_at "m1")
    refine spoilt_w ra (by omega) (ws_len ok) fun h3 f3 => ?_
    have C := C.fz f3 fun _ _ => rfl
    clear f3 ra oa gl
    have gl := C.g
    repeat (walk_at "m1")
    refine for_inv (fun n σ h' => ∃ b8 b9, σ = [a0, some (.loc ld), a2, some (.loc la), a4, some (.int v2), some (.loc r), some (.loc o), b8, b9, b10, b11] ∧ Cx h0 h' col ld cs (1000 + 30 * ((i + 1 : Nat) : Int)) la as (i + 1) 100) _ 0 _ _ ⟨_, _, rfl, C⟩ (fun i σ h' _ _ hI => ?_) (fun k d σ h' ed hI => ?_) (fun σ h' hI => ?_)
    · obtain ⟨b8, b9, rfl, C⟩ := hI
      exact decide_eq_true (seq_loc C.g)
    · obtain ⟨b8, b9, rfl, C⟩ := hI
      rw [List.getElem?_map] at ed
      obtain ⟨⟨r', o'⟩, e1, rfl⟩ := Option.map_eq_some_iff.mp ed
      obtain ⟨ll', lp, lt, ps, s, lR, lT, lW, rs, wl, ra, oa, ok, hw, m0, m1⟩ := (C.o k r' o' (by
        have := (List.getElem?_eq_some_iff.mp e1).1
        omega) e1).e
      repeat (walk_at "m1")
      unfold l_law_1
      repeat (walk_at "m1")
      refine alike_w ra oa ok (by omega) fun h4 f4 => ?_
      have C := C.fz f4 fun _ _ => rfl
      clear f4
      repeat (walk_at "m1")
      exact ⟨_, _, rfl, C⟩
    · obtain ⟨b8, b9, rfl, C⟩ := hI
      exact q h' _ _ _ _ _ _ _ ⟨col, as, C, l2, l4⟩
end
end Lw
end
section
set_option maxHeartbeats 4000000
namespace Lw
open PySem Mo
section
variable {E : XS} {P : Po} {h : Hm} {ld : Nat}
theorem draw_w {a0 a2 a3 a4 a5 a6 a7 a8 a9 a10 a11 : Option D} (w : DOk h ld) (q : ∀ h' b2 b3 b4 b5 b6 b7 b8 b9 b10 b11, Fz (fun l => l = ld) h h' → P.nx [a0, some (.loc ld), b2, b3, b4, b5, b6, b7, b8, b9, b10, b11] h') : EvS E (l_law_3 [a0, some (.loc ld), a2, a3, a4, a5, a6, a7, a8, a9, a10, a11] h) P := by
  obtain ⟨⟨cs, a, lf, e, c, k0, k1⟩, hl⟩ := w
  have dr : Dr (fun l => if l = ld then 0 else 9) 0 h ld cs 500 := ⟨⟨a, lf, e, k0, k1⟩, c, hl, if_pos rfl⟩
  have cb : ∀ l, l < h.n → l ≠ ld → (fun l => if l = ld then 0 else 9) l = 9 := fun l _ ne => if_neg ne
  have F : Fz (fun l => l = ld) h h := Fz.refl _ h
  generalize (fun l => if l = ld then 0 else 9) = col at dr cb
  clear e
  unfold l_law_3
  repeat (walk_at "m1")
  refine take_w dr (by omega) (by omega) (by omega) fun v h1 v0 v1 f1 n1 dr => ?_
  have F := F.col cb f1 (by omega)
  clear f1
  have eo : ∃ z : Int, nth [D.int 4, .int 9, .int 40] v = some (.int z) ∧ 0 ≤ z ∧ z ≤ 1000 := by
    obtain ⟨d, m, e⟩ := ix_some (xs := [D.int 4, .int 9, .int 40]) v0 v1
    simp only [List.mem_cons, List.not_mem_nil, or_false] at m
    rcases m with rfl | rfl | rfl
    · exact ⟨_, e, by decide, by decide⟩
    · exact ⟨_, e, by decide, by decide⟩
    · exact ⟨_, e, by decide, by decide⟩
  obtain ⟨z, eo, z0, z1⟩ := eo
  refine ev_ixK eo ?_
  have FT : True → Fz (fun l => l = ld) h h1 := fun _ => F
  clear F
  repeat (walk_at "m1")
  refine init_w col 1 z0 z1 fun h2 f2 ra => ?_
  have dr := dr.st (gro f2 col 8) (by omega) (agE col h1 1)
  have F' := (FT trivial).col cb (gro f2 col 8) (by omega)
  have cb := (FT trivial).cb4 cb (agE col h1 1)
  generalize colE col h1 1 = col at ra dr cb
  have FT : True → Fz (fun l => l = ld) h h2 := fun _ => F'
  clear F' f2
  repeat (walk_at "m1")
  refine begun_w col 2 fun h3 f3 oa => ?_
  have dr := dr.st (gro f3 col 8) (by omega) (agE col h2 2)
  have F' := (FT trivial).col cb (gro f3 col 8) (by omega)
  have cb := (FT trivial).cb4 cb (agE col h2 2)
  have ra := ra.st (gro f3 col 8) (by omega) (agE col h2 2)
  generalize colE col h2 2 = col at ra dr cb oa
  have FT : True → Fz (fun l => l = ld) h h3 := fun _ => F'
  clear F' f3
  repeat (walk_at "m1")
  refine init_w col 3 (mo := 9) (by decide) (by decide) fun h4 f4 rb => ?_
  have dr := dr.st (gro f4 col 8) (by omega) (agE col h3 3)
  have F' := (FT trivial).col cb (gro f4 col 8) (by omega)
  have cb := (FT trivial).cb4 cb (agE col h3 3)
  have ra := ra.st (gro f4 col 8) (by omega) (agE col h3 3)
  have oa := oa.st (gro f4 col 8) (by omega) (agE col h3 3)
  generalize colE col h3 3 = col at ra dr cb oa rb
  have FT : True → Fz (fun l => l = ld) h h4 := fun _ => F'
  clear F' f4
  repeat (walk_at "m1")
  refine begun_w col 4 fun h5 f5 ob => ?_
  have dr := dr.st (gro f5 col 8) (by omega) (agE col h4 4)
  have F' := (FT trivial).col cb (gro f5 col 8) (by omega)
  have cb := (FT trivial).cb4 cb (agE col h4 4)
  have ra := ra.st (gro f5 col 8) (by omega) (agE col h4 4)
  have oa := oa.st (gro f5 col 8) (by omega) (agE col h4 4)
  have rb := rb.st (gro f5 col 8) (by omega) (agE col h4 4)
  generalize colE col h4 4 = col at ra dr cb oa rb ob
  have FT : True → Fz (fun l => l = ld) h h5 := fun _ => F'
  clear F' f5
  repeat (walk_at "m1")
  have W : Wl h (h5.new (.lst [.tup [.loc h1.n, .loc (h2.n + 3)], .tup [.loc h3.n, .loc (h4.n + 3)]])) ld cs h5.n 0 := by
    have f6 : Fz (fun _ => False) h5 (h5.new (.lst [.tup [.loc h1.n, .loc (h2.n + 3)], .tup [.loc h3.n, .loc (h4.n + 3)]])) := (Fz.refl _ _).new _
    have ag := agE col h5 50
    have hn := (FT trivial).n
    refine ⟨colE col h5 50, [(h1.n, h2.n + 3), (h3.n, h4.n + 3)], ⟨(FT trivial).col cb (gro f6 col 8) (by omega), (FT trivial).cb4 cb ag, (dr.st (gro f6 col 8) (by omega) ag).le (by omega), new_eq rfl, ⟨by rw [new_n]; omega, hn, if_neg (by omega)⟩, fun i r o hi e => ?_⟩, Nat.le_refl _, by show 2 ≤ 4; decide⟩
    match i, e with
    | 0, e =>
      cases e
      exact ⟨_, _, _, _, _, _, _, _, _, _, ra.stP f6 (fun _ z => z.elim) ag, oa.stP f6 (fun _ z => z.elim) ag, s0_ok _, Nat.le_refl _, z0, z1⟩
    | 1, e =>
      cases e
      exact ⟨_, _, _, _, _, _, _, _, _, _, rb.stP f6 (fun _ z => z.elim) ag, ob.stP f6 (fun _ z => z.elim) ag, s0_ok _, Nat.le_refl _, by show (0 : Int) ≤ 9; decide, by show (9 : Int) ≤ 1000; decide⟩
    | n + 2, e => cases e
  clear ra oa rb ob dr cb FT
  generalize (h5.new (.lst [.tup [.loc h1.n, .loc (h2.n + 3)], .tup [.loc h3.n, .loc (h4.n + 3)]])) = h6 at W ⊢
  generalize h5.n = la at W ⊢
  refine for_inv (fun n σ h' => ∃ b4 b5 b6 b7 b8 b9 b10 b11, σ = [a0, some (.loc ld), some (.int z), some (.loc la), b4, b5, b6, b7, b8, b9, b10, b11] ∧ Wl h h' ld cs la n) _ 0 _ _ ⟨_, _, _, _, _, _, _, _, rfl, W⟩ (fun i σ h' _ _ _ => rfl) ?_ ?_
  · rintro i d σ h' ed ⟨b4, b5, b6, b7, b8, b9, b10, b11, rfl, W⟩
    obtain ⟨rfl, hi⟩ := ints_at ed
    have hi : i < 40 := hi
    rw [Nat.zero_add] at W ⊢
    rw [Int.zero_add]
    repeat (walk_at "m1")
    refine turn_w W hi fun h'' c5 c6 c7 c8 c9 c10 c11 W => ?_
    exact ⟨_, _, _, _, _, _, _, _, rfl, W⟩
  · rintro σ h' ⟨b4, b5, b6, b7, b8, b9, b10, b11, rfl, W⟩
    have W : Wl h h' ld cs la 40 := W
    obtain ⟨col, as, C, l2, l4⟩ := W.e
    repeat (walk_at "m1")
    refine equal_right_w (n := 40) (by decide) C.g (fun p hp => ?_) ?_
    · obtain ⟨i, hi, e⟩ := List.getElem_of_mem hp
      obtain ⟨r, o⟩ := p
      obtain ⟨ll, lp, lt, ps, s, lR, lT, lW, rs, wl, ra, oa, ok, hw, m0, m1⟩ := (C.o i r o (by omega) (by rw [List.getElem?_eq_getElem hi, e])).e
      exact ⟨col, _, _, s, wl, ⟨_, _, _, _, _, _, _, _, ra, oa⟩, ok, m0, m1⟩
    repeat (walk_at "m1")
    exact q h' _ _ _ _ _ _ _ _ _ _ C.F
end
theorem range_at {n i k : Nat} (e : (List.range n)[i]? = some k) : k = i ∧ i < n := by
  have hi := (List.getElem?_eq_some_iff.mp e).1
  rw [List.length_range] at hi
  rw [List.getElem?_range hi] at e
  cases e
  exact ⟨rfl, hi⟩
theorem law_true (ns : List Int) (hl : ns.length ≤ 63) : ∃ h', f_law [.kl (ns.map .int)] Hm.start = .ok (.bl true) h' := by
  have w : Ev (fun _ _ _ => False) (f_law [.kl (ns.map .int)] Hm.start) fun v _ => v = .bl true := by
    generalize Hm.start = h0
    refine u_law ?_
    unfold b_law
    repeat (walk_at "m1")
    refine near_right_w fun h1 _ => ?_
    repeat (walk_at "m1")
    refine draws_w hl fun h1 L n dk => ?_
    repeat (walk_at "m1")
    refine for_inv (fun i σ h' => ∃ a0 a1 a2 a3 a4 a5 a6 a7 a8 a9 a10 a11, σ = [a0, a1, a2, a3, a4, a5, a6, a7, a8, a9, a10, a11] ∧ ∀ j, i ≤ j → j < n → DOk h' (L + 1 + j)) _ 0 _ _ ⟨_, _, _, _, _, _, _, _, _, _, _, _, rfl, fun j _ hj => dk j hj⟩ (fun i σ h' _ _ _ => rfl) ?_ ?_
    · rintro i d σ h' ed ⟨a0, a1, a2, a3, a4, a5, a6, a7, a8, a9, a10, a11, rfl, dk⟩
      have ed : (rL L n)[i]? = some d := ed
      rw [List.getElem?_map] at ed
      obtain ⟨j, e1, rfl⟩ := Option.map_eq_some_iff.mp ed
      obtain ⟨rfl, hi⟩ := range_at e1
      repeat (walk_at "m1")
      refine draw_w (dk j (by omega) hi) fun h2 b2 b3 b4 b5 b6 b7 b8 b9 b10 b11 f => ?_
      exact ⟨_, _, _, _, _, _, _, _, _, _, _, _, rfl, fun j' h1 h2 => (dk j' (by omega) h2).fz f (by omega)⟩
    · rintro σ h' ⟨a0, a1, a2, a3, a4, a5, a6, a7, a8, a9, a10, a11, rfl, dk⟩
      repeat (walk_at "m1")
      rfl
  cases e : f_law [.kl (ns.map .int)] Hm.start with
  | ok v h =>
    rw [e] at w
    exact ⟨h, by rw [show v = .bl true from w]⟩
  | exc c fs h => rw [e] at w; exact w.elim
  | bad => rw [e] at w; exact w.elim
end Lw
end
section
theorem PySem.Challenge.cw_tagmill_k21_whole_histories_of_rooms_holds : PySem.Challenge.rw_tagmill_k21_whole_histories_of_rooms.Holds :=
  Lw.holds_of Lw.law_true
#print axioms PySem.Challenge.cw_tagmill_k21_whole_histories_of_rooms_holds
end
