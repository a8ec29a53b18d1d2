import PyProof.Rows.All
import Wide.All
import OpenK.AllK
import Wide.FinOn
import KE.KStateDown
import KE.DatumMoreOrd
import KE.DataAny
import KE.KDictKeyed
import HandS.ForMost
import HandS.ForExc
import HandS.Lambda
import HandS.CallSlots
import HandS.EndTab
import HandS.HotCalls
import HandS.Wide
import HandS.TupAny
import HandS.TupMul
import HandS.IsInst
import HandS.RaiseMore
import KE.SortData
import PyProof.ReprRoads
import HandS.Walk
import HandS.ExcOwn
import HandS.ExcCtx
import HandS.Defaults
import HandS.ExcIs
import HandS.HeadWalk
import HandS.HeadHook4
import HandS.Style
import HandS.Conv
import HandS.Text
import HandS.TupSets
import HandS.SetFor
import HandS.Zip
import KE.KDictZip
import HandS.ReCall
import KE.KDictCopyH
import KE.KDictSum
import HandS.DictComp
import HandS.Head0
import HandS.Head1
import HandS.Head2
import HandS.HeadEnd
import HandS.HeadHook1
import HandS.HeadHook2
import HandS.HeadHook3
import HandS.Words
import PySem.Challenge.RW_oncewhole_k09_states_and_products
set_option Elab.async false
set_option linter.all false
set_option maxRecDepth 100000
set_option maxHeartbeats 0
namespace Ow
open PySem PyProof.Rows PySem.Spec L2

abbrev D := PyData
/-! ### data are equal or not -/
mutual
def sameD : D → D → Bool
  | .none, .none => true
  | .bool a, .bool b => a == b
  | .int a, .int b => a == b
  | .str a, .str b => decide (a = b)
  | .list a, .list b => sameL a b
  | .tuple a, .tuple b => sameL a b
  | .dict a, .dict b => sameK a b
  | _, _ => false
def sameL : List D → List D → Bool
  | [], [] => true
  | x :: xs, y :: ys => sameD x y && sameL xs ys
  | _, _ => false
def sameK : List (D × D) → List (D × D) → Bool
  | [], [] => true
  | (x, u) :: xs, (y, v) :: ys => sameD x y && (sameD u v && sameK xs ys)
  | _, _ => false
end
mutual
theorem sameD_iff : ∀ a b : D, sameD a b = true ↔ a = b
  | .none, b => by cases b <;> simp [sameD]
  | .bool a, b => by cases b <;> simp [sameD]
  | .int a, b => by cases b <;> simp [sameD]
  | .str a, b => by cases b <;> simp [sameD]
  | .list a, b => by
    cases b <;> simp only [sameD, Bool.false_eq_true, reduceCtorEq, false_iff, not_false_eq_true]
    rw [sameL_iff]; simp
  | .tuple a, b => by
    cases b <;> simp only [sameD, Bool.false_eq_true, reduceCtorEq, false_iff, not_false_eq_true]
    rw [sameL_iff]; simp
  | .dict a, b => by
    cases b <;> simp only [sameD, Bool.false_eq_true, reduceCtorEq, false_iff, not_false_eq_true]
    rw [sameK_iff]; simp
theorem sameL_iff : ∀ a b : List D, sameL a b = true ↔ a = b
  | [], b => by cases b <;> simp [sameL]
  | x :: xs, b => by
    cases b with
    | nil => simp [sameL]
    | cons y ys => simp only [sameL, Bool.and_eq_true, sameD_iff x y, sameL_iff xs ys, List.cons.injEq]
theorem sameK_iff : ∀ a b : List (D × D), sameK a b = true ↔ a = b
  | [], b => by cases b <;> simp [sameK]
  | (x, u) :: xs, b => by
    cases b with
    | nil => simp [sameK]
    | cons y ys =>
      obtain ⟨y, v⟩ := y
      simp only [sameK, Bool.and_eq_true, sameD_iff x y, sameD_iff u v, sameK_iff xs ys, List.cons.injEq, Prod.mk.injEq, and_assoc]
end
instance : DecidableEq PyData := fun a b => decidable_of_iff _ (sameD_iff a b)

/-! ### what is at hand: slots, ends -/
inductive Slot where
  | non
  | val (d : D)
  | own (d : D)
  | ino (d : D)
  | exn
abbrev AE := List Slot

inductive Res (α : Type) where
  | ok (a : α) (ρ : AE)
  | exc (c : Str)
  | stuck
def Res.bind {α β : Type} (r : Res α) (f : α → AE → Res β) : Res β :=
  match r with
  | .ok a ρ => f a ρ
  | .exc c => .exc c
  | .stuck => .stuck
abbrev EvE := AE → Res (D × Bool)
abbrev EvO := AE → Res (D × Option Nat)
abbrev EvT := AE → Res Bool

/-- what may change: a list, a dict -/
def isMut : D → Bool
  | .list _ => true
  | .dict _ => true
  | _ => false

/-! ### names, constants, operands -/
def eVar (i : Nat) : EvE := fun ρ => match ρ[i]? with
  | some (.val d) => .ok (d, false) ρ
  | some (.own d) => .ok (d, false) (ρ.set i (.val d))
  | _ => .stuck
def eCon (d : D) : EvE := fun ρ => .ok (d, false) ρ
def oVar (i : Nat) : EvO := fun ρ => match ρ[i]? with
  | some (.val d) => .ok (d, none) ρ
  | some (.own d) => .ok (d, some i) ρ
  | some (.ino d) => .ok (d, some i) ρ
  | _ => .stuck
def oOf (f : EvE) : EvO := fun ρ => (f ρ).bind fun p ρ' => .ok (p.1, none) ρ'
/-- a borrowed thing is as it was -/
def still (b : Option Nat) (d : D) (ρ : AE) : Bool := match b with
  | none => true
  | some i => match ρ[i]? with
    | some (.own e) => decide (e = d)
    | some (.ino e) => decide (e = d)
    | some (.val e) => decide (e = d)
    | _ => false
def eBin (op : D → D → Option (D × Bool)) (fa fb : EvO) : EvE := fun ρ => (fa ρ).bind fun p ρ1 => (fb ρ1).bind fun q ρ2 =>
  if still p.2 p.1 ρ2 then (match op p.1 q.1 with | some r => .ok r ρ2 | none => .stuck) else .stuck
def eUn (op : D → Option (D × Bool)) (fa : EvO) : EvE := fun ρ => (fa ρ).bind fun p ρ1 => match op p.1 with | some r => .ok r ρ1 | none => .stuck
/-! ### tests -/
def tVal (f : EvE) : EvT := fun ρ => (f ρ).bind fun p ρ' => match p.1 with | .bool b => .ok b ρ' | _ => .stuck
def tAnd2 (f g : EvT) : EvT := fun ρ => (f ρ).bind fun b ρ' => if b then g ρ' else .ok false ρ'
def tOr2 (f g : EvT) : EvT := fun ρ => (f ρ).bind fun b ρ' => if b then .ok true ρ' else g ρ'
def tNot1 (f : EvT) : EvT := fun ρ => (f ρ).bind fun b ρ' => .ok (!b) ρ'
def eAnd2 (f g : EvE) : EvE := fun ρ => (f ρ).bind fun p ρ' => match p.1 with | .bool b => (if b then g ρ' else .ok (.bool false, false) ρ') | _ => .stuck
def eOr2 (f g : EvE) : EvE := fun ρ => (f ρ).bind fun p ρ' => match p.1 with | .bool b => (if b then .ok (.bool true, false) ρ' else g ρ') | _ => .stuck
def eNot1 (f : EvE) : EvE := fun ρ => (f ρ).bind fun p ρ' => match p.1 with | .bool b => .ok (.bool (!b), false) ρ' | _ => .stuck
def eIte (t : EvT) (f g : EvE) : EvE := fun ρ => (t ρ).bind fun b ρ' => if b then f ρ' else g ρ'
def eChain (op1 op2 : D → D → Option (D × Bool)) (fa fb fc : EvO) : EvE := fun ρ => (fa ρ).bind fun p ρ1 => (fb ρ1).bind fun q ρ2 =>
  if still p.2 p.1 ρ2 then (match op1 p.1 q.1 with
    | some (.bool true, _) => (fc ρ2).bind fun r ρ3 => if still q.2 q.1 ρ3 then (match op2 q.1 r.1 with | some z => .ok z ρ3 | none => .stuck) else .stuck
    | some (.bool false, _) => .ok (.bool false, false) ρ2
    | _ => .stuck) else .stuck
/-! ### several operands -/
def oList : List EvO → AE → Res (List (D × Option Nat))
  | [], ρ => .ok [] ρ
  | f :: fs, ρ => (f ρ).bind fun p ρ1 => (oList fs ρ1).bind fun ps ρ2 => .ok (p :: ps) ρ2
def stills : List (D × Option Nat) → AE → Bool
  | [], _ => true
  | p :: ps, ρ => still p.2 p.1 ρ && stills ps ρ
def eOps (op : List D → Option (D × Bool)) (fs : List EvO) : EvE := fun ρ => (oList fs ρ).bind fun ps ρ' =>
  if stills ps ρ' then (match op (ps.map (·.1)) with | some r => .ok r ρ' | none => .stuck) else .stuck
/-! ### values into a new tuple or list -/
def eList : List EvE → AE → Res (List D)
  | [], ρ => .ok [] ρ
  | f :: fs, ρ => (f ρ).bind fun p ρ1 => (eList fs ρ1).bind fun ps ρ2 => .ok (p.1 :: ps) ρ2
def eTup (fs : List EvE) : EvE := fun ρ => (eList fs ρ).bind fun ds ρ' => .ok (.tuple ds, false) ρ'
def eLst (fs : List EvE) : EvE := fun ρ => (eList fs ρ).bind fun ds ρ' => .ok (.list ds, true) ρ'

/-! ### how data lie in the heap -/
structure Ctx where
  prog : Program
  w : World
  K : PySem.W.Frag
  mg : Str → Option Value
  base : Heap
  N : List Str
  F0 : Addr → Prop
  H0 : Hp
  ino : Nat → Option Addr
  T : List (Addr × Str)
  cls : Str → Value
  gb : Bool
  hot : Bool
  xa : Option Addr

/-- a list that nobody changes any more -/
def LstR (K : PySem.W.Frag) (F : Addr → Prop) (H : Hp) (a : Addr) (xs : List V) : Prop :=
  (F a ∧ H a = some (.lst xs)) ∨ (∃ o, H a = some (.frz o (.lst xs))) ∨
    ∃ (ob : Obj) (us : Array Value) (m : Nat), K.lookup a = some ob ∧ ob.cls = .type "list" ∧ ob.dict = none ∧ ob.data = .seq us m ∧ us.size ≤ sizeLine ∧ Vals xs us.toList
/-- a dict: its entries, the keys' hashes -/
def dctO (a : Addr) (es : List (V × Int × V)) : HO := .ext fun h => (a == sysModules) = false ∧ ∃ (o : Obj) (ents : Array DictEntry) (ep : Nat), h.get? a = some o ∧ o.ExactDict ∧ o.data = .dict ents ep ∧
  Paired (fun (p : V × Int × V) (e : DictEntry) => RelV p.1 e.key ∧ e.hash = p.2.1 ∧ RelV p.2.2 e.val) es ents.toList
mutual
/-- the key's hash -/
def hashD (w : World) : D → NestedKey
  | .none => .none
  | .bool b => .num (if b then 1 else 0)
  | .int i => .num i
  | .str x => .text x
  | .tuple ds => .tup (hashDs w ds)
  | .list _ => .none
  | .dict _ => .none
def hashDs (w : World) : List D → List NestedKey
  | [] => []
  | d :: ds => hashD w d :: hashDs w ds
end
mutual
def RepV (P : Program) (w : World) (K : PySem.W.Frag) (F : Addr → Prop) (H : Hp) : D → V → Prop
  | .none, v => v = .non
  | .bool b, v => v = .bl b
  | .int i, v => v = .int i
  | .str x, v => v = .str x
  | .list ds, v => ∃ a xs, v = .ref a ∧ LstR K F H a xs ∧ xs.length ≤ sizeLine ∧ RepL P w K F H ds xs
  | .tuple ds, v => ∃ a xs, v = .ref a ∧ SqT K H a xs ∧ xs.length ≤ sizeLine ∧ RepL P w K F H ds xs
  | .dict kvs, v => ∃ a es, v = .ref a ∧ F a ∧ H a = some (dctO a es) ∧ RepK P w K F H kvs es
def RepL (P : Program) (w : World) (K : PySem.W.Frag) (F : Addr → Prop) (H : Hp) : List D → List V → Prop
  | [], xs => xs = []
  | d :: ds, xs => ∃ v vs, xs = v :: vs ∧ RepV P w K F H d v ∧ RepL P w K F H ds vs
def RepK (P : Program) (w : World) (K : PySem.W.Frag) (F : Addr → Prop) (H : Hp) : List (D × D) → List (V × Int × V) → Prop
  | [], xs => xs = []
  | (k, d) :: ds, xs => ∃ u v vs, xs = (u, (nestedKind P w).hash (hashD w k), v) :: vs ∧ RepV P w K F H k u ∧ RepV P w K F H d v ∧ RepK P w K F H ds vs
end
end Ow

namespace Ow
open PySem PyProof.Rows PySem.Spec L2 LamX

section
variable {P : Program} {w : World} {K : PySem.W.Frag} {F F' F'' : Addr → Prop} {H H' H'' : Hp}
/-- what was frozen stays as it is -/
structure Fk (F : Addr → Prop) (H : Hp) (F' : Addr → Prop) (H' : Hp) : Prop where
  fm : ∀ a, F a → F' a
  fk : ∀ a, F a → H' a = H a
  tk : ∀ a xs, H a = some (.tup xs) → H' a = some (.tup xs)
  zk : ∀ a o u, H a = some (.frz o u) → H' a = some (.frz o u)
theorem Fk.refl : Fk F H F H := ⟨fun _ h => h, fun _ _ => rfl, fun _ _ h => h, fun _ _ _ h => h⟩
theorem Fk.trans (a : Fk F H F' H') (b : Fk F' H' F'' H'') : Fk F H F'' H'' :=
  ⟨fun x h => b.fm x (a.fm x h), fun x h => (b.fk x (a.fm x h)).trans (a.fk x h), fun x xs h => b.tk x xs (a.tk x xs h), fun x o u h => b.zk x o u (a.zk x o u h)⟩
theorem Fk.grow (h : ∀ a, F a → F' a) : Fk F H F' H := ⟨h, fun _ _ => rfl, fun _ _ h => h, fun _ _ _ h => h⟩
/-- all that was tracked stays -/
def Ext (H1 H2 : Hp) : Prop := ∀ b u, H1 b = some u → H2 b = some u
/-- there, and no table -/
def NTo (H : Hp) (a : Addr) : Prop := ∃ o, H a = some o ∧ ∀ ps, o ≠ .tbl ps
theorem NTo.ne {a : Addr} (h : NTo H a) : H a ≠ none := by
  obtain ⟨o, e, _⟩ := h
  rw [e]; simp
theorem NTo.ext {a : Addr} (h : NTo H a) (e : Ext H H') : NTo H' a := let ⟨o, q, n⟩ := h; ⟨o, e a o q, n⟩
theorem Fk.ext (tr : ∀ a, F a → NTo H a) (e : Ext H H') : Fk F H F H' := ⟨fun _ h => h, fun a h => by
  obtain ⟨o, q, _⟩ := tr a h
  rw [q]; exact e a o q, fun a xs h => e a _ h, fun a o u h => e a _ h⟩
/-- .. the tables left out -/
def noT (H : Hp) : Hp := fun a => match H a with
  | some (.tbl _) => none
  | o => o
theorem noT_some {a : Addr} {o : HO} (h : noT H a = some o) : H a = some o ∧ ∀ ps, o ≠ .tbl ps := by
  unfold noT at h
  split at h
  · cases h
  · rename_i n
    exact ⟨h, fun ps e => n ps (by rw [h, e])⟩
theorem noT_of {a : Addr} {o : HO} (h : H a = some o) (n : ∀ ps, o ≠ .tbl ps) : noT H a = some o := by
  unfold noT
  split
  · rename_i ps e
    rw [h] at e
    exact absurd (Option.some.inj e) (n ps)
  · exact h
theorem noT_none {a : Addr} : noT H a = none ↔ ¬ NTo H a := by
  constructor
  · intro h ⟨o, e, n⟩
    rw [noT_of e n] at h; cases h
  · intro h
    cases q : noT H a with
    | none => rfl
    | some o => exact absurd ⟨o, noT_some q⟩ h
theorem Ext.upd {p : Addr} {o : HO} (h : H p = none) : Ext H (upd H p o) := fun a u e => by
  rw [upd_ne (ne_of_none e h)]; exact e
theorem Ext.trans (a : Ext H H') (b : Ext H' H'') : Ext H H'' := fun x o h => b x o (a x o h)
theorem Ext.refl : Ext H H := fun _ _ h => h

theorem LstR.mono {a : Addr} {xs : List V} (k : Fk F H F' H') (h : LstR K F H a xs) : LstR K F' H' a xs := by
  rcases h with ⟨h1, h2⟩ | ⟨o, h⟩ | h
  · exact .inl ⟨k.fm a h1, (k.fk a h1).trans h2⟩
  · exact .inr (.inl ⟨o, k.zk a o _ h⟩)
  · exact .inr (.inr h)
theorem LstR.sq {a : Addr} {xs : List V} (h : LstR K F H a xs) : SqL K H a xs := by
  rcases h with ⟨_, h2⟩ | ⟨o, h⟩ | h
  · exact .inl (.inl h2)
  · exact .inl (.inr ⟨o, h⟩)
  · exact .inr h
theorem SqT.mono {a : Addr} {xs : List V} (k : Fk F H F' H') (h : SqT K H a xs) : SqT K H' a xs := by
  rcases h with (h | ⟨o, h⟩) | h
  · exact .inl (.inl (k.tk a xs h))
  · exact .inl (.inr ⟨o, k.zk a o _ h⟩)
  · exact .inr h
mutual
theorem RepV.mono (k : Fk F H F' H') : ∀ (d : D) (v : V), RepV P w K F H d v → RepV P w K F' H' d v
  | .none, v, h => by simpa only [RepV] using h
  | .bool b, v, h => by simpa only [RepV] using h
  | .int i, v, h => by simpa only [RepV] using h
  | .str x, v, h => by simpa only [RepV] using h
  | .list ds, v, h => by
    simp only [RepV] at h ⊢
    obtain ⟨a, xs, e, l, z, r⟩ := h
    exact ⟨a, xs, e, l.mono k, z, RepL.mono k ds xs r⟩
  | .tuple ds, v, h => by
    simp only [RepV] at h ⊢
    obtain ⟨a, xs, e, l, z, r⟩ := h
    exact ⟨a, xs, e, SqT.mono k l, z, RepL.mono k ds xs r⟩
  | .dict kvs, v, h => by
    simp only [RepV] at h ⊢
    obtain ⟨a, es, e, f, l, r⟩ := h
    exact ⟨a, es, e, k.fm a f, (k.fk a f).trans l, RepK.mono k kvs es r⟩
theorem RepL.mono (k : Fk F H F' H') : ∀ (ds : List D) (vs : List V), RepL P w K F H ds vs → RepL P w K F' H' ds vs
  | [], vs, h => by simpa only [RepL] using h
  | d :: ds, vs, h => by
    simp only [RepL] at h ⊢
    obtain ⟨v, vs', e, r1, r2⟩ := h
    exact ⟨v, vs', e, RepV.mono k d v r1, RepL.mono k ds vs' r2⟩
theorem RepK.mono (k : Fk F H F' H') : ∀ (ds : List (D × D)) (vs : List (V × Int × V)), RepK P w K F H ds vs → RepK P w K F' H' ds vs
  | [], vs, h => by simpa only [RepK] using h
  | (d, e) :: ds, vs, h => by
    simp only [RepK] at h ⊢
    obtain ⟨u, v, vs', e1, r1, r2, r3⟩ := h
    exact ⟨u, v, vs', e1, RepV.mono k d u r1, RepV.mono k e v r2, RepK.mono k ds vs' r3⟩
end
theorem RepL.nil : RepL P w K F H [] [] := by simp only [RepL]
theorem RepL.cons {d : D} {ds : List D} {v : V} {vs : List V} (h : RepV P w K F H d v) (t : RepL P w K F H ds vs) : RepL P w K F H (d :: ds) (v :: vs) := by
  simp only [RepL]; exact ⟨v, vs, rfl, h, t⟩
theorem RepL.length : ∀ {ds : List D} {vs : List V}, RepL P w K F H ds vs → ds.length = vs.length
  | [], vs, h => by simp only [RepL] at h; subst h; rfl
  | d :: ds, vs, h => by
    simp only [RepL] at h
    obtain ⟨v, vs', e, _, r⟩ := h
    subst e
    rw [List.length_cons, List.length_cons, RepL.length r]
theorem RepL.append : ∀ {ds es : List D} {vs us : List V}, RepL P w K F H ds vs → RepL P w K F H es us → RepL P w K F H (ds ++ es) (vs ++ us)
  | [], es, vs, us, h, g => by simp only [RepL] at h; subst h; exact g
  | d :: ds, es, vs, us, h, g => by
    simp only [RepL] at h
    obtain ⟨v, vs', e, r1, r⟩ := h
    subst e
    exact RepL.cons r1 (RepL.append r g)
theorem RepL.get : ∀ {ds : List D} {vs : List V} {i : Nat} {d : D}, RepL P w K F H ds vs → ds[i]? = some d → ∃ v, vs[i]? = some v ∧ RepV P w K F H d v
  | [], vs, i, d, h, e => by simp at e
  | d' :: ds, vs, i, d, h, e => by
    simp only [RepL] at h
    obtain ⟨v, vs', e1, r1, r⟩ := h
    subst e1
    cases i with
    | zero => simp at e; subst e; exact ⟨v, by simp, r1⟩
    | succ i => obtain ⟨u, e2, r2⟩ := RepL.get (i := i) (d := d) r (by simpa using e); exact ⟨u, by simpa using e2, r2⟩
theorem RepL.take : ∀ {ds : List D} {vs : List V} (n : Nat), RepL P w K F H ds vs → RepL P w K F H (ds.take n) (vs.take n)
  | [], vs, n, h => by simp only [RepL] at h; subst h; simp only [List.take_nil]; exact RepL.nil
  | d :: ds, vs, 0, h => by simp only [List.take_zero]; exact RepL.nil
  | d :: ds, vs, n + 1, h => by
    simp only [RepL] at h
    obtain ⟨v, vs', e1, r1, r⟩ := h
    subst e1
    simp only [List.take_succ_cons]; exact RepL.cons r1 (RepL.take n r)
theorem RepL.drop : ∀ {ds : List D} {vs : List V} (n : Nat), RepL P w K F H ds vs → RepL P w K F H (ds.drop n) (vs.drop n)
  | [], vs, n, h => by simp only [RepL] at h; subst h; simp only [List.drop_nil]; exact RepL.nil
  | d :: ds, vs, 0, h => by simp only [List.drop_zero]; exact h
  | d :: ds, vs, n + 1, h => by
    simp only [RepL] at h
    obtain ⟨v, vs', e1, r1, r⟩ := h
    subst e1
    simp only [List.drop_succ_cons]; exact RepL.drop n r
theorem RepL.set : ∀ {ds : List D} {vs : List V} (n : Nat) {d : D} {v : V}, RepL P w K F H ds vs → RepV P w K F H d v → RepL P w K F H (ds.set n d) (vs.set n v)
  | [], vs, n, d, v, h, g => by simp only [RepL] at h; subst h; simp only [List.set_nil]; exact RepL.nil
  | d' :: ds, vs, 0, d, v, h, g => by
    simp only [RepL] at h
    obtain ⟨v', vs', e1, r1, r⟩ := h
    subst e1
    simp only [List.set_cons_zero]; exact RepL.cons g r
  | d' :: ds, vs, n + 1, d, v, h, g => by
    simp only [RepL] at h
    obtain ⟨v', vs', e1, r1, r⟩ := h
    subst e1
    simp only [List.set_cons_succ]; exact RepL.cons r1 (RepL.set n r g)
end

abbrev Ctx.RV (Γ : Ctx) (F : Addr → Prop) (H : Hp) (d : D) (v : V) : Prop := RepV Γ.prog Γ.w Γ.K F H d v
abbrev Ctx.RL (Γ : Ctx) (F : Addr → Prop) (H : Hp) (d : List D) (v : List V) : Prop := RepL Γ.prog Γ.w Γ.K F H d v
abbrev Ctx.RK (Γ : Ctx) (F : Addr → Prop) (H : Hp) (d : List (D × D)) (v : List (V × Int × V)) : Prop := RepK Γ.prog Γ.w Γ.K F H d v
/-- what may be changed, at a -/
def Top (Γ : Ctx) (F : Addr → Prop) (H : Hp) (d : D) (a : Addr) : Prop := match d with
  | .list ds => ∃ xs, H a = some (.lst xs) ∧ xs.length ≤ sizeLine ∧ Γ.RL F H ds xs
  | .dict kvs => ∃ es, H a = some (dctO a es) ∧ Γ.RK F H kvs es
  | _ => False
/-- what is read, now -/
def RepR (Γ : Ctx) (F : Addr → Prop) (H : Hp) (d : D) (v : V) : Prop := match d with
  | .list ds => ∃ a xs, v = .ref a ∧ SqL Γ.K H a xs ∧ xs.length ≤ sizeLine ∧ Γ.RL F H ds xs
  | .dict kvs => ∃ a es, v = .ref a ∧ H a = some (dctO a es) ∧ Γ.RK F H kvs es
  | d => Γ.RV F H d v
section
variable {Γ : Ctx} {F F' F'' : Addr → Prop} {H H' H'' : Hp} {d : D} {v : V} {a : Addr}
theorem RepR.of (h : Γ.RV F H d v) : RepR Γ F H d v := by
  cases d with
  | list ds =>
    simp only [RepV] at h
    obtain ⟨a, xs, e, l, z, r⟩ := h
    exact ⟨a, xs, e, l.sq, z, r⟩
  | dict kvs =>
    simp only [RepV] at h
    obtain ⟨a, es, e, f, l, r⟩ := h
    exact ⟨a, es, e, l, r⟩
  | _ => exact h
theorem RepR.top (h : Top Γ F H d a) : RepR Γ F H d (.ref a) := by
  cases d with
  | list ds =>
    obtain ⟨xs, e, z, r⟩ := h
    exact ⟨a, xs, rfl, .of e, z, r⟩
  | dict kvs =>
    obtain ⟨es, e, r⟩ := h
    exact ⟨a, es, rfl, e, r⟩
  | _ => exact h.elim
theorem Top.mut (h : Top Γ F H d a) : isMut d = true := by
  cases d <;> first | rfl | exact h.elim
theorem Top.some (h : Top Γ F H d a) : NTo H a := by
  cases d with
  | list ds =>
    obtain ⟨xs, e, z, r⟩ := h
    exact ⟨_, e, fun _ e => HO.noConfusion e⟩
  | dict kvs =>
    obtain ⟨es, e, r⟩ := h
    exact ⟨_, e, fun _ e => HO.noConfusion e⟩
  | _ => exact h.elim
theorem Top.mono (k : Fk F H F' H') (e : H' a = H a) (h : Top Γ F H d a) : Top Γ F' H' d a := by
  cases d with
  | list ds =>
    obtain ⟨xs, q, z, r⟩ := h
    exact ⟨xs, e.trans q, z, RepL.mono k _ _ r⟩
  | dict kvs =>
    obtain ⟨es, q, r⟩ := h
    exact ⟨es, e.trans q, RepK.mono k _ _ r⟩
  | _ => exact h.elim
/-- frozen -/
theorem Top.rep (h : Top Γ F H d a) (f : F a) : Γ.RV F H d (.ref a) := by
  cases d with
  | list ds =>
    obtain ⟨xs, q, z, r⟩ := h
    simp only [RepV]
    exact ⟨a, xs, rfl, .inl ⟨f, q⟩, z, r⟩
  | dict kvs =>
    obtain ⟨es, q, r⟩ := h
    simp only [RepV]
    exact ⟨a, es, rfl, f, q, r⟩
  | _ => exact h.elim
end

/-! ### the slots -/
def OwnAt (σ : L2.St) (ρ : AE) (i : Nat) (a : Addr) : Prop := σ[i]? = some (some (.ref a)) ∧ ∃ d, ρ[i]? = some (.own d) ∨ ρ[i]? = some (.ino d)
structure RepS (Γ : Ctx) (F : Addr → Prop) (H : Hp) (σ : L2.St) (ρ : AE) : Prop where
  len : ρ.length = σ.length
  val : ∀ (i : Nat) d, ρ[i]? = some (.val d) → ∃ v, σ[i]? = some (some v) ∧ Γ.RV F H d v
  own : ∀ (i : Nat) d, ρ[i]? = some (.own d) → ∃ a, σ[i]? = some (some (.ref a)) ∧ ¬ F a ∧ Γ.H0 a = none ∧ Top Γ F H d a
  ino : ∀ (i : Nat) d, ρ[i]? = some (.ino d) → ∃ a, σ[i]? = some (some (.ref a)) ∧ ¬ F a ∧ Γ.ino i = some a ∧ Top Γ F H d a
  dis : ∀ (i j : Nat) a, OwnAt σ ρ i a → OwnAt σ ρ j a → i = j
  exn : ∀ i : Nat, ρ[i]? = some .exn → ∃ a, Γ.xa = some a ∧ σ[i]? = some (some (.ref a))
structure GInv (Γ : Ctx) (F : Addr → Prop) (H : Hp) : Prop where
  tr : ∀ a, F a → NTo H a
  fn : ∀ a, F a → Γ.F0 a ∨ Γ.H0 a = none
  f0 : ∀ a, Γ.F0 a → F a
  kp : ∀ a o, Γ.H0 a = some o → (∀ i, Γ.ino i ≠ some a) → (∀ ps, o ≠ .tbl ps) → H a = some o
  th : ∀ a, Γ.H0 a ≠ none → NTo H a
  io : ∀ i a, Γ.ino i = some a → Γ.H0 a ≠ none
  ni : ∀ i a, Γ.ino i = some a → ¬ F a
  tb : Tabs Γ.T H
section
variable {Γ : Ctx} {F F' F'' : Addr → Prop} {H H' H'' : Hp} {d : D} {v : V} {a : Addr} {σ : L2.St} {ρ : AE}
theorem RepS.exnA (S : RepS Γ F H σ ρ) {i : Nat} {s : Slot} (hs : s ≠ .exn) : ∀ j : Nat, (ρ.set i s)[j]? = some .exn → ∃ a, Γ.xa = some a ∧ σ[j]? = some (some (.ref a)) := fun j h => by
  by_cases hj : j = i
  · subst hj
    have hl := (List.getElem?_eq_some_iff.mp h).1
    rw [List.length_set] at hl
    rw [List.getElem?_set_self hl] at h
    exact absurd (Option.some.inj h) hs
  · rw [List.getElem?_set_ne (Ne.symm hj)] at h
    exact S.exn j h
theorem RepS.exnB (S : RepS Γ F H σ ρ) {i : Nat} {s : Slot} {v : Option V} (hs : s ≠ .exn) : ∀ j : Nat, (ρ.set i s)[j]? = some .exn → ∃ a, Γ.xa = some a ∧ (σ.set i v)[j]? = some (some (.ref a)) := fun j h => by
  by_cases hj : j = i
  · subst hj
    have hl := (List.getElem?_eq_some_iff.mp h).1
    rw [List.length_set] at hl
    rw [List.getElem?_set_self hl] at h
    exact absurd (Option.some.inj h) hs
  · rw [List.getElem?_set_ne (Ne.symm hj)] at h
    rw [List.getElem?_set_ne (Ne.symm hj)]
    exact S.exn j h
theorem RepS.at_ (S : RepS Γ F H σ ρ) {i : Nat} (o : OwnAt σ ρ i a) : ¬ F a ∧ NTo H a := by
  obtain ⟨e, d, h | h⟩ := o
  · obtain ⟨b, e', f, _, t⟩ := S.own i d h
    rw [e] at e'; cases e'
    exact ⟨f, t.some⟩
  · obtain ⟨b, e', f, _, t⟩ := S.ino i d h
    rw [e] at e'; cases e'
    exact ⟨f, t.some⟩
/-- the heap grew: nothing that the slots hold changed -/
theorem RepS.mono (S : RepS Γ F H σ ρ) (k : Fk F H F' H') (hk : ∀ i a, OwnAt σ ρ i a → H' a = H a ∧ ¬ F' a) : RepS Γ F' H' σ ρ where
  len := S.len
  val := fun i d h => let ⟨v, e, r⟩ := S.val i d h; ⟨v, e, r.mono k⟩
  own := fun i d h => by
    obtain ⟨a, e, f, z, t⟩ := S.own i d h
    obtain ⟨q1, q2⟩ := hk i a ⟨e, d, .inl h⟩
    exact ⟨a, e, q2, z, t.mono k q1⟩
  ino := fun i d h => by
    obtain ⟨a, e, f, z, t⟩ := S.ino i d h
    obtain ⟨q1, q2⟩ := hk i a ⟨e, d, .inr h⟩
    exact ⟨a, e, q2, z, t.mono k q1⟩
  dis := S.dis
  exn := S.exn
theorem RepS.ext (S : RepS Γ F H σ ρ) (tr : ∀ a, F a → NTo H a) (e : Ext H H') : RepS Γ F H' σ ρ := S.mono (Fk.ext tr e) fun i a o => by
  obtain ⟨q1, q2⟩ := S.at_ o
  obtain ⟨u, q, _⟩ := q2
  exact ⟨by rw [q]; exact e a u q, q1⟩
/-- a thing that no slot owns is frozen -/
theorem RepS.froze (S : RepS Γ F H σ ρ) {p : Addr} (hp : ∀ i, ¬ OwnAt σ ρ i p) : RepS Γ (fun b => F b ∨ b = p) H σ ρ := S.mono (Fk.grow fun _ h => .inl h) fun i a o => ⟨rfl, fun z => by
  rcases z with z | z
  · exact (S.at_ o).1 z
  · subst z; exact hp i o⟩
theorem GInv.ext (G : GInv Γ F H) (e : Ext H H') : GInv Γ F H' where
  tr := fun a f => (G.tr a f).ext e
  fn := G.fn
  f0 := G.f0
  kp := fun a o h1 h2 h3 => e a o (G.kp a o h1 h2 h3)
  th := fun a h => (G.th a h).ext e
  io := G.io
  ni := G.ni
  tb := G.tb.ext e
theorem GInv.froze (G : GInv Γ F H) {p : Addr} (hp : NTo H p) (h0 : Γ.H0 p = none) : GInv Γ (fun b => F b ∨ b = p) H where
  tr := fun a f => by
    rcases f with f | f
    · exact G.tr a f
    · subst f; exact hp
  fn := fun a f => by
    rcases f with f | f
    · exact G.fn a f
    · subst f; exact .inr h0
  f0 := fun a f => .inl (G.f0 a f)
  kp := G.kp
  th := G.th
  io := G.io
  ni := fun i a h f => f.elim (G.ni i a h) fun e => G.io i a h (by rw [e]; exact h0)
  tb := G.tb
/-- what may be written over -/
def Soft (p : Addr) (o : HO) : Prop := (∀ ps, o ≠ .tbl ps) ∧ (∀ q, o ≠ CodeO p q) ∧ (∀ xs, o ≠ .tup xs) ∧ ∀ u o', o ≠ .frz u o'
theorem soft_lst {p : Addr} {xs : List V} : Soft p (.lst xs) := ⟨fun _ e => HO.noConfusion e, fun _ e => HO.noConfusion e, fun _ e => HO.noConfusion e, fun _ _ e => HO.noConfusion e⟩
theorem tabs_put {T : List (Addr × Str)} {p : Addr} {o u : HO} (t : Tabs T H) (hp : H p = some o) (hs : Soft p o) : Tabs T (upd H p u) := fun q hq => by
  obtain ⟨ps, h1, h2, h3⟩ := t q hq
  have n1 : q.1 ≠ p := fun e => hs.1 ps (by rw [e, hp] at h1; exact Option.some.inj h1)
  refine ⟨ps, by rw [upd_ne n1]; exact h1, h2, fun pos cv hc => ?_⟩
  obtain ⟨ct, e1, e2⟩ := h3 pos cv hc
  refine ⟨ct, e1, ?_⟩
  have n2 : ct ≠ p := fun e => hs.2.1 q.2 (by rw [e, hp] at e2; exact Option.some.inj e2)
  rw [upd_ne n2]; exact e2
theorem Fk.put {p : Addr} {o u : HO} (hF : ¬ F p) (hp : H p = some o) (hs : Soft p o) : Fk F H F (upd H p u) := ⟨fun _ h => h, fun a f => upd_ne fun e => hF (e ▸ f), fun a xs h => by
  rw [upd_ne (fun e => hs.2.2.1 xs (by rw [e, hp] at h; exact Option.some.inj h))]; exact h, fun a x y h => by
  rw [upd_ne (fun e => hs.2.2.2 x y (by rw [e, hp] at h; exact Option.some.inj h))]; exact h⟩
theorem GInv.put (G : GInv Γ F H) {p : Addr} {o u : HO} (hF : ¬ F p) (h0 : Γ.H0 p = none ∨ ∃ i, Γ.ino i = some p) (hp : H p = some o) (hs : Soft p o) (hu : ∀ ps, u ≠ .tbl ps) : GInv Γ F (upd H p u) where
  tr := fun a f => by
    obtain ⟨v, e, n⟩ := G.tr a f
    exact ⟨v, by rw [upd_ne (fun (e : a = p) => hF (e ▸ f))]; exact e, n⟩
  fn := G.fn
  f0 := G.f0
  kp := fun a v h1 h2 h3 => by
    have n : a ≠ p := fun e => by
      subst e
      rcases h0 with h0 | ⟨i, h0⟩
      · rw [h0] at h1; cases h1
      · exact h2 i h0
    rw [upd_ne n]
    exact G.kp a v h1 h2 h3
  th := fun a h => by
    by_cases e : a = p
    · exact ⟨u, by rw [e]; exact upd_same, hu⟩
    · obtain ⟨v, q, n⟩ := G.th a h
      exact ⟨v, by rw [upd_ne e]; exact q, n⟩
  io := G.io
  ni := G.ni
  tb := tabs_put G.tb hp hs
theorem GInv.fresh (G : GInv Γ F H) {p : Addr} (hp : H p = none) : ¬ F p ∧ Γ.H0 p = none := by
  refine ⟨fun f => (G.tr p f).ne hp, ?_⟩
  cases q : Γ.H0 p with
  | none => rfl
  | some o => exact absurd hp (G.th p (by rw [q]; simp)).ne
end

/-! ### outcomes -/
def Out (Γ : Ctx) (W : WX) {α : Type} (r : Res α) (F : Addr → Prop) (H : Hp) (σ : L2.St) (k : α → AE → (Addr → Prop) → Hp → Prop) : Prop := match r with
  | .ok a ρ' => ∀ F' H', Fk F H F' H' → GInv Γ F' H' → RepS Γ F' H' σ ρ' → k a ρ' F' H'
  | .exc c => ∀ F' H', Fk F H F' H' → GInv Γ F' H' → W (Γ.cls c) none σ H'
  | .stuck => False
/-- a value as it is handed on -/
def ResOk (Γ : Ctx) (F : Addr → Prop) (H : Hp) (σ : L2.St) (ρ : AE) (p : D × Bool) (v : V) : Prop :=
  if (p.2 && isMut p.1) = true then ∃ a, v = .ref a ∧ ¬ F a ∧ Γ.H0 a = none ∧ (∀ i, ¬ OwnAt σ ρ i a) ∧ Top Γ F H p.1 a else Γ.RV F H p.1 v
def RepB (Γ : Ctx) (F : Addr → Prop) (H : Hp) (σ : L2.St) (p : D × Option Nat) (v : V) : Prop := match p.2 with
  | none => Γ.RV F H p.1 v
  | some i => σ[i]? = some (some v)
def tD (Γ : Ctx) (W : WX) (f : EvE) : TE := fun σ H Q => ∃ F ρ, GInv Γ F H ∧ RepS Γ F H σ ρ ∧ Out Γ W (f ρ) F H σ fun p ρ' F' H' => ∀ v, ResOk Γ F' H' σ ρ' p v → Q v H'
def tO (Γ : Ctx) (W : WX) (f : EvO) : TE := fun σ H Q => ∃ F ρ, GInv Γ F H ∧ RepS Γ F H σ ρ ∧ Out Γ W (f ρ) F H σ fun p ρ' F' H' => ∀ v, RepB Γ F' H' σ p v → still p.2 p.1 ρ' = true → Q v H'
def tT (Γ : Ctx) (W : WX) (f : EvT) : TT := fun σ H Q => ∃ F ρ, GInv Γ F H ∧ RepS Γ F H σ ρ ∧ Out Γ W (f ρ) F H σ fun b _ _ H' => Q b H'
section
variable {Γ : Ctx} {W : WX} {F F' F'' : Addr → Prop} {H H' H'' : Hp} {d : D} {v : V} {a : Addr} {σ : L2.St} {ρ : AE}
theorem Out.imp {α : Type} {r : Res α} {k k' : α → AE → (Addr → Prop) → Hp → Prop} (h : Out Γ W r F H σ k)
    (i : ∀ a ρ' F' H', Fk F H F' H' → GInv Γ F' H' → RepS Γ F' H' σ ρ' → k a ρ' F' H' → k' a ρ' F' H') : Out Γ W r F H σ k' := by
  cases r with
  | ok a ρ' => exact fun F' H' q1 q2 q3 => i a ρ' F' H' q1 q2 q3 (h F' H' q1 q2 q3)
  | exc c => exact h
  | stuck => exact h
theorem Out.fk {α : Type} {r : Res α} {k : α → AE → (Addr → Prop) → Hp → Prop} (h : Out Γ W r F H σ k) (q : Fk F H F' H') : Out Γ W r F' H' σ k := by
  cases r with
  | ok a ρ' => exact fun F'' H'' q1 q2 q3 => h F'' H'' (q.trans q1) q2 q3
  | exc c => exact fun F'' H'' q1 q2 => h F'' H'' (q.trans q1) q2
  | stuck => exact h
theorem Out.bind {α β : Type} {r : Res α} {f : α → AE → Res β} {k : β → AE → (Addr → Prop) → Hp → Prop} (h : Out Γ W (r.bind f) F H σ k) :
    Out Γ W r F H σ fun a ρ' F' H' => Out Γ W (f a ρ') F' H' σ k := by
  cases r with
  | ok a ρ' => exact fun F' H' q1 q2 q3 => Out.fk (r := f a ρ') h q1
  | exc c => exact h
  | stuck => exact h
/-- the slot still holds it: it may be read -/
theorem RepS.read (S : RepS Γ F H σ ρ) {p : D × Option Nat} (h : RepB Γ F H σ p v) (hs : still p.2 p.1 ρ = true) : RepR Γ F H p.1 v := by
  obtain ⟨d, b⟩ := p
  cases b with
  | none => exact RepR.of h
  | some i =>
    have h : σ[i]? = some (some v) := h
    simp only [still] at hs
    split at hs
    · rename_i e he
      have := of_decide_eq_true hs
      subst this
      obtain ⟨a, e', _, _, t⟩ := S.own i _ he
      rw [h] at e'; cases e'
      exact RepR.top t
    · rename_i e he
      have := of_decide_eq_true hs
      subst this
      obtain ⟨a, e', _, _, t⟩ := S.ino i _ he
      rw [h] at e'; cases e'
      exact RepR.top t
    · rename_i e he
      have := of_decide_eq_true hs
      subst this
      obtain ⟨u, e', r⟩ := S.val i _ he
      rw [h] at e'; cases e'
      exact RepR.of r
    · cases hs
theorem RepB.mono {p : D × Option Nat} (k : Fk F H F' H') (h : RepB Γ F H σ p v) : RepB Γ F' H' σ p v := by
  obtain ⟨d, b⟩ := p
  cases b with
  | none => exact RepV.mono k _ _ (show Γ.RV F H d v from h)
  | some i => exact h
/-- a value that is handed on is frozen -/
theorem ResOk.froze {p : D × Bool} (G : GInv Γ F H) (S : RepS Γ F H σ ρ) (h : ResOk Γ F H σ ρ p v) :
    ∃ F', Fk F H F' H ∧ GInv Γ F' H ∧ RepS Γ F' H σ ρ ∧ Γ.RV F' H p.1 v := by
  unfold ResOk at h
  split at h
  · obtain ⟨a, rfl, nf, h0, no, t⟩ := h
    have k : Fk F H (fun b => F b ∨ b = a) H := Fk.grow fun _ h => .inl h
    exact ⟨_, k, G.froze t.some h0, S.froze no, (t.mono k rfl).rep (.inr rfl)⟩
  · exact ⟨F, Fk.refl, G, S, h⟩
end
/-- a weaker wish -/
theorem pe_imp {X : Cx} {e : Expr} {t t' : TE} (h : PE X e t) (i : ∀ σ H Q, t' σ H Q → t σ H Q) : PE X e t' := ⟨fun pins s σ H Q I q => h.run pins s σ H Q I (i σ H Q q)⟩
theorem pt_imp {X : Cx} {e : Expr} {t t' : TT} (h : PT X e t) (i : ∀ σ H Q, t' σ H Q → t σ H Q) : PT X e t' := ⟨fun pins s σ H Q I q => h.run pins s σ H Q I (i σ H Q q)⟩
theorem pw_imp {X : Cx} {e : Expr} {t t' : TT} (h : PW X e t) (i : ∀ σ H Q, t' σ H Q → t σ H Q) : PW X e t' := ⟨fun wh pins s σ H Q I q => h.run wh pins s σ H Q I (i σ H Q q)⟩
theorem pa_imp {X : Cx} {e : List Expr} {t t' : TA} (h : PA X e t) (i : ∀ σ H Q, t' σ H Q → t σ H Q) : PA X e t' := ⟨fun pos pins s σ H Q I q => h.run pos pins s σ H Q I (i σ H Q q)⟩
theorem ps_imp {X : Cx} {e : Stmt} {t t' : TS} (h : PS X e t) (i : ∀ D σ H, t' D σ H → t D σ H) : PS X e t' := ⟨fun pins s σ H D I q => h.run pins s σ H D I (i D σ H q)⟩
theorem pss_imp {X : Cx} {e : List Stmt} {t t' : TS} (h : PSs X e t) (i : ∀ D σ H, t' D σ H → t D σ H) : PSs X e t' := ⟨fun pins s σ H D I q => h.run pins s σ H D I (i D σ H q)⟩
end Ow

namespace Ow
open PySem PyProof.Rows PySem.Spec L2 LamX

structure Gd (Γ : Ctx) (X : Cx) (sc : Scope) (st : Str → Bool) (k : Nat) : Prop where
  prog : X.prog = Γ.prog
  w : X.w = Γ.w
  K : X.K = Γ.K
  mg : X.mg = Γ.mg
  base : X.base = Γ.base
  N : X.N = Γ.N
  nd : Γ.N.Nodup
  scp : X.env.scope = sc
  calm : Γ.hot = false → X.calm = true
  room : L2H.RoomH k X.A
  hd : Γ.hot = false → X.A.handled = none
  gd : Γ.gb = true → X.A.guards = some []
  st : ∀ x, st x = true → L2.Loc sc x ∧ (X.fn x = true ∨ sc.names.lookup x = some .local)

theorem Gd.rm {Γ : Ctx} {X : Cx} {sc : Scope} {st : Str → Bool} {k : Nat} (g : Gd Γ X sc st k) (hh : Γ.hot = false) : Room k X.A := ⟨g.hd hh, g.room.dp, g.room.un⟩
section
variable {Γ : Ctx} {W : WX} {F F' F'' : Addr → Prop} {H H' H'' : Hp} {d : D} {v : V} {a : Addr} {σ : L2.St} {ρ : AE}
theorem get_set_ne {ρ : AE} {i j : Nat} {s : Slot} (h : j ≠ i) : (ρ.set i s)[j]? = ρ[j]? := List.getElem?_set_ne (Ne.symm h)
theorem get_set_same {ρ : AE} {i : Nat} {s t : Slot} (h : ρ[i]? = some t) : (ρ.set i s)[i]? = some s := List.getElem?_set_self (List.getElem?_eq_some_iff.mp h).1
theorem RepS.frz (S : RepS Γ F H σ ρ) {i : Nat} (h : ρ[i]? = some (.own d)) (e : σ[i]? = some (some (.ref a))) : RepS Γ (fun b => F b ∨ b = a) H σ (ρ.set i (.val d)) := by
  have oi : OwnAt σ ρ i a := ⟨e, d, .inl h⟩
  have kk : Fk F H (fun b => F b ∨ b = a) H := Fk.grow fun _ z => .inl z
  have old : ∀ j, j ≠ i → ∀ b, OwnAt σ ρ j b → ¬ (F b ∨ b = a) := fun j hj b o z => by
    rcases z with z | z
    · exact (S.at_ o).1 z
    · subst z; exact hj (S.dis j i _ o oi)
  have back : ∀ j b, OwnAt σ (ρ.set i (.val d)) j b → j ≠ i ∧ OwnAt σ ρ j b := fun j b ⟨e1, d1, o⟩ => by
    by_cases hj : j = i
    · subst hj
      rw [get_set_same h] at o
      rcases o with o | o <;> cases o
    · rw [get_set_ne hj] at o
      exact ⟨hj, e1, d1, o⟩
  refine ⟨by rw [List.length_set]; exact S.len, fun j d1 h1 => ?_, fun j d1 h1 => ?_, fun j d1 h1 => ?_, fun j l b o1 o2 => S.dis j l b (back j b o1).2 (back l b o2).2, S.exnA (fun e => Slot.noConfusion e)⟩
  · by_cases hj : j = i
    · subst hj
      rw [get_set_same h] at h1
      cases h1
      obtain ⟨b, e', _, _, t⟩ := S.own j d h
      rw [e] at e'; cases e'
      exact ⟨_, e, (t.mono kk rfl).rep (.inr rfl)⟩
    · rw [get_set_ne hj] at h1
      obtain ⟨v, e1, r⟩ := S.val j d1 h1
      exact ⟨v, e1, r.mono kk⟩
  · by_cases hj : j = i
    · subst hj
      rw [get_set_same h] at h1
      cases h1
    · rw [get_set_ne hj] at h1
      obtain ⟨b, e1, f, z, t⟩ := S.own j d1 h1
      exact ⟨b, e1, old j hj b ⟨e1, d1, .inl h1⟩, z, t.mono kk rfl⟩
  · by_cases hj : j = i
    · subst hj
      rw [get_set_same h] at h1
      cases h1
    · rw [get_set_ne hj] at h1
      obtain ⟨b, e1, f, z, t⟩ := S.ino j d1 h1
      exact ⟨b, e1, old j hj b ⟨e1, d1, .inr h1⟩, z, t.mono kk rfl⟩
theorem resOk_plain (h : Γ.RV F H d v) : ResOk Γ F H σ ρ (d, false) v := by
  unfold ResOk
  rw [if_neg (by simp)]
  exact h
theorem resOk_flat {b : Bool} (hm : isMut d = false) (h : Γ.RV F H d v) : ResOk Γ F H σ ρ (d, b) v := by
  unfold ResOk
  rw [if_neg (by simp [hm])]
  exact h

/-! ### a result that is only laid -/
def Alc (Γ : Ctx) (F : Addr → Prop) (H : Hp) (p : D × Bool) (v : V) (H' : Hp) : Prop :=
  Ext H H' ∧ if (p.2 && isMut p.1) = true then ∃ a, v = .ref a ∧ H a = none ∧ Top Γ F H' p.1 a else Γ.RV F H' p.1 v
theorem Alc.res {p : D × Bool} (A : Alc Γ F H p v H') (G : GInv Γ F H) (S : RepS Γ F H σ ρ) : Fk F H F H' ∧ GInv Γ F H' ∧ RepS Γ F H' σ ρ ∧ ResOk Γ F H' σ ρ p v := by
  obtain ⟨e, h⟩ := A
  refine ⟨Fk.ext G.tr e, G.ext e, S.ext G.tr e, ?_⟩
  unfold ResOk
  split
  · rename_i hc
    rw [if_pos hc] at h
    obtain ⟨a, rfl, n, t⟩ := h
    obtain ⟨f1, f2⟩ := G.fresh n
    exact ⟨a, rfl, f1, f2, fun i o => (S.at_ o).2.ne n, t⟩
  · rename_i hc
    rw [if_neg hc] at h
    exact h
theorem Alc.plain (h : Γ.RV F H d v) : Alc Γ F H (d, false) v H := ⟨Ext.refl, by rw [if_neg (by simp)]; exact h⟩
theorem Alc.flat {b : Bool} (hm : isMut d = false) (h : Γ.RV F H d v) : Alc Γ F H (d, b) v H := ⟨Ext.refl, by rw [if_neg (by simp [hm])]; exact h⟩
theorem Alc.newList {p : Addr} {ds : List D} {xs : List V} (tr : ∀ a, F a → NTo H a) (hp : H p = none) (hz : xs.length ≤ sizeLine) (h : Γ.RL F H ds xs) : Alc Γ F H (.list ds, true) (.ref p) (upd H p (.lst xs)) := by
  refine ⟨Ext.upd hp, ?_⟩
  rw [if_pos (by rfl)]
  exact ⟨p, rfl, hp, xs, upd_same, hz, RepL.mono (Fk.ext tr (Ext.upd hp)) _ _ h⟩
theorem Alc.newTup {p : Addr} {ds : List D} {xs : List V} {b : Bool} (tr : ∀ a, F a → NTo H a) (hp : H p = none) (hz : xs.length ≤ sizeLine) (h : Γ.RL F H ds xs) : Alc Γ F H (.tuple ds, b) (.ref p) (upd H p (.tup xs)) := by
  refine ⟨Ext.upd hp, ?_⟩
  rw [if_neg (by simp [isMut])]
  simp only [RepV]
  exact ⟨p, xs, rfl, .of upd_same, hz, RepL.mono (Fk.ext tr (Ext.upd hp)) _ _ h⟩
end

/-! ### what an operation on values must do -/
/-- two operands, read, and the operation on data gives p: so does the operation on values -/
def Op2 (Γ : Ctx) (op : D → D → Option (D × Bool)) (r : R2) : Prop := ∀ (F : Addr → Prop) (H : Hp) (x y : V) (d e : D) (p : D × Bool) (Q : VK), (∀ a, F a → NTo H a) → RepR Γ F H d x → RepR Γ F H e y → op d e = some p →
  (∀ v H', Alc Γ F H p v H' → Q v H') → r x y H Q
def Op1 (Γ : Ctx) (op : D → Option (D × Bool)) (r : V → Hp → VK → Prop) : Prop := ∀ (F : Addr → Prop) (H : Hp) (x : V) (d : D) (p : D × Bool) (Q : VK), (∀ a, F a → NTo H a) → RepR Γ F H d x → op d = some p →
  (∀ v H', Alc Γ F H p v H' → Q v H') → r x H Q
/-- operands, read -/
def RepRs (Γ : Ctx) (F : Addr → Prop) (H : Hp) : List D → List V → Prop
  | [], vs => vs = []
  | d :: ds, vs => ∃ v us, vs = v :: us ∧ RepR Γ F H d v ∧ RepRs Γ F H ds us
def OpN (Γ : Ctx) (op : List D → Option (D × Bool)) (r : List V → Hp → VK → Prop) : Prop := ∀ (F : Addr → Prop) (H : Hp) (xs : List V) (ds : List D) (p : D × Bool) (Q : VK), (∀ a, F a → NTo H a) → RepRs Γ F H ds xs → op ds = some p →
  (∀ v H', Alc Γ F H p v H' → Q v H') → r xs H Q
/-- o.m(..): the receiver apart -/
def OpM (Γ : Ctx) (op : List D → Option (D × Bool)) (T : String) (r : V → List V → Hp → VK → Prop) : Prop := ∀ (F : Addr → Prop) (H : Hp) (x : V) (xs : List V) (d : D) (ds : List D) (p : D × Bool) (Q : VK), (∀ a, F a → NTo H a) → RepR Γ F H d x → RepRs Γ F H ds xs → op (d :: ds) = some p →
  (∀ v H', Alc Γ F H p v H' → Q v H') → tyV Γ.K T x H ∧ r x xs H Q

section
variable {Γ : Ctx} {X : Cx} {sc : Scope} {st : Str → Bool} {k : Nat} {W : WX} {a b c e : Expr} {pos : Pos}
/-! ### names -/
theorem de_var {i : Nat} {x : Str} (g : Gd Γ X sc st k) (hN : Γ.N[i]? = some x) (hv : Vis sc x) (hd : (x == ("__debug__" : Str)) = false) (hcd : (x == ("__classdict__" : Str)) = false) : PE X (.Name x pos) (tD Γ W (eVar i)) := by
  refine pe_imp (pe_var (i := i) (by rw [g.N]; exact hN) (by rw [g.scp]; exact hv) hd hcd) fun σ H Q h => ?_
  obtain ⟨F, ρ, G, S, O⟩ := h
  simp only [eVar] at O
  split at O
  · rename_i d hd'
    obtain ⟨v, e, r⟩ := S.val i d hd'
    exact ⟨v, e, O F H Fk.refl G S v (resOk_plain r)⟩
  · rename_i d hd'
    obtain ⟨a, e, f, z, t⟩ := S.own i d hd'
    have k' : Fk F H (fun b => F b ∨ b = a) H := Fk.grow fun _ z => .inl z
    exact ⟨_, e, O _ H k' (G.froze t.some z) (S.frz hd' e) _ (resOk_plain ((t.mono k' rfl).rep (.inr rfl)))⟩
  · exact O.elim
theorem do_var {i : Nat} {x : Str} (g : Gd Γ X sc st k) (hN : Γ.N[i]? = some x) (hv : Vis sc x) (hd : (x == ("__debug__" : Str)) = false) (hcd : (x == ("__classdict__" : Str)) = false) : PE X (.Name x pos) (tO Γ W (oVar i)) := by
  refine pe_imp (pe_var (i := i) (by rw [g.N]; exact hN) (by rw [g.scp]; exact hv) hd hcd) fun σ H Q h => ?_
  obtain ⟨F, ρ, G, S, O⟩ := h
  simp only [oVar] at O
  split at O
  · rename_i d hd'
    obtain ⟨v, e, r⟩ := S.val i d hd'
    exact ⟨v, e, O F H Fk.refl G S v r rfl⟩
  · rename_i d hd'
    obtain ⟨a, e, f, z, t⟩ := S.own i d hd'
    exact ⟨_, e, O F H Fk.refl G S _ e (by simp only [still, hd']; simp)⟩
  · rename_i d hd'
    obtain ⟨a, e, f, z, t⟩ := S.ino i d hd'
    exact ⟨_, e, O F H Fk.refl G S _ e (by simp only [still, hd']; simp)⟩
  · exact O.elim
theorem do_of {f : EvE} (h : PE X e (tD Γ W f)) : PE X e (tO Γ W (oOf f)) := by
  refine pe_imp h fun σ H Q h => ?_
  obtain ⟨F, ρ, G, S, O⟩ := h
  refine ⟨F, ρ, G, S, (Out.bind O).imp fun p ρ' F' H' k' G' S' O' v r => ?_⟩
  obtain ⟨F2, k2, G2, S2, r2⟩ := r.froze G' S'
  exact O' F2 H' k2 G2 S2 v r2 rfl
/-! ### constants -/
theorem tC_of {u : V} {d : D} (hr : ∀ F H, Γ.RV F H d u) : ∀ σ H (Q : VK), tD Γ W (eCon d) σ H Q → tC u σ H Q := fun σ H Q ⟨F, ρ, G, S, O⟩ =>
  O F H Fk.refl G S u (resOk_plain (hr F H))
theorem de_int {i j} : PE X (.Constant (.int i) j pos) (tD Γ W (eCon (.int i))) := pe_imp pe_int (tC_of fun F H => by simp only [RepV])
theorem de_bool {i j} : PE X (.Constant (.bool i) j pos) (tD Γ W (eCon (.bool i))) := pe_imp pe_bl (tC_of fun F H => by simp only [RepV])
theorem de_none {j} : PE X (.Constant .none j pos) (tD Γ W (eCon .none)) := pe_imp pe_non (tC_of fun F H => by simp only [RepV])
theorem de_str {x j} : PE X (.Constant (.str x) j pos) (tD Γ W (eCon (.str x))) := pe_imp pe_str (tC_of fun F H => by simp only [RepV])
theorem de_glob {x : Str} {u : V} {val : Value} {d : D} (g : Gd Γ X sc st k) (hg : sc.names.lookup x = some .globalImplicit) (hm : Γ.mg x = some val) (r : RelV u val) (hr : ∀ F H, Γ.RV F H d u) (hd : (x == ("__debug__" : Str)) = false) : PE X (.Name x pos) (tD Γ W (eCon d)) :=
  pe_imp (pe_glob (by show X.env.scope.names.lookup x = _; rw [g.scp]; exact hg) (by rw [g.mg]; exact hm) r hd) (tC_of hr)
/-! ### two operands -/
theorem de_two {fa fb : EvO} {op : D → D → Option (D × Bool)} {r : R2} (hop : Op2 Γ op r) : ∀ σ H (Q : VK), tD Γ W (eBin op fa fb) σ H Q → tOp r (tO Γ W fa) (tO Γ W fb) σ H Q := fun σ H Q ⟨F, ρ, G, S, O⟩ => by
  refine ⟨F, ρ, G, S, (Out.bind O).imp fun p ρ1 F1 H1 k1 G1 S1 O1 x hx sx => ?_⟩
  refine ⟨F1, ρ1, G1, S1, (Out.bind O1).imp fun q ρ2 F2 H2 k2 G2 S2 O2 y hy sy => ?_⟩
  by_cases hs : still p.2 p.1 ρ2 = true
  · rw [if_pos hs] at O2
    cases ho : op p.1 q.1 with
    | none => rw [ho] at O2; exact O2.elim
    | some z =>
      rw [ho] at O2
      refine hop F2 H2 x y p.1 q.1 z Q G2.tr (S2.read (hx.mono k2) hs) (S2.read hy sy) ho fun v H' A => ?_
      obtain ⟨q1, q2, q3, q4⟩ := A.res G2 S2
      exact O2 F2 H' q1 q2 q3 v q4
  · rw [if_neg hs] at O2
    exact O2.elim
theorem de_one {fa : EvO} {op : D → Option (D × Bool)} {r : V → Hp → VK → Prop} (hop : Op1 Γ op r) : ∀ σ H (Q : VK), tD Γ W (eUn op fa) σ H Q → tUn r (tO Γ W fa) σ H Q := fun σ H Q ⟨F, ρ, G, S, O⟩ => by
  refine ⟨F, ρ, G, S, (Out.bind O).imp fun p ρ1 F1 H1 k1 G1 S1 O1 x hx sx => ?_⟩
  cases ho : op p.1 with
  | none => rw [ho] at O1; exact O1.elim
  | some z =>
    rw [ho] at O1
    refine hop F1 H1 x p.1 z Q G1.tr (S1.read hx sx) ho fun v H' A => ?_
    obtain ⟨q1, q2, q3, q4⟩ := A.res G1 S1
    exact O1 F1 H' q1 q2 q3 v q4
theorem de_binop {fa fb : EvO} {op : D → D → Option (D × Bool)} {r : R2} {o : Operator} (ho : OpR X (binaryOp o) r) (hop : Op2 Γ op r) (ha : PE X a (tO Γ W fa)) (hb : PE X b (tO Γ W fb)) : PE X (.BinOp a o b pos) (tD Γ W (eBin op fa fb)) :=
  pe_imp (pe_op ho ha hb) (de_two hop)
theorem de_unop {fa : EvO} {op : D → Option (D × Bool)} {r : V → Hp → VK → Prop} {o : UnaryOp} (ho : UnR X (unaryOp o) r) (hop : Op1 Γ op r) (ha : PE X a (tO Γ W fa)) : PE X (.UnaryOp o a pos) (tD Γ W (eUn op fa)) :=
  pe_imp (pe_un ho ha) (de_one hop)
theorem de_cmp {fa fb : EvO} {op : D → D → Option (D × Bool)} {r : R2} {o : CmpOp} (ho : OpR X (compareOp o) r) (hop : Op2 Γ op r) (ha : PE X a (tO Γ W fa)) (hb : PE X b (tO Γ W fb)) (hm : behindInMarks o b = false) : PE X (.Compare a [o] [b] pos) (tD Γ W (eBin op fa fb)) :=
  pe_imp (pe_cmpR ho ha hb hm) (de_two hop)
theorem de_ix {fa fb : EvO} {op : D → D → Option (D × Bool)} {r : R2} (ho : IxR X r) (hop : Op2 Γ op r) (ha : PE X a (tO Γ W fa)) (hb : PE X b (tO Γ W fb)) (hs : PlainIx b) : PE X (.Subscript a b pos) (tD Γ W (eBin op fa fb)) :=
  pe_imp (pe_ix ho ha hb hs) (de_two hop)
theorem chain_imp {fa fb fc : EvO} {op op' : D → D → Option (D × Bool)} {r r' : R2} (hop : Op2 Γ op r) (hop' : Op2 Γ op' r') : ∀ σ H (Q : VK), tD Γ W (eChain op op' fa fb fc) σ H Q → tChain r r' (tO Γ W fa) (tO Γ W fb) (tO Γ W fc) σ H Q := by
  intro σ H Q ⟨F, ρ, G, S, O⟩
  refine ⟨F, ρ, G, S, (Out.bind O).imp fun p ρ1 F1 H1 k1 G1 S1 O1 x hx sx => ?_⟩
  refine ⟨F1, ρ1, G1, S1, (Out.bind O1).imp fun q ρ2 F2 H2 k2 G2 S2 O2 y hy sy => ?_⟩
  by_cases hs : still p.2 p.1 ρ2 = true
  · rw [if_pos hs] at O2
    cases hop1 : op p.1 q.1 with
    | none => rw [hop1] at O2; exact O2.elim
    | some z =>
      rw [hop1] at O2
      refine hop F2 H2 x y p.1 q.1 z _ G2.tr (S2.read (hx.mono k2) hs) (S2.read hy sy) hop1 fun v H' A => ?_
      obtain ⟨zd, zb⟩ := z
      have A' := A
      obtain ⟨e3, h3⟩ := A'
      obtain ⟨q1, q2, q3, q4⟩ := A.res G2 S2
      cases zd with
      | bool t =>
        rw [if_neg (by simp [isMut])] at h3
        simp only [RepV] at h3
        subst h3
        refine ⟨t, rfl, ?_⟩
        cases t with
        | true =>
          rw [if_pos rfl]
          refine ⟨F2, ρ2, q2, q3, (Out.bind (Out.fk O2 q1)).imp fun s ρ3 F3 H3 k3 G3 S3 O3 u hu su => ?_⟩
          by_cases hs3 : still q.2 q.1 ρ3 = true
          · rw [if_pos hs3] at O3
            cases hop2 : op' q.1 s.1 with
            | none => rw [hop2] at O3; exact O3.elim
            | some z2 =>
              rw [hop2] at O3
              refine hop' F3 H3 y u q.1 s.1 z2 Q G3.tr (S3.read ((hy.mono q1).mono k3) hs3) (S3.read hu su) hop2 fun v H4 A4 => ?_
              obtain ⟨p1, p2, p3, p4⟩ := A4.res G3 S3
              exact O3 F3 H4 p1 p2 p3 v p4
          · rw [if_neg hs3] at O3
            exact O3.elim
        | false =>
          rw [if_neg (by simp)]
          exact O2 F2 H' q1 q2 q3 _ (resOk_plain (by simp only [RepV]))
      | _ => exact O2.elim
  · rw [if_neg hs] at O2
    exact O2.elim
theorem de_chain {fa fb fc : EvO} {op op' : D → D → Option (D × Bool)} {r r' : R2} {o o' : CmpOp} (ho : OpR X (compareOp o) r) (ho' : OpR X (compareOp o') r') (hop : Op2 Γ op r) (hop' : Op2 Γ op' r') (ha : PE X a (tO Γ W fa)) (hb : PE X b (tO Γ W fb)) (hc : PE X c (tO Γ W fc))
    (hm : lastMarks [o, o'] [b, c] = false) : PE X (.Compare a [o, o'] [b, c] pos) (tD Γ W (eChain op op' fa fb fc)) := pe_imp (pe_chain ho ho' ha hb hc hm) (chain_imp hop hop')
/-! ### tests -/
theorem dt_val {f : EvE} (h : PE X e (tD Γ W f)) (he : ∀ whole, isTrue e X.env whole = (do let v ← whole; standAt e.pos; holding [v] (truthy v))) : PT X e (tT Γ W (tVal f)) := by
  refine pt_imp (pt_val h he) fun σ H Q ⟨F, ρ, G, S, O⟩ => ?_
  refine ⟨F, ρ, G, S, (Out.bind O).imp fun p ρ1 F1 H1 k1 G1 S1 O1 x hx => ?_⟩
  obtain ⟨zd, zb⟩ := p
  cases zd with
  | bool t =>
    unfold ResOk at hx
    rw [if_neg (by simp [isMut])] at hx
    simp only [RepV] at hx
    exact ⟨t, hx, O1 F1 H1 Fk.refl G1 S1⟩
  | _ => exact O1.elim
theorem dt_bool {t : TE} {f : EvE} (h : PT X e (tTest t)) (i : ∀ σ H (Q : VK), tD Γ W f σ H Q → t σ H Q) : PT X e (tT Γ W (tVal f)) := by
  refine pt_imp h fun σ H Q ⟨F, ρ, G, S, O⟩ => i σ H _ ?_
  refine ⟨F, ρ, G, S, (Out.bind O).imp fun p ρ1 F1 H1 k1 G1 S1 O1 x hx => ?_⟩
  obtain ⟨zd, zb⟩ := p
  cases zd with
  | bool t =>
    unfold ResOk at hx
    rw [if_neg (by simp [isMut])] at hx
    simp only [RepV] at hx
    exact ⟨t, hx, O1 F1 H1 Fk.refl G1 S1⟩
  | _ => exact O1.elim
theorem dt_cmp {fa fb : EvO} {op : D → D → Option (D × Bool)} {r : R2} {o : CmpOp} (ho : OpR X (compareOp o) r) (hop : Op2 Γ op r) (ha : PE X a (tO Γ W fa)) (hb : PE X b (tO Γ W fb)) (hm : behindInMarks o b = false) : PT X (.Compare a [o] [b] pos) (tT Γ W (tVal (eBin op fa fb))) := dt_bool (pt_cmpR ho ha hb hm) (de_two hop)
theorem dt_chain {fa fb fc : EvO} {op op' : D → D → Option (D × Bool)} {r r' : R2} {o o' : CmpOp} (ho : OpR X (compareOp o) r) (ho' : OpR X (compareOp o') r') (hop : Op2 Γ op r) (hop' : Op2 Γ op' r') (ha : PE X a (tO Γ W fa)) (hb : PE X b (tO Γ W fb)) (hc : PE X c (tO Γ W fc)) (hm : lastMarks [o, o'] [b, c] = false) :
    PT X (.Compare a [o, o'] [b, c] pos) (tT Γ W (tVal (eChain op op' fa fb fc))) := dt_bool (pt_chain ho ho' ha hb hc hm) (chain_imp hop hop')
theorem dt_not {f : EvT} (h : PT X a (tT Γ W f)) : PT X (.UnaryOp .Not a pos) (tT Γ W (tNot1 f)) := by
  refine pt_imp (pt_not h) fun σ H Q ⟨F, ρ, G, S, O⟩ => ?_
  exact ⟨F, ρ, G, S, (Out.bind O).imp fun p ρ1 F1 H1 k1 G1 S1 O1 => O1 F1 H1 Fk.refl G1 S1⟩
theorem dw_and {rest : List Expr} {f g : EvT} (ha : PT X a (tT Γ W f)) (hb : PW X (.BoolOp .And (b :: rest) pos) (tT Γ W g)) : PW X (.BoolOp .And (a :: b :: rest) pos) (tT Γ W (tAnd2 f g)) := by
  refine pw_imp (pw_and ha hb) fun σ H Q ⟨F, ρ, G, S, O⟩ => ?_
  refine ⟨F, ρ, G, S, (Out.bind O).imp fun p ρ1 F1 H1 k1 G1 S1 O1 => ?_⟩
  cases p with
  | true => exact ⟨F1, ρ1, G1, S1, O1⟩
  | false => exact O1 F1 H1 Fk.refl G1 S1
theorem dw_or {rest : List Expr} {f g : EvT} (ha : PT X a (tT Γ W f)) (hb : PW X (.BoolOp .Or (b :: rest) pos) (tT Γ W g)) : PW X (.BoolOp .Or (a :: b :: rest) pos) (tT Γ W (tOr2 f g)) := by
  refine pw_imp (pw_or ha hb) fun σ H Q ⟨F, ρ, G, S, O⟩ => ?_
  refine ⟨F, ρ, G, S, (Out.bind O).imp fun p ρ1 F1 H1 k1 G1 S1 O1 => ?_⟩
  cases p with
  | false => exact ⟨F1, ρ1, G1, S1, O1⟩
  | true => exact O1 F1 H1 Fk.refl G1 S1
theorem de_and {rest : List Expr} {f g : EvE} (ha : PE X a (tD Γ W f)) (hb : PE X (.BoolOp .And (b :: rest) pos) (tD Γ W g)) : PE X (.BoolOp .And (a :: b :: rest) pos) (tD Γ W (eAnd2 f g)) := by
  refine pe_imp (pe_and ha hb) fun σ H Q ⟨F, ρ, G, S, O⟩ => ?_
  refine ⟨F, ρ, G, S, (Out.bind O).imp fun p ρ1 F1 H1 k1 G1 S1 O1 x hx => ?_⟩
  obtain ⟨zd, zb⟩ := p
  cases zd with
  | bool t =>
    unfold ResOk at hx
    rw [if_neg (by simp [isMut])] at hx
    simp only [RepV] at hx
    refine ⟨t, hx, ?_⟩
    cases t with
    | true => exact ⟨F1, ρ1, G1, S1, O1⟩
    | false => exact O1 F1 H1 Fk.refl G1 S1 _ (resOk_plain (by simp only [RepV]))
  | _ => exact O1.elim
theorem de_or {rest : List Expr} {f g : EvE} (ha : PE X a (tD Γ W f)) (hb : PE X (.BoolOp .Or (b :: rest) pos) (tD Γ W g)) : PE X (.BoolOp .Or (a :: b :: rest) pos) (tD Γ W (eOr2 f g)) := by
  refine pe_imp (pe_or ha hb) fun σ H Q ⟨F, ρ, G, S, O⟩ => ?_
  refine ⟨F, ρ, G, S, (Out.bind O).imp fun p ρ1 F1 H1 k1 G1 S1 O1 x hx => ?_⟩
  obtain ⟨zd, zb⟩ := p
  cases zd with
  | bool t =>
    unfold ResOk at hx
    rw [if_neg (by simp [isMut])] at hx
    simp only [RepV] at hx
    refine ⟨t, hx, ?_⟩
    cases t with
    | false => exact ⟨F1, ρ1, G1, S1, O1⟩
    | true => exact O1 F1 H1 Fk.refl G1 S1 _ (resOk_plain (by simp only [RepV]))
  | _ => exact O1.elim
theorem de_not {f : EvE} (ha : PE X a (tD Γ W f)) : PE X (.UnaryOp .Not a pos) (tD Γ W (eNot1 f)) := by
  refine pe_imp (pe_not ha) fun σ H Q ⟨F, ρ, G, S, O⟩ => ?_
  refine ⟨F, ρ, G, S, (Out.bind O).imp fun p ρ1 F1 H1 k1 G1 S1 O1 x hx => ?_⟩
  obtain ⟨zd, zb⟩ := p
  cases zd with
  | bool t =>
    unfold ResOk at hx
    rw [if_neg (by simp [isMut])] at hx
    simp only [RepV] at hx
    exact ⟨t, hx, O1 F1 H1 Fk.refl G1 S1 _ (resOk_plain (by simp only [RepV]))⟩
  | _ => exact O1.elim
theorem de_ite {t : EvT} {f g : EvE} (hc : PT X c (tT Γ W t)) (ha : PE X a (tD Γ W f)) (hb : PE X b (tD Γ W g)) : PE X (.IfExp c a b pos) (tD Γ W (eIte t f g)) := by
  refine pe_imp (pe_ifExp hc ha hb) fun σ H Q ⟨F, ρ, G, S, O⟩ => ?_
  refine ⟨F, ρ, G, S, (Out.bind O).imp fun p ρ1 F1 H1 k1 G1 S1 O1 => ?_⟩
  cases p with
  | true => exact ⟨F1, ρ1, G1, S1, O1⟩
  | false => exact ⟨F1, ρ1, G1, S1, O1⟩
/-! ### several -/
def tOs (Γ : Ctx) (W : WX) (fs : List EvO) : TA := fun σ H Q => ∃ F ρ, GInv Γ F H ∧ RepS Γ F H σ ρ ∧ Out Γ W (oList fs ρ) F H σ fun ps ρ' F' H' => ∀ vs, (stills ps ρ' = true → RepRs Γ F' H' (ps.map (·.1)) vs) → Q vs H'
def tEs (Γ : Ctx) (W : WX) (fs : List EvE) : TA := fun σ H Q => ∃ F ρ, GInv Γ F H ∧ RepS Γ F H σ ρ ∧ Out Γ W (eList fs ρ) F H σ fun ps ρ' F' H' => ∀ vs, Γ.RL F' H' ps vs → Q vs H'
theorem star1 {es : List Expr} {env : Env} (he : starEach (e :: es) env = (false, eval e env) :: starEach es env) : starEach (e :: es) env = (false, eval e env) :: starEach es env := he
theorem da_nil : PA X [] (tOs Γ W []) := pa_imp pa_nil fun σ H Q ⟨F, ρ, G, S, O⟩ => O F H Fk.refl G S [] fun _ => rfl
theorem da_cons {es : List Expr} {f : EvO} {fs : List EvO} (h : PE X e (tO Γ W f)) (hs : PA X es (tOs Γ W fs)) (hst : starEach (e :: es) X.env = (false, eval e X.env) :: starEach es X.env) : PA X (e :: es) (tOs Γ W (f :: fs)) := by
  refine pa_imp (pa_cons h hs hst) fun σ H Q ⟨F, ρ, G, S, O⟩ => ?_
  refine ⟨F, ρ, G, S, (Out.bind O).imp fun p ρ1 F1 H1 k1 G1 S1 O1 x hx sx => ?_⟩
  refine ⟨F1, ρ1, G1, S1, (Out.bind O1).imp fun ps ρ2 F2 H2 k2 G2 S2 O2 vs hvs => ?_⟩
  refine O2 F2 H2 Fk.refl G2 S2 (x :: vs) fun hst => ?_
  simp only [stills, Bool.and_eq_true] at hst
  exact ⟨x, vs, rfl, S2.read (hx.mono k2) hst.1, hvs hst.2⟩
theorem des_nil : PA X [] (tEs Γ W []) := pa_imp pa_nil fun σ H Q ⟨F, ρ, G, S, O⟩ => O F H Fk.refl G S [] RepL.nil
theorem des_cons {es : List Expr} {f : EvE} {fs : List EvE} (h : PE X e (tD Γ W f)) (hs : PA X es (tEs Γ W fs)) (hst : starEach (e :: es) X.env = (false, eval e X.env) :: starEach es X.env) : PA X (e :: es) (tEs Γ W (f :: fs)) := by
  refine pa_imp (pa_cons h hs hst) fun σ H Q ⟨F, ρ, G, S, O⟩ => ?_
  refine ⟨F, ρ, G, S, (Out.bind O).imp fun p ρ1 F1 H1 k1 G1 S1 O1 x hx => ?_⟩
  obtain ⟨F1', kk, G1', S1', r1⟩ := hx.froze G1 S1
  refine ⟨F1', ρ1, G1', S1', (Out.bind (Out.fk O1 kk)).imp fun ps ρ2 F2 H2 k2 G2 S2 O2 vs hvs => ?_⟩
  exact O2 F2 H2 Fk.refl G2 S2 (x :: vs) (RepL.cons (r1.mono k2) hvs)
theorem eList_length : ∀ {fs : List EvE} {ρ ρ' : AE} {ds : List D}, eList fs ρ = .ok ds ρ' → ds.length = fs.length
  | [], ρ, ρ', ds, h => by simp only [eList] at h; cases h; rfl
  | f :: fs, ρ, ρ', ds, h => by
    simp only [eList, Res.bind] at h
    split at h
    · split at h
      · rename_i h2
        cases h
        rw [List.length_cons, List.length_cons, eList_length h2]
      · cases h
      · cases h
    · cases h
    · cases h
theorem de_tup {es : List Expr} {x1 : Nat} {fs : List EvE} (h : PA X es (tEs Γ W fs)) (hz : fs.length ≤ sizeLine) : PE X (.Tuple es x1 pos) (tD Γ W (eTup fs)) := by
  refine pe_imp (pe_tup h) fun σ H Q ⟨F, ρ, G, S, O⟩ => ?_
  refine ⟨F, ρ, G, S, ?_⟩
  unfold eTup at O
  cases hl : eList fs ρ with
  | ok ds ρ' =>
    rw [hl] at O
    refine fun F1 H1 k1 G1 S1 vs hvs => ⟨?_, fun p hp => ?_⟩
    · rw [← hvs.length, eList_length hl]; exact hz
    · obtain ⟨q1, q2, q3, q4⟩ := (Alc.newTup (b := false) G1.tr hp (by rw [← hvs.length, eList_length hl]; exact hz) hvs).res G1 S1
      exact O F1 _ (k1.trans q1) q2 q3 _ q4
  | exc c => rw [hl] at O; exact O
  | stuck => rw [hl] at O; exact O
theorem de_lst {es : List Expr} {fs : List EvE} (h : PA X es (tEs Γ W fs)) (hz : fs.length ≤ sizeLine) : PE X (.List es pos) (tD Γ W (eLst fs)) := by
  refine pe_imp (pe_lst h) fun σ H Q ⟨F, ρ, G, S, O⟩ => ?_
  refine ⟨F, ρ, G, S, ?_⟩
  unfold eLst at O
  cases hl : eList fs ρ with
  | ok ds ρ' =>
    rw [hl] at O
    refine fun F1 H1 k1 G1 S1 vs hvs => ⟨?_, fun p hp => ?_⟩
    · rw [← hvs.length, eList_length hl]; exact hz
    · obtain ⟨q1, q2, q3, q4⟩ := (Alc.newList G1.tr hp (by rw [← hvs.length, eList_length hl]; exact hz) hvs).res G1 S1
      exact O F1 _ (k1.trans q1) q2 q3 _ q4
  | exc c => rw [hl] at O; exact O
  | stuck => rw [hl] at O; exact O
theorem de_ops {t : List V → Hp → VK → Prop} {fs : List EvO} {op : List D → Option (D × Bool)} (hop : OpN Γ op t) : ∀ σ H (Q : VK), tD Γ W (eOps op fs) σ H Q → (tOs Γ W fs) σ H fun vs H1 => t vs H1 Q := fun σ H Q ⟨F, ρ, G, S, O⟩ => by
  refine ⟨F, ρ, G, S, (Out.bind O).imp fun ps ρ1 F1 H1 k1 G1 S1 O1 vs hvs => ?_⟩
  by_cases hs : stills ps ρ1 = true
  · rw [if_pos hs] at O1
    cases ho : op (ps.map (·.1)) with
    | none => rw [ho] at O1; exact O1.elim
    | some z =>
      rw [ho] at O1
      refine hop F1 H1 vs _ z Q G1.tr (hvs hs) ho fun v H' A => ?_
      obtain ⟨q1, q2, q3, q4⟩ := A.res G1 S1
      exact O1 F1 H' q1 q2 q3 v q4
  · rw [if_neg hs] at O1
    exact O1.elim
end
end Ow

namespace Ow
open PySem PyProof.Rows PySem.Spec L2 LamX
/-! ### dicts whose keys are tuples -/
mutual
def hkD : D → NestedKey
  | .none => .none
  | .bool b => .num (if b then 1 else 0)
  | .int i => .num i
  | .str x => .text x
  | .tuple ds => .tup (hkDs ds)
  | .list _ => .none
  | .dict _ => .none
def hkDs : List D → List NestedKey
  | [] => []
  | d :: ds => hkD d :: hkDs ds
end
mutual
theorem hashD_eq (w : World) : ∀ d : D, hashD w d = hkD d
  | .none => rfl
  | .bool b => rfl
  | .int i => rfl
  | .str x => rfl
  | .tuple ds => by simp only [hashD, hkD, hashDs_eq w ds]
  | .list _ => rfl
  | .dict _ => rfl
theorem hashDs_eq (w : World) : ∀ ds : List D, hashDs w ds = hkDs ds
  | [] => rfl
  | d :: ds => by simp only [hashDs, hkDs, hashD_eq w d, hashDs_eq w ds]
end
mutual
/-- a key, or a part of one -/
def hkable : D → Bool
  | .tuple ds => hkables ds
  | .list _ => false
  | .dict _ => false
  | _ => true
def hkables : List D → Bool
  | [] => true
  | d :: ds => hkable d && hkables ds
end
def keyT (d : D) : Bool := match d with
  | .tuple ds => hkables ds && decide ((hkD (.tuple ds)).depth ≤ 8)
  | _ => false
def dictOk (kvs : List (D × D)) : Bool := kvs.all (fun p => keyT p.1) && decide ((kvs.map fun p => hkD p.1).Nodup)
def valK (kvs : List (D × D)) (d : D) : Option D := (kvs.find? fun p => decide (hkD p.1 = hkD d)).map (·.2)
section
variable {Γ : Ctx} {X : Cx} {sc : Scope} {st : Str → Bool} {k : Nat}
mutual
theorem nested_is {pins : List (Addr × Obj)} {σ : L2.St} {F : Addr → Prop} {H : Hp} {s : Shared} (hK : X.K = Γ.K) (I : Inv X pins σ H s) : ∀ (d : D) (v : V) (u : Value), hkable d = true → Γ.RV F H d v → RelV v u → NestedIs s.heap (hkD d) u
  | .none, v, u, _, h, r => by
    simp only [RepV] at h; subst h; cases r; exact .none
  | .bool b, v, u, _, h, r => by
    simp only [RepV] at h; subst h; cases r; exact .bool rfl
  | .int i, v, u, _, h, r => by
    simp only [RepV] at h; subst h; obtain ⟨t, rfl⟩ := r; exact .int i t
  | .str x, v, u, _, h, r => by
    simp only [RepV] at h; subst h; obtain ⟨t, rfl⟩ := r; exact .text x t
  | .tuple ds, v, u, hk, h, r => by
    simp only [RepV] at h
    obtain ⟨a, xs, rfl, l, _, rl⟩ := h
    cases r
    obtain ⟨us, ru, ⟨o, ho, hc, n, hd⟩, _⟩ := I.tuple (by rw [hK]; exact l)
    exact .tup ho hc hd (nested_all hK I ds xs us (by simpa only [hkable] using hk) rl ru)
  | .list _, v, u, hk, _, _ => by simp [hkable] at hk
  | .dict _, v, u, hk, _, _ => by simp [hkable] at hk
theorem nested_all {pins : List (Addr × Obj)} {σ : L2.St} {F : Addr → Prop} {H : Hp} {s : Shared} (hK : X.K = Γ.K) (I : Inv X pins σ H s) : ∀ (ds : List D) (vs : List V) (us : List Value), hkables ds = true → Γ.RL F H ds vs → Vals vs us → NestedAll s.heap (hkDs ds) us
  | [], vs, us, _, h, r => by
    simp only [RepL] at h; subst h; cases r; exact .nil
  | d :: ds, vs, us, hk, h, r => by
    simp only [RepL] at h
    obtain ⟨v, vs', rfl, h1, h2⟩ := h
    simp only [hkables, Bool.and_eq_true] at hk
    cases r with
    | cons r1 r2 => exact .cons (nested_is hK I d v _ hk.1 h1 r1) (nested_all hK I ds vs' _ hk.2 h2 r2)
end
/-- a key as it stands -/
theorem key_is {pins : List (Addr × Obj)} {σ : L2.St} {F : Addr → Prop} {H : Hp} {s : Shared} {d : D} {v : V} {u : Value} (hK : X.K = Γ.K) (I : Inv X pins σ H s) (hk : keyT d = true) (h : RepR Γ F H d v) (r : RelV v u) : ∃ b, u = .ref b ∧ v = .ref b ∧ (nestedKind X.prog X.w).is s.heap (hkD d) b := by
  cases d with
  | tuple ds =>
    simp only [keyT, Bool.and_eq_true, decide_eq_true_eq] at hk
    have h : Γ.RV F H (.tuple ds) v := h
    have n := nested_is hK I (.tuple ds) v u (by simpa only [hkable] using hk.1) h r
    simp only [RepV] at h
    obtain ⟨a, xs, rfl, _⟩ := h
    cases r
    exact ⟨a, rfl, rfl, n, hk.2⟩
  | _ => simp [keyT] at hk
/-- keys and values of a dict, as they stand -/
def PairK (Γ : Ctx) (F : Addr → Prop) (H : Hp) (p : D × D) (q : NestedKey × Value) : Prop := hkD p.1 = q.1 ∧ ∃ v, Γ.RV F H p.2 v ∧ RelV v q.2
theorem dict_at {pins : List (Addr × Obj)} {σ : L2.St} {F : Addr → Prop} {H : Hp} {s : Shared} {kvs : List (D × D)} {v : V} (hK : X.K = Γ.K) (hP : X.prog = Γ.prog) (hw : X.w = Γ.w) (I : Inv X pins σ H s) (ok : dictOk kvs = true) (h : RepR Γ F H (.dict kvs) v) :
    ∃ a vs, v = .ref a ∧ (a == sysModules) = false ∧ s.heap.DictKeyed (nestedKind X.prog X.w) a vs ∧ Paired (PairK Γ F H) kvs vs := by
  obtain ⟨a, es, rfl, ha, hk⟩ := h
  obtain ⟨⟨sm, o, ents, ep, g1, g2, g3, pe⟩, _, _⟩ := I.hok a _ ha
  simp only [dictOk, Bool.and_eq_true, List.all_eq_true, decide_eq_true_eq] at ok
  -- the entries one by one
  have go : ∀ (kvs : List (D × D)) (es : List (V × Int × V)) (l : List DictEntry), (∀ p ∈ kvs, keyT p.1 = true) → Γ.RK F H kvs es → Paired (fun (p : V × Int × V) (e : DictEntry) => RelV p.1 e.key ∧ e.hash = p.2.1 ∧ RelV p.2.2 e.val) es l →
      ∃ xs : List (NestedKey × Addr × Value), l = xs.map (entryOfKey (nestedKind X.prog X.w)) ∧ (∀ x ∈ xs, (nestedKind X.prog X.w).is s.heap x.1 x.2.1) ∧ xs.map (·.1) = kvs.map (fun p => hkD p.1) ∧ Paired (PairK Γ F H) kvs (pairsH xs) := fun kvs => by
    induction kvs with
    | nil =>
      intro es l _ h1 h2
      simp only [RepK] at h1
      subst h1
      cases h2
      exact ⟨[], rfl, (fun x h => by cases h), rfl, .nil⟩
    | cons p kvs ih =>
      intro es l hp h1 h2
      obtain ⟨kd, vd⟩ := p
      simp only [RepK] at h1
      obtain ⟨u, v, vs', rfl, r1, r2, r3⟩ := h1
      cases h2 with
      | cons e1 e2 =>
        rename_i en l'
        obtain ⟨xs, q1, q2, q3, q4⟩ := ih vs' l' (fun p hp' => hp p (List.mem_cons_of_mem _ hp')) r3 e2
        obtain ⟨b, eb, _, isb⟩ := key_is hK I (hp (kd, vd) (by simp)) (RepR.of r1) e1.1
        refine ⟨(hkD kd, b, en.val) :: xs, ?_, fun x hx => ?_, by simp [q3], .cons ⟨rfl, v, r2, e1.2.2⟩ q4⟩
        · rw [List.map_cons, ← q1]
          congr 1
          obtain ⟨eh, ek, ev⟩ := en
          simp only at eb e1
          have hh : eh = (nestedKind X.prog X.w).hash (hkD kd) := by
            rw [e1.2.1, hashD_eq, hP, hw]
          subst hh eb
          rfl
        · rcases List.mem_cons.mp hx with rfl | hx
          · exact isb
          · exact q2 x hx
  obtain ⟨xs, q1, q2, q3, q4⟩ := go kvs es ents.toList ok.1 hk pe
  exact ⟨a, _, rfl, sm, ⟨xs, ⟨o, ents, ep, g1, g2, g3, q1, q2, by rw [q3]; exact ok.2⟩, rfl⟩, q4⟩
theorem valK_at {F : Addr → Prop} {H : Hp} {d : D} : ∀ {kvs : List (D × D)} {vs : List (NestedKey × Value)}, Paired (PairK Γ F H) kvs vs → match valK kvs d with
    | some e => ∃ v u, valueAt vs (hkD d) = some u ∧ Γ.RV F H e v ∧ RelV v u
    | none => valueAt vs (hkD d) = none
  | _, _, .nil => rfl
  | p :: kvs, q :: vs, .cons r t => by
    have ih := valK_at (d := d) t
    obtain ⟨e1, v, r1, r2⟩ := r
    unfold valK valueAt at ih ⊢
    simp only [List.find?_cons]
    by_cases h : hkD p.1 = hkD d
    · have h2 : q.1 = hkD d := by rw [← e1]; exact h
      simp only [h, h2, decide_true, Option.map_some]
      exact ⟨v, q.2, rfl, r1, r2⟩
    · have h2 : ¬ q.1 = hkD d := by rw [← e1]; exact h
      simp only [h, h2, decide_false]
      exact ih
end
end Ow

namespace Ow
open PySem PyProof.Rows PySem.Spec L2 LamX

/-- two values that are read, by data -/
def rOf (Γ : Ctx) (op : D → D → Option (D × Bool)) : R2 := fun x y H Q => ∃ F d e p, (∀ a, F a → NTo H a) ∧ RepR Γ F H d x ∧ RepR Γ F H e y ∧ op d e = some p ∧ ∀ v H', Alc Γ F H p v H' → Q v H'
theorem op2_of {Γ : Ctx} {op : D → D → Option (D × Bool)} : Op2 Γ op (rOf Γ op) := fun F H x y d e p Q tr h1 h2 h3 h4 => ⟨F, d, e, p, tr, h1, h2, h3, h4⟩
def rOf1 (Γ : Ctx) (op : D → Option (D × Bool)) : V → Hp → VK → Prop := fun x H Q => ∃ F d p, (∀ a, F a → NTo H a) ∧ RepR Γ F H d x ∧ op d = some p ∧ ∀ v H', Alc Γ F H p v H' → Q v H'
theorem op1_of {Γ : Ctx} {op : D → Option (D × Bool)} : Op1 Γ op (rOf1 Γ op) := fun F H x d p Q tr h1 h3 h4 => ⟨F, d, p, tr, h1, h3, h4⟩
def rOfN (Γ : Ctx) (op : List D → Option (D × Bool)) : List V → Hp → VK → Prop := fun xs H Q => ∃ F ds p, (∀ a, F a → NTo H a) ∧ RepRs Γ F H ds xs ∧ op ds = some p ∧ ∀ v H', Alc Γ F H p v H' → Q v H'
theorem opN_of {Γ : Ctx} {op : List D → Option (D × Bool)} : OpN Γ op (rOfN Γ op) := fun F H xs ds p Q tr h1 h3 h4 => ⟨F, ds, p, tr, h1, h3, h4⟩

section
variable {Γ : Ctx} {F : Addr → Prop} {H : Hp} {v : V}
theorem rInt {i : Int} (h : RepR Γ F H (.int i) v) : v = .int i := by simpa only [RepR, RepV] using h
theorem rBool {b : Bool} (h : RepR Γ F H (.bool b) v) : v = .bl b := by simpa only [RepR, RepV] using h
theorem rNone (h : RepR Γ F H .none v) : v = .non := by simpa only [RepR, RepV] using h
theorem rStr {x : Str} (h : RepR Γ F H (.str x) v) : v = .str x := by simpa only [RepR, RepV] using h
theorem rTup {ds : List D} (h : RepR Γ F H (.tuple ds) v) : ∃ a xs, v = .ref a ∧ SqT Γ.K H a xs ∧ xs.length ≤ sizeLine ∧ Γ.RL F H ds xs := by simpa only [RepR, RepV] using h
theorem rList {ds : List D} (h : RepR Γ F H (.list ds) v) : ∃ a xs, v = .ref a ∧ SqL Γ.K H a xs ∧ xs.length ≤ sizeLine ∧ Γ.RL F H ds xs := h
theorem vInt {i : Int} : Γ.RV F H (.int i) (.int i) := by simp only [RepV]
theorem vBool {b : Bool} : Γ.RV F H (.bool b) (.bl b) := by simp only [RepV]
theorem vNone : Γ.RV F H .none .non := by simp only [RepV]
theorem vStr {x : Str} : Γ.RV F H (.str x) (.str x) := by simp only [RepV]
theorem aInt {i : Int} {b : Bool} : Alc Γ F H (.int i, b) (.int i) H := .flat rfl vInt
theorem aBool {i : Bool} {b : Bool} : Alc Γ F H (.bool i, b) (.bl i) H := .flat rfl vBool
theorem aStr {i : Str} {b : Bool} : Alc Γ F H (.str i, b) (.str i) H := .flat rfl vStr
theorem aNone {b : Bool} : Alc Γ F H (.none, b) .non H := .flat rfl vNone
mutual
theorem RepV.dp : ∀ (d : D) (v : V), d.plain = true → Γ.RV F H d v → Dp Γ.K H v d
  | .none, v, _, h => by simp only [RepV] at h; subst h; exact .non
  | .bool b, v, _, h => by simp only [RepV] at h; subst h; exact .bl b
  | .int i, v, _, h => by simp only [RepV] at h; subst h; exact .int i
  | .str x, v, _, h => by simp only [RepV] at h; subst h; exact .str x
  | .list ds, v, p, h => by
    simp only [RepV] at h
    obtain ⟨a, xs, rfl, l, _, r⟩ := h
    exact .lst l.sq (RepL.dp ds xs (by simpa only [PyData.plain] using p) r)
  | .tuple ds, v, p, h => by
    simp only [RepV] at h
    obtain ⟨a, xs, rfl, l, _, r⟩ := h
    exact .tup l (RepL.dp ds xs (by simpa only [PyData.plain] using p) r)
  | .dict kvs, v, p, h => by simp [PyData.plain] at p
theorem RepL.dp : ∀ (ds : List D) (vs : List V), PyData.plainAll ds = true → Γ.RL F H ds vs → DpAll Γ.K H vs ds
  | [], vs, _, h => by simp only [RepL] at h; subst h; exact .nil
  | d :: ds, vs, p, h => by
    simp only [PyData.plainAll, Bool.and_eq_true] at p
    simp only [RepL] at h
    obtain ⟨v, vs', rfl, r1, r2⟩ := h
    exact .cons (RepV.dp d v p.1 r1) (RepL.dp ds vs' p.2 r2)
end
theorem RepR.dp {d : D} (p : d.plain = true) (h : RepR Γ F H d v) : Dp Γ.K H v d := by
  cases d with
  | list ds =>
    obtain ⟨a, xs, rfl, l, _, r⟩ := h
    exact .lst l (RepL.dp ds xs (by simpa only [PyData.plain] using p) r)
  | dict kvs => simp [PyData.plain] at p
  | none => exact RepV.dp (F := F) _ _ p h
  | bool _ => exact RepV.dp (F := F) _ _ p h
  | int _ => exact RepV.dp (F := F) _ _ p h
  | str _ => exact RepV.dp (F := F) _ _ p h
  | tuple _ => exact RepV.dp (F := F) _ _ p h
end

/-! ### + - * // % -/
def dAdd : D → D → Option (D × Bool)
  | .int a, .int b => some (.int (a + b), false)
  | .list a, .list b => if a.length + b.length ≤ sizeLine then some (.list (a ++ b), true) else none
  | .tuple a, .tuple b => if a.length + b.length ≤ sizeLine then some (.tuple (a ++ b), false) else none
  | .str a, .str b => if a.length + b.length ≤ sizeLine then some (.str (a ++ b), false) else none
  | _, _ => none
def dSub : D → D → Option (D × Bool)
  | .int a, .int b => some (.int (a - b), false)
  | _, _ => none
def mulOk (i j : Int) : Prop := (-(2 ^ 64) < i ∧ i < 2 ^ 64) ∨ (-(2 ^ 64) < j ∧ j < 2 ^ 64) ∨ i.natAbs.log2 + j.natAbs.log2 < 1000000
instance (i j : Int) : Decidable (mulOk i j) := by unfold mulOk; infer_instance
def dMul : D → D → Option (D × Bool)
  | .int a, .int b => if mulOk a b then some (.int (a * b), false) else none
  | .list a, .int k => if -(2 ^ 63) ≤ k ∧ k < 2 ^ 63 ∧ a.length * k.toNat ≤ sizeLine then some (.list (List.replicate k.toNat a).flatten, true) else none
  | .tuple a, .int k => if a ≠ [] ∧ -(2 ^ 63) ≤ k ∧ k ≤ 1000 ∧ a.length ≤ 1000 then some (.tuple (List.replicate k.toNat a).flatten, false) else none
  | .str x, .int k => if x.length ≤ 1000 ∧ -1000 ≤ k ∧ k ≤ 1000 then some (.str (Txt.mul x k), false) else none
  | _, _ => none
def dDiv : D → D → Option (D × Bool)
  | .int a, .int b => if b ≠ 0 ∧ b.natAbs.log2 < 9000 then some (.int (a.fdiv b), false) else none
  | _, _ => none
def dMod : D → D → Option (D × Bool)
  | .int a, .int b => if b ≠ 0 then some (.int (a.fmod b), false) else none
  | _, _ => none
theorem RepL.rep {P : Program} {w : World} {K : PySem.W.Frag} {F : Addr → Prop} {H : Hp} {ds : List D} {xs : List V} (h : RepL P w K F H ds xs) : ∀ n, RepL P w K F H (List.replicate n ds).flatten (List.replicate n xs).flatten
  | 0 => by simp only [List.replicate_zero, List.flatten_nil]; exact RepL.nil
  | n + 1 => by simp only [List.replicate_succ, List.flatten_cons]; exact h.append (RepL.rep h n)

theorem tup_mul_one (la : Addr) (xs : Array Value) (ca : Nat) (da : Option Addr) (sa : Array (Option Value)) (u : Tok) :
    Meets (Builtin.«tuple.__mul__» ⟨[.ref la, .int 1 u], []⟩) (fun _ R s => s.heap.get? la = some { cls := .type "tuple", dict := da, data := .seq xs ca, slots := sa } ∧ R (.ok (.ret (Value.ref la))) s) :=
  .of_wp fun prog w A R s h => by
    obtain ⟨hp, g, d, tk, os⟩ := s
    obtain ⟨gl, h⟩ := h
    have f1 := AutoSeq1.idx_int
    wp_walk using wpAny_loadPart' gl
    exact ⟨_, rfl, h⟩
theorem tup_mul_none (la : Addr) (xs : Array Value) (ca : Nat) (da : Option Addr) (sa : Array (Option Value)) (x : Int) (u : Tok) (h1 : -(2 ^ 63) ≤ x) (h2 : x ≤ 0) (he : xs.isEmpty = false) :
    Meets (Builtin.«tuple.__mul__» ⟨[.ref la, .int x u], []⟩) (fun _ R s => s.heap.get? la = some { cls := .type "tuple", dict := da, data := .seq xs ca, slots := sa } ∧ R (.ok (.ret (Value.ref s.heap.objs.size))) { s with heap := s.heap.push { cls := .type "tuple", data := .seq #[] } }) :=
  .of_wp fun prog w A R s h => by
    obtain ⟨hp, g, d, tk, os⟩ := s
    obtain ⟨gl, h⟩ := h
    have f1 := AutoSeq1.idx_int
    have c0 : (decide (x < -(2 ^ 63)) || decide (x ≥ 2 ^ 63)) = false := by
      rw [decide_eq_false (by omega), decide_eq_false (by omega)] <;> rfl
    have c1 : (xs.isEmpty || x == 1) = false := by
      rw [he, Bool.false_or]
      exact beq_eq_false_iff_ne.mpr (by omega)
    have c2 : (decide (x ≤ 0) || xs.isEmpty) = true := by
      rw [decide_eq_true h2, Bool.true_or]
    wp_walk using wpAny_loadPart' gl
    rw [if_neg (by rw [c0]; exact Bool.false_ne_true)]
    wp_walk using wpAny_loadPart' gl
    rw [if_neg (by rw [c1]; exact Bool.false_ne_true)]
    wp_walk using wpAny_loadPart' gl
    exact ⟨_, rfl, h⟩
/-- a tuple so many times, any number -/
def rRepTA (K : PySem.W.Frag) : R2 := fun x y H Q => ∃ l k xs, x = .ref l ∧ y = .int k ∧ SqT K H l xs ∧ xs ≠ [] ∧ -(2 ^ 63) ≤ k ∧ k ≤ 1000 ∧ xs.length ≤ 1000 ∧ (k = 1 → Q (.ref l) H) ∧ (k ≠ 1 → ∀ p, H p = none → Q (.ref p) (upd H p (.tup (List.replicate k.toNat xs).flatten)))
section
variable {X : Cx}
theorem op_repTA : OpR X (binaryOp .Mult) (rRepTA X.K) := by
  intro pins s σ H x y v u Q I rx ry h
  obtain ⟨l, k, xs, rfl, rfl, hT, ne, lo, hi, few, q1, q2⟩ := h
  by_cases hk : 2 ≤ k
  · exact op_repT pins s σ H (.ref l) (.int k) v u Q I rx ry ⟨l, k, xs, rfl, rfl, hT, ne, hk, hi, few, q2 (by omega)⟩
  · cases rx
    obtain ⟨t, rfl⟩ := ry
    obtain ⟨us, r, ⟨⟨oa, ob, oe, ol⟩, ho, hc, n, hd⟩, _⟩ := I.tuple hT
    simp only at hc hd
    subst hc hd
    have hem : us.toArray.isEmpty = false := by
      cases us with
      | nil => exact absurd (List.eq_nil_of_length_eq_zero r.length) ne
      | cons a b => rfl
    have w1 : s.TypeIs (.ref l) "tuple" := ⟨_, ho, rfl⟩
    refine wpAny_binaryOp_repeat_ref (by decide) w1 (fun z => typeIs_int z k t) noFill_tuple_mul F.fills_int_mul F.slot_int_rmul repeat_tuple F.slot_int_index.lookup (call_meets F.slot_int_rmul (typeIs_int s k t) F.entry_int_rmul (F.args_int_rmul_2 _ _) (int_rmul_tuple k t l us.toArray n ob ol) ⟨ho, rfl, w1, ?_⟩)
    by_cases h1 : k = 1
    · subst h1
      exact call_meets F.slot_tuple_mul w1 F.entry_tuple_mul (F.args_tuple_mul_2 _ _) (tup_mul_one l us.toArray n ob ol t) ⟨ho, ⟨.ref l, H, I, rfl, q1 rfl⟩⟩
    · refine call_meets F.slot_tuple_mul w1 F.entry_tuple_mul (F.args_tuple_mul_2 _ _) (tup_mul_none l us.toArray n ob ol k t lo (by omega) hem) ⟨ho, ?_⟩
      have e0 : (List.replicate k.toNat xs).flatten = [] := by rw [show k.toNat = 0 by omega]; rfl
      have q3 := q2 h1 s.heap.objs.size (I.hok.fresh (Nat.le_refl _))
      rw [e0] at q3
      refine ⟨.ref s.heap.objs.size, _, I.laid (t' := s.toks) (o := .tup []) (fun b ob q => Heap.get?_push_of_some _ q) (Nat.le_refl _) ?_, rfl, q3⟩
      exact ⟨Nat.zero_le _, [], .nil, IsTup.new _ _⟩
/-- a text so many times -/
theorem op_repS : OpR X (binaryOp .Mult) (fun x y H Q => ∃ (z : Str) (k : Int), x = .str z ∧ y = .int k ∧ z.length ≤ 1000 ∧ -1000 ≤ k ∧ k ≤ 1000 ∧ Q (.str (Txt.mul z k)) H) := by
  intro pins s σ H x y v u Q I rx ry h
  obtain ⟨z, k, rfl, rfl, hz, h1, h2, q⟩ := h
  obtain ⟨t, rfl⟩ := rx
  obtain ⟨t', rfl⟩ := ry
  have ok : MulOk z k := by
    refine ⟨by rw [decide_eq_false (by omega), decide_eq_false (by omega)]; rfl, fun n1 _ => ?_, fun n1 _ => ?_⟩
    · have hd : (1000 : Int) ≤ (2 ^ 63 - 1) / k := (Int.le_ediv_iff_mul_le (by omega)).mpr (by omega)
      omega
    · have hm : z.length * k.toNat ≤ 1000 * 1000 := Nat.mul_le_mul hz (by omega)
      unfold Builtin.Str.tooLong
      rw [sizeLine_eq]
      exact decide_eq_false (by omega)
  exact SB.mul ok fun t2 k2 => ⟨.str _, H, I.tok _, ⟨_, rfl⟩, q⟩
end

theorem list_add_any (la : Addr) (xs : Array Value) (ca : Nat) (lb : Addr) (ys : Array Value) (cb : Nat) (da db : Option Addr) (sa sb : Array (Option Value)) (hc0 : xs.size + ys.size ≤ sizeLine) :
    Meets (Builtin.«list.__add__» ⟨[.ref la, .ref lb], []⟩) (fun _ R s => s.heap.get? la = some { cls := .type "list", dict := da, data := .seq xs ca, slots := sa } ∧ s.heap.get? lb = some { cls := .type "list", dict := db, data := .seq ys cb, slots := sb } ∧ R (.ok (.ret (Value.ref s.heap.objs.size))) { s with heap := s.heap.push { cls := Value.type "list", data := Data.seq (xs ++ ys) }, toks := s.toks }) :=
  .of_wp fun prog w A R s h => by obtain ⟨hp, g, d, tk, os⟩ := s; obtain ⟨gl, gb, h⟩ := h; have f1 := AutoSeq1.idx_int; have f2 := AutoSeq1.sub_tuple_tuple; have f3 := AutoSeq1.sub_list_list; have f4 := AutoSeq1.sub_tuple_list; have f5 := AutoSeq1.sub_list_tuple; wp_walk using AutoSeq1.wpAny_loadPart' gl, AutoSeq1.wpAny_loadPart' gb; exact ⟨_, rfl, h⟩
theorem list_rmul_any (a : Int) (t : Tok) (la : Addr) (xs : Array Value) (ca : Nat) (da : Option Addr) (sa : Array (Option Value)) :
    Meets (Builtin.«int.__rmul__» ⟨[.int a t, .ref la], []⟩) (fun _ R s => s.heap.get? la = some { cls := .type "list", dict := da, data := .seq xs ca, slots := sa } ∧ R (.ok (.ret Value.notImplemented)) s) :=
  .of_wp fun prog w A R s h => by obtain ⟨hp, g, d, tk, os⟩ := s; obtain ⟨gl, h⟩ := h; wp_walk; exact ⟨_, rfl, h⟩
theorem list_mul_any (la : Addr) (xs : Array Value) (ca : Nat) (da : Option Addr) (sa : Array (Option Value)) (x : Int) (u : Tok) (hc0 : ¬(!Builtin.List.listFitsIndex x) = true) (hc1 : ¬xs.size * x.toNat > (2 ^ 63 - 1) / 8) (small : ¬Builtin.List.listTooLong (xs.size * x.toNat) = true) :
    Meets (Builtin.«list.__mul__» ⟨[.ref la, .int x u], []⟩) (fun _ R s => s.heap.get? la = some { cls := .type "list", dict := da, data := .seq xs ca, slots := sa } ∧ R (.ok (.ret (Value.ref s.heap.objs.size))) { s with heap := s.heap.push { cls := Value.type "list", data := Data.seq (List.foldl (fun x1 x2 => x1 ++ x2) #[] (List.replicate (if xs.isEmpty = true then 0 else x.toNat) xs)) }, toks := s.toks }) :=
  .of_wp fun prog w A R s h => by
    obtain ⟨hp, g, d, tk, os⟩ := s; obtain ⟨gl, h⟩ := h
    have fit := AutoListH.joined_fits small
    wp_walk; refine wpAny_ite_false (decide_eq_false (Nat.not_lt.mpr fit)) ?_; wp_walk; exact ⟨_, rfl, h⟩

section
variable {Γ : Ctx} {X : Cx} {sc : Scope} {st : Str → Bool} {k : Nat}
/-- l + b, any lists -/
def rCatL (K : PySem.W.Frag) : R2 := fun x y H Q => ∃ l b xs zs, x = .ref l ∧ y = .ref b ∧ SqL K H l xs ∧ SqL K H b zs ∧ xs.length + zs.length ≤ sizeLine ∧ ∀ p, H p = none → Q (.ref p) (upd H p (.lst (xs ++ zs)))
theorem op_catL : OpR X (binaryOp .Add) (rCatL X.K) := by
  intro pins s σ H x y v u Q I rx ry h
  obtain ⟨l, b, x1s, x2s, rfl, rfl, m1, m2, room, q⟩ := h
  cases rx
  cases ry
  obtain ⟨vs1, r, ⟨o, n, e, c1, c2, c3⟩, len0⟩ := I.list m1
  obtain ⟨vs2, r2, ⟨o2, n2, e2, d1, d2, d3⟩, hl2⟩ := I.list m2
  obtain ⟨oa, ob, oe, of⟩ := o
  obtain ⟨pc, pd, pdt, psl⟩ := o2
  simp only at c1 c2 c3 d1 d2 d3
  subst c1 c2 c3 d1 d2 d3
  have len1 := r.length
  have len2 := r2.length
  refine PySem.concat_meets ⟨_, e, rfl⟩ ⟨_, e2, rfl⟩ noFill_list_add seq_list_add F.slot_list_add F.entry_list_add (F.args_list_add_2 _ _) (list_add_any l vs1.toArray n b vs2.toArray n2 none none of psl (by rw [List.size_toArray, List.size_toArray]; omega)) ⟨e, e2, ?_⟩
  have joined : vs1.toArray ++ vs2.toArray = (vs1 ++ vs2).toArray := by simp
  rw [joined]
  exact ⟨.ref _, _, I.lnew (t' := s.toks) (r.append r2) (by simp only [List.length_append]; omega), rfl, q _ I.fresh⟩
def rRepL (K : PySem.W.Frag) : R2 := fun x y H Q => ∃ l k x1s, x = .ref l ∧ y = .int k ∧ SqL K H l x1s ∧ -(2 ^ 63) ≤ k ∧ k < 2 ^ 63 ∧ x1s.length * k.toNat ≤ sizeLine ∧
  ∀ p, H p = none → Q (.ref p) (upd H p (.lst (List.replicate k.toNat x1s).flatten))
/-- a list so many times: it is short enough -/
theorem rep_fits {n : Nat} {k : Int} (h1 : -(2 ^ 63) ≤ k) (h2 : k < 2 ^ 63) (hz : n * k.toNat ≤ sizeLine) : ¬ (!Builtin.List.listFitsIndex k) = true ∧ ¬ n * k.toNat > (2 ^ 63 - 1) / 8 ∧ ¬ Builtin.List.listTooLong (n * k.toNat) = true := by
  refine ⟨?_, ?_, ?_⟩
  · simp [fitsIndex_both h1 h2]
  · exact Nat.not_lt.mpr (Nat.le_trans hz (by decide))
  · simp [notLongL hz]
/-- .. and what it holds -/
theorem rep_same (us : List Value) (n : Nat) : List.foldl (fun a b => a ++ b) #[] (List.replicate (if us.toArray.isEmpty = true then 0 else n) us.toArray) = (List.replicate n us).flatten.toArray := by
  have each := foldl_rep us (if us.toArray.isEmpty = true then 0 else n) []
  rw [List.nil_append] at each
  refine each.trans ?_
  cases us <;> simp
theorem op_repL : OpR X (binaryOp .Mult) (rRepL X.K) := by
  intro pins s σ H x y v u Q I rx ry h
  obtain ⟨l, k, x1s, rfl, rfl, m1, h1, h2, room, q⟩ := h
  cases rx
  obtain ⟨t, rfl⟩ := ry
  obtain ⟨vs1, r, ⟨o, n, e, c1, c2, c3⟩, len9⟩ := I.list m1
  obtain ⟨oa, ob, oe, of⟩ := o
  simp only at c1 c2 c3
  subst c1 c2 c3
  obtain ⟨f1, f2, f3⟩ := rep_fits (n := vs1.toArray.size) h1 h2 (by rw [List.size_toArray, ← r.length]; exact room)
  have w1 : s.TypeIs (.ref l) "list" := ⟨_, e, rfl⟩
  refine wpAny_binaryOp_repeat_ref (by decide) w1 (fun z => typeIs_int z k t) noFill_list_mul F.fills_int_mul F.slot_int_rmul repeat_list F.slot_int_index.lookup (call_meets F.slot_int_rmul (typeIs_int s k t) F.entry_int_rmul (F.args_int_rmul_2 _ _) (list_rmul_any k t l vs1.toArray n none of) ⟨e, rfl, w1, ?_⟩)
  refine call_meets F.slot_list_mul w1 F.entry_list_mul (F.args_list_mul_2 _ _) (list_mul_any l vs1.toArray n none of k t f1 f2 f3) ⟨e, ?_⟩
  rw [rep_same vs1 k.toNat]
  refine ⟨.ref _, _, I.lnew (t' := s.toks) (r.rep k.toNat) ?_, rfl, q _ I.fresh⟩
  rw [PyProof.Rows.lm_len_rep_flat, Nat.mul_comm]
  exact room

theorem o_add (g : Gd Γ X sc st k) : OpR X (binaryOp .Add) (rOf Γ dAdd) := by
  intro pins s σ H x y v u Q I rx ry h
  obtain ⟨F, d, e, p, tr, h1, h2, ho, q⟩ := h
  unfold dAdd at ho
  split at ho
  · cases ho
    exact op_add pins s σ H x y v u Q I rx ry ⟨_, _, rInt h1, rInt h2, q _ _ aInt⟩
  · split at ho
    · rename_i hz
      cases ho
      obtain ⟨a, xs, e1, l1, _, r1⟩ := rList h1
      obtain ⟨b, ys, e2, l2, _, r2⟩ := rList h2
      rw [← g.K] at l1 l2
      exact op_catL pins s σ H x y v u Q I rx ry ⟨a, b, xs, ys, e1, e2, l1, l2, by rw [← r1.length, ← r2.length]; exact hz, fun p hp => q _ _ (.newList tr hp (by rw [List.length_append, ← r1.length, ← r2.length]; exact hz) (r1.append r2))⟩
    · cases ho
  · split at ho
    · rename_i hz
      cases ho
      obtain ⟨a, xs, e1, l1, z1, r1⟩ := rTup h1
      obtain ⟨b, ys, e2, l2, z2, r2⟩ := rTup h2
      rw [← g.K] at l1 l2
      refine op_catA pins s σ H x y v u Q I rx ry ⟨a, b, xs, ys, e1, e2, l1, l2, by rw [← r1.length, ← r2.length]; exact hz, fun hx => ?_, fun hx hy => ?_, fun hx hy p hp => q _ _ (.newTup tr hp (by rw [List.length_append, ← r1.length, ← r2.length]; exact hz) (r1.append r2))⟩
      · subst hx
        refine q _ _ (.plain ?_)
        simp only [RepV]
        exact ⟨b, ys, rfl, by rw [← g.K]; exact l2, z2, by simpa using r1.append r2⟩
      · subst hy
        refine q _ _ (.plain ?_)
        simp only [RepV]
        exact ⟨a, xs, rfl, by rw [← g.K]; exact l1, z1, by simpa using r1.append r2⟩
    · cases ho
  · split at ho
    · rename_i hz
      cases ho
      exact op_add_str pins s σ H x y v u Q I rx ry ⟨_, _, rStr h1, rStr h2, hz, q _ _ aStr⟩
    · cases ho
  · cases ho
theorem o_sub : OpR X (binaryOp .Sub) (rOf Γ dSub) := by
  intro pins s σ H x y v u Q I rx ry h
  obtain ⟨F, d, e, p, tr, h1, h2, ho, q⟩ := h
  unfold dSub at ho
  split at ho
  · cases ho
    exact op_sub pins s σ H x y v u Q I rx ry ⟨_, _, rInt h1, rInt h2, q _ _ aInt⟩
  · cases ho
theorem mulOk_ok {i j : Int} (h : mulOk i j) : IntMulOk i j := by
  rcases h with h | h | h
  · exact .of_left (intBits_le_64 h.1 h.2)
  · exact .of_right (intBits_le_64 h.1 h.2)
  · exact CMulW.ok h
theorem op_mulA : OpR X (binaryOp .Mult) (rI mulOk fun i j => .int (i * j)) := opI fun _ _ _ _ _ _ _ hc q => mul_int q (mulOk_ok hc)
theorem op_fdivA : OpR X (binaryOp .FloorDiv) (rI (fun _ j => j ≠ 0 ∧ j.natAbs.log2 < 9000) fun i j => .int (i.fdiv j)) := opI fun i j _ _ _ _ _ hc q =>
  floordiv_int hc.1 q (.inl (PyProof.noPylong_of_log2 hc.2))
theorem o_mul (g : Gd Γ X sc st k) : OpR X (binaryOp .Mult) (rOf Γ dMul) := by
  intro pins s σ H x y v u Q I rx ry h
  obtain ⟨F, d, e, p, tr, h1, h2, ho, q⟩ := h
  unfold dMul at ho
  split at ho
  · split at ho
    · rename_i hz
      cases ho
      exact op_mulA pins s σ H x y v u Q I rx ry ⟨_, _, rInt h1, rInt h2, hz, q _ _ aInt⟩
    · cases ho
  · split at ho
    · rename_i hz
      cases ho
      obtain ⟨a, xs, e1, l1, _, r1⟩ := rList h1
      rw [← g.K] at l1
      have hl := r1.length
      exact op_repL pins s σ H x y v u Q I rx ry ⟨a, _, xs, e1, rInt h2, l1, hz.1, hz.2.1, by rw [← hl]; exact hz.2.2, fun p hp => q _ _ (.newList tr hp (by rw [PyProof.Rows.lm_len_rep_flat, ← hl, Nat.mul_comm]; exact hz.2.2) (r1.rep _))⟩
    · cases ho
  · rename_i a0 k0
    split at ho
    · rename_i hz
      cases ho
      obtain ⟨a, xs, e1, l1, zz, r1⟩ := rTup h1
      rw [← g.K] at l1
      have hl := r1.length
      have hk0 : k0.toNat ≤ 1000 := by have := hz.2.2.1; omega
      refine op_repTA pins s σ H x y v u Q I rx ry ⟨a, _, xs, e1, rInt h2, l1, fun z => hz.1 ?_, hz.2.1, hz.2.2.1, by rw [← hl]; exact hz.2.2.2, fun e => ?_, fun _ p hp => q _ _ (.newTup tr hp ?_ (r1.rep _))⟩
      · subst z
        exact List.eq_nil_of_length_eq_zero hl
      · subst e
        refine q _ _ (.flat (by simp [isMut]) ?_)
        have e0 : (List.replicate (1 : Int).toNat a0).flatten = a0 := by simp
        rw [e0]
        simp only [RepV]
        exact ⟨a, xs, rfl, by rw [g.K] at l1; exact l1, zz, r1⟩
      · rw [PyProof.Rows.lm_len_rep_flat, ← hl, sizeLine_eq]
        exact Nat.le_trans (Nat.mul_le_mul hk0 hz.2.2.2) (by decide)
    · cases ho
  · split at ho
    · rename_i hz
      cases ho
      exact op_repS pins s σ H x y v u Q I rx ry ⟨_, _, rStr h1, rInt h2, hz.1, hz.2.1, hz.2.2, q _ _ aStr⟩
    · cases ho
  · cases ho
theorem o_div : OpR X (binaryOp .FloorDiv) (rOf Γ dDiv) := by
  intro pins s σ H x y v u Q I rx ry h
  obtain ⟨F, d, e, p, tr, h1, h2, ho, q⟩ := h
  unfold dDiv at ho
  split at ho
  · split at ho
    · rename_i hz
      cases ho
      exact op_fdivA pins s σ H x y v u Q I rx ry ⟨_, _, rInt h1, rInt h2, hz, q _ _ aInt⟩
    · cases ho
  · cases ho
theorem o_mod : OpR X (binaryOp .Mod) (rOf Γ dMod) := by
  intro pins s σ H x y v u Q I rx ry h
  obtain ⟨F, d, e, p, tr, h1, h2, ho, q⟩ := h
  unfold dMod at ho
  split at ho
  · split at ho
    · rename_i hz
      cases ho
      exact op_modN pins s σ H x y v u Q I rx ry ⟨_, _, rInt h1, rInt h2, hz, q _ _ aInt⟩
    · cases ho
  · cases ho
def dNeg : D → Option (D × Bool)
  | .int a => some (.int (-a), false)
  | _ => none
theorem o_neg : UnR X (unaryOp .USub) (rOf1 Γ dNeg) := by
  intro pins s σ H x v Q I rx h
  obtain ⟨F, d, p, tr, h1, ho, q⟩ := h
  unfold dNeg at ho
  split at ho
  · cases ho
    exact un_neg pins s σ H x v Q I rx ⟨_, rInt h1, q _ _ aInt⟩
  · cases ho
/-! ### comparisons -/
def okC (d e : D) : Bool := d.plain && e.plain && decide (min d.depth e.depth ≤ 64)
def dEq (d e : D) : Option (D × Bool) := if okC d e = true then some (.bool (PyData.eqv d e), false) else none
def dNe (d e : D) : Option (D × Bool) := if okC d e = true then some (.bool (!PyData.eqv d e), false) else none
def okL (d e : D) : Bool := okC d e && PySem.W.alike d e && decide (d ≠ .none)
def dLt (d e : D) : Option (D × Bool) := if okL d e = true then some (.bool (PySem.W.dataLt d e), false) else none
def dGt (d e : D) : Option (D × Bool) := if okL d e = true then some (.bool (PySem.W.dataLt e d), false) else none
def dLe (d e : D) : Option (D × Bool) := if okL d e = true then some (.bool (!PySem.W.dataLt e d), false) else none
def dGe (d e : D) : Option (D × Bool) := if okL d e = true then some (.bool (!PySem.W.dataLt d e), false) else none
theorem okC_u {d e : D} (h : okC d e = true) : d.plain = true ∧ e.plain = true ∧ min d.depth e.depth ≤ 64 := by
  unfold okC at h
  simp only [Bool.and_eq_true, decide_eq_true_eq] at h
  exact ⟨h.1.1, h.1.2, h.2⟩
theorem okL_u {d e : D} (h : okL d e = true) : d.plain = true ∧ e.plain = true ∧ min d.depth e.depth ≤ 64 ∧ PySem.W.alike d e = true ∧ d ≠ .none := by
  unfold okL at h
  simp only [Bool.and_eq_true, decide_eq_true_eq] at h
  obtain ⟨a, b, c⟩ := okC_u h.1.1
  exact ⟨a, b, c, h.1.2, h.2⟩
theorem read_of (g : Gd Γ X sc st k) {pins : List (Addr × Obj)} {s : Shared} {σ : L2.St} {H : Hp} {F : Addr → Prop} {d : D} {x : V} {v : Value} (I : Inv X pins σ H s) (p : d.plain = true) (h : RepR Γ F H d x) (rx : RelV x v) : ∃ as, Reads s.heap v d as :=
  Dp.reads I d x v (by rw [g.K]; exact h.dp p) rx
theorem o_eq (g : Gd Γ X sc st k) : OpR X (compareOp .Eq) (rOf Γ dEq) := by
  intro pins s σ H x y v u Q I rx ry h
  obtain ⟨F, d, e, p, tr, h1, h2, ho, q⟩ := h
  unfold dEq at ho
  split at ho
  · rename_i hz
    cases ho
    obtain ⟨p1, p2, p3⟩ := okC_u hz
    obtain ⟨as, r1⟩ := read_of g I p1 h1 rx
    obtain ⟨bs, r2⟩ := read_of g I p2 h2 ry
    exact SeqAt.eq_plain r1 r2 p1 p2 (by have := g.room.un; omega) ⟨.bl _, H, I, rfl, q _ _ aBool⟩
  · cases ho
theorem o_ne (g : Gd Γ X sc st k) : OpR X (compareOp .NotEq) (rOf Γ dNe) := by
  intro pins s σ H x y v u Q I rx ry h
  obtain ⟨F, d, e, p, tr, h1, h2, ho, q⟩ := h
  unfold dNe at ho
  split at ho
  · rename_i hz
    cases ho
    obtain ⟨p1, p2, p3⟩ := okC_u hz
    obtain ⟨as, r1⟩ := read_of g I p1 h1 rx
    obtain ⟨bs, r2⟩ := read_of g I p2 h2 ry
    exact SeqAt.ne_plain r1 r2 p1 p2 (by have := g.room.un; omega) ⟨.bl _, H, I, rfl, q _ _ aBool⟩
  · cases ho
theorem o_lt (g : Gd Γ X sc st k) : OpR X (compareOp .Lt) (rOf Γ dLt) := by
  intro pins s σ H x y v u Q I rx ry h
  obtain ⟨F, d, e, p, tr, h1, h2, ho, q⟩ := h
  unfold dLt at ho
  split at ho
  · rename_i hz
    cases ho
    obtain ⟨p1, p2, p3, p4, p5⟩ := okL_u hz
    obtain ⟨as, r1⟩ := read_of g I p1 h1 rx
    obtain ⟨bs, r2⟩ := read_of g I p2 h2 ry
    exact PySem.W.lt_data r1 r2 p4 p5 (by have := g.room.un; omega) ⟨.bl _, H, I, rfl, q _ _ aBool⟩
  · cases ho
theorem o_gt (g : Gd Γ X sc st k) : OpR X (compareOp .Gt) (rOf Γ dGt) := by
  intro pins s σ H x y v u Q I rx ry h
  obtain ⟨F, d, e, p, tr, h1, h2, ho, q⟩ := h
  unfold dGt at ho
  split at ho
  · rename_i hz
    cases ho
    obtain ⟨p1, p2, p3, p4, p5⟩ := okL_u hz
    obtain ⟨as, r1⟩ := read_of g I p1 h1 rx
    obtain ⟨bs, r2⟩ := read_of g I p2 h2 ry
    exact PySem.W.gt_data r1 r2 p4 p5 (by have := g.room.un; omega) ⟨.bl _, H, I, rfl, q _ _ aBool⟩
  · cases ho
theorem o_le (g : Gd Γ X sc st k) : OpR X (compareOp .LtE) (rOf Γ dLe) := by
  intro pins s σ H x y v u Q I rx ry h
  obtain ⟨F, d, e, p, tr, h1, h2, ho, q⟩ := h
  unfold dLe at ho
  split at ho
  · rename_i hz
    cases ho
    obtain ⟨p1, p2, p3, p4, p5⟩ := okL_u hz
    obtain ⟨as, r1⟩ := read_of g I p1 h1 rx
    obtain ⟨bs, r2⟩ := read_of g I p2 h2 ry
    exact PySem.W.le_data r1 r2 p4 p5 (by have := g.room.un; omega) ⟨.bl _, H, I, rfl, q _ _ aBool⟩
  · cases ho
theorem o_ge (g : Gd Γ X sc st k) : OpR X (compareOp .GtE) (rOf Γ dGe) := by
  intro pins s σ H x y v u Q I rx ry h
  obtain ⟨F, d, e, p, tr, h1, h2, ho, q⟩ := h
  unfold dGe at ho
  split at ho
  · rename_i hz
    cases ho
    obtain ⟨p1, p2, p3, p4, p5⟩ := okL_u hz
    obtain ⟨as, r1⟩ := read_of g I p1 h1 rx
    obtain ⟨bs, r2⟩ := read_of g I p2 h2 ry
    exact PySem.W.ge_data r1 r2 p4 p5 (by have := g.room.un; omega) ⟨.bl _, H, I, rfl, q _ _ aBool⟩
  · cases ho
/-! ### is -/
def dIs : D → D → Option (D × Bool)
  | .none, .none => some (.bool true, false)
  | .none, .bool _ => some (.bool false, false)
  | .bool _, .none => some (.bool false, false)
  | .bool a, .bool b => some (.bool (a == b), false)
  | .int _, .none => some (.bool false, false)
  | .int _, .bool _ => some (.bool false, false)
  | .str _, .none => some (.bool false, false)
  | .str _, .bool _ => some (.bool false, false)
  | .list _, .none => some (.bool false, false)
  | .list _, .bool _ => some (.bool false, false)
  | .tuple _, .none => some (.bool false, false)
  | .tuple _, .bool _ => some (.bool false, false)
  | .dict _, .none => some (.bool false, false)
  | .dict _, .bool _ => some (.bool false, false)
  | _, _ => none
def dIsN (a b : D) : Option (D × Bool) := match dIs a b with
  | some (.bool c, _) => some (.bool (!c), false)
  | _ => none
theorem is_plain {A : Around} {s : Shared} {E : Value → Shared → Prop} {F : Addr → Prop} {H : Hp} {d e : D} {x y : V} {v u : Value} {c : Bool} {z : Bool} {prog : Program} {w : World} (h1 : RepR Γ F H d x) (h2 : RepR Γ F H e y) (rx : RelV x v) (ry : RelV y u) (ho : dIs d e = some (.bool c, z)) :
    ∀ {Q : Value → Shared → Prop}, (Q (.bool c) s → wpAny (model prog w) A (compareOp .Is v u) Q E s) ∧ (Q (.bool (!c)) s → wpAny (model prog w) A (compareOp .IsNot v u) Q E s) := by
  intro Q
  have oth : ∀ {p q : Value}, plainIs p q = true → p ≠ q → (Q (.bool false) s → wpAny (model prog w) A (compareOp .Is p q) Q E s) ∧ (Q (.bool (!false)) s → wpAny (model prog w) A (compareOp .IsNot p q) Q E s) := fun a b => ⟨wpAny_is_other a b, wpAny_isNot_other a b⟩
  have slf : ∀ {p : Value}, plainIs p p = true → (Q (.bool true) s → wpAny (model prog w) A (compareOp .Is p p) Q E s) ∧ (Q (.bool (!true)) s → wpAny (model prog w) A (compareOp .IsNot p p) Q E s) := fun a => ⟨wpAny_is_self a, wpAny_isNot_self a⟩
  have yN : e = .none → u = Value.none := fun z => by subst z; rw [rNone h2] at ry; exact ry
  have yB : ∀ b, e = .bool b → u = Value.bool b := fun b z => by subst z; rw [rBool h2] at ry; exact ry
  unfold dIs at ho
  split at ho
  · cases ho
    rw [rNone h1] at rx; rw [rNone h2] at ry
    cases rx; cases ry
    exact slf rfl
  · cases ho
    rw [rNone h1] at rx; rw [rBool h2] at ry
    cases rx; cases ry
    exact oth rfl (by simp)
  · cases ho
    rw [rBool h1] at rx; rw [rNone h2] at ry
    cases rx; cases ry
    exact oth rfl (by simp)
  · rename_i a b
    cases ho
    rw [rBool h1] at rx; rw [rBool h2] at ry
    cases rx; cases ry
    by_cases e : a = b
    · subst e
      rw [beq_self_eq_true]
      exact slf rfl
    · rw [beq_eq_false_iff_ne.mpr e]
      exact oth rfl (fun z => e (Value.bool.inj z))
  · cases ho
    rw [rInt h1] at rx; rw [rNone h2] at ry
    obtain ⟨t, rfl⟩ := rx; cases ry
    exact oth rfl (by simp)
  · cases ho
    rw [rInt h1] at rx; rw [rBool h2] at ry
    obtain ⟨t, rfl⟩ := rx; cases ry
    exact oth rfl (by simp)
  · cases ho
    rw [rStr h1] at rx; rw [rNone h2] at ry
    obtain ⟨t, rfl⟩ := rx; cases ry
    exact oth rfl (by simp)
  · cases ho
    rw [rStr h1] at rx; rw [rBool h2] at ry
    obtain ⟨t, rfl⟩ := rx; cases ry
    exact oth rfl (by simp)
  · cases ho
    obtain ⟨a, xs, rfl, _⟩ := rList h1
    rw [rNone h2] at ry
    cases rx; cases ry
    exact oth rfl (by simp)
  · cases ho
    obtain ⟨a, xs, rfl, _⟩ := rList h1
    rw [rBool h2] at ry
    cases rx; cases ry
    exact oth rfl (by simp)
  · cases ho
    obtain ⟨a, xs, rfl, _⟩ := rTup h1
    rw [rNone h2] at ry
    cases rx; cases ry
    exact oth rfl (by simp)
  · cases ho
    obtain ⟨a, xs, rfl, _⟩ := rTup h1
    rw [rBool h2] at ry
    cases rx; cases ry
    exact oth rfl (by simp)
  · cases ho
    obtain ⟨a, xs, rfl, _⟩ := h1
    rw [rNone h2] at ry
    cases rx; cases ry
    exact oth rfl (by simp)
  · cases ho
    obtain ⟨a, xs, rfl, _⟩ := h1
    rw [rBool h2] at ry
    cases rx; cases ry
    exact oth rfl (by simp)
  · cases ho
theorem dIs_bool {d e : D} {p : D × Bool} (h : dIs d e = some p) : ∃ c, p = (.bool c, false) := by
  unfold dIs at h
  split at h <;> first | (cases h; exact ⟨_, rfl⟩) | cases h
theorem o_is : OpR X (compareOp .Is) (rOf Γ dIs) := by
  intro pins s σ H x y v u Q I rx ry h
  obtain ⟨F, d, e, p, tr, h1, h2, ho, q⟩ := h
  obtain ⟨c, rfl⟩ := dIs_bool ho
  exact (is_plain h1 h2 rx ry ho).1 ⟨.bl _, H, I, rfl, q _ _ aBool⟩
theorem o_isn : OpR X (compareOp .IsNot) (rOf Γ dIsN) := by
  intro pins s σ H x y v u Q I rx ry h
  obtain ⟨F, d, e, p, tr, h1, h2, ho, q⟩ := h
  unfold dIsN at ho
  split at ho
  · rename_i c z hc
    cases ho
    exact (is_plain h1 h2 rx ry hc).2 ⟨.bl _, H, I, rfl, q _ _ aBool⟩
  · cases ho
/-! ### in -/
def okI (xs : List D) (d : D) : Bool := PyData.plainAll xs && d.plain && decide (min (PyData.depthAll xs) d.depth ≤ 64)
def dIn (d : D) : D → Option (D × Bool)
  | .list xs => if okI xs d = true then some (.bool (xs.any fun y => PyData.eqv y d), false) else none
  | .tuple xs => if okI xs d = true then some (.bool (xs.any fun y => PyData.eqv y d), false) else none
  | .dict kvs => if (dictOk kvs && keyT d) = true then some (.bool (valK kvs d).isSome, false) else none
  | _ => none
def dNotIn (d : D) : D → Option (D × Bool)
  | .list xs => if okI xs d = true then some (.bool (!xs.any fun y => PyData.eqv y d), false) else none
  | .tuple xs => if okI xs d = true then some (.bool (!xs.any fun y => PyData.eqv y d), false) else none
  | .dict kvs => if (dictOk kvs && keyT d) = true then some (.bool (!(valK kvs d).isSome), false) else none
  | _ => none
/-- a key is asked for: what stands there -/
theorem asked {F : Addr → Prop} {H : Hp} {kvs : List (D × D)} {vs : List (NestedKey × Value)} {d : D} (pk : Paired (PairK Γ F H) kvs vs) : (valueAt vs (hkD d)).isSome = (valK kvs d).isSome := by
  have q := valK_at (d := d) pk
  cases h : valK kvs d with
  | none => rw [h] at q; rw [q]; rfl
  | some e => rw [h] at q; obtain ⟨_, _, e1, _⟩ := q; rw [e1]; rfl
theorem val_some {F : Addr → Prop} {H : Hp} {kvs : List (D × D)} {vs : List (NestedKey × Value)} {d e : D} (pk : Paired (PairK Γ F H) kvs vs) (h : valK kvs d = some e) : ∃ v u, valueAt vs (hkD d) = some u ∧ Γ.RV F H e v ∧ RelV v u := by
  have q := valK_at (d := d) pk
  rw [h] at q
  exact q
theorem okI_u {xs : List D} {d : D} (h : okI xs d = true) : PyData.plainAll xs = true ∧ d.plain = true ∧ min (PyData.depthAll xs) d.depth ≤ 64 := by
  unfold okI at h
  simp only [Bool.and_eq_true, decide_eq_true_eq] at h
  exact ⟨h.1.1, h.1.2, h.2⟩
theorem o_in (g : Gd Γ X sc st k) : OpR X (compareOp .In) (rOf Γ dIn) := by
  intro pins s σ H x y v u Q I rx ry h
  obtain ⟨F, d, e, p, tr, h1, h2, ho, q⟩ := h
  have hu := g.room.un
  unfold dIn at ho
  split at ho
  · split at ho
    · rename_i hz
      cases ho
      obtain ⟨p1, p2, p3⟩ := okI_u hz
      obtain ⟨as, r1⟩ := read_of g I p2 h1 rx
      obtain ⟨bs, r2⟩ := read_of g I (by simpa only [PyData.plain] using p1) h2 ry
      exact SeqAt.in_list_data r2 r1 p1 p2 (by omega) ⟨.bl _, H, I, rfl, q _ _ aBool⟩
    · cases ho
  · split at ho
    · rename_i hz
      cases ho
      obtain ⟨p1, p2, p3⟩ := okI_u hz
      obtain ⟨as, r1⟩ := read_of g I p2 h1 rx
      obtain ⟨bs, r2⟩ := read_of g I (by simpa only [PyData.plain] using p1) h2 ry
      exact SeqAt.in_tuple_data r2 r1 p1 p2 (by omega) ⟨.bl _, H, I, rfl, q _ _ aBool⟩
    · cases ho
  · split at ho
    · rename_i hz
      cases ho
      rw [Bool.and_eq_true] at hz
      obtain ⟨a, vs, rfl, sm, hm, pk⟩ := dict_at g.K g.prog g.w I hz.1 h2
      obtain ⟨b, rfl, rfl, isb⟩ := key_is g.K I hz.2 h1 rx
      cases ry
      have room : X.A.in1.units + 8 < cLine := by
        have e1 : X.A.in1.units = X.A.units + 1 := rfl
        omega
      refine in_keyed room isb sm hm ⟨.bl _, H, I.tok _, rfl, ?_⟩
      rw [asked pk]
      exact q _ _ aBool
    · cases ho
  · cases ho
theorem o_notIn (g : Gd Γ X sc st k) : OpR X (compareOp .NotIn) (rOf Γ dNotIn) := by
  intro pins s σ H x y v u Q I rx ry h
  obtain ⟨F, d, e, p, tr, h1, h2, ho, q⟩ := h
  have hu := g.room.un
  unfold dNotIn at ho
  split at ho
  · split at ho
    · rename_i hz
      cases ho
      obtain ⟨p1, p2, p3⟩ := okI_u hz
      obtain ⟨as, r1⟩ := read_of g I p2 h1 rx
      obtain ⟨bs, r2⟩ := read_of g I (by simpa only [PyData.plain] using p1) h2 ry
      exact SeqAt.notIn_list_data r2 r1 p1 p2 (by omega) ⟨.bl _, H, I, rfl, q _ _ aBool⟩
    · cases ho
  · split at ho
    · rename_i hz
      cases ho
      obtain ⟨p1, p2, p3⟩ := okI_u hz
      obtain ⟨as, r1⟩ := read_of g I p2 h1 rx
      obtain ⟨bs, r2⟩ := read_of g I (by simpa only [PyData.plain] using p1) h2 ry
      exact SeqAt.notIn_tuple_data r2 r1 p1 p2 (by omega) ⟨.bl _, H, I, rfl, q _ _ aBool⟩
    · cases ho
  · split at ho
    · rename_i hz
      cases ho
      rw [Bool.and_eq_true] at hz
      obtain ⟨a, vs, rfl, sm, hm, pk⟩ := dict_at g.K g.prog g.w I hz.1 h2
      obtain ⟨b, rfl, rfl, isb⟩ := key_is g.K I hz.2 h1 rx
      cases ry
      have room : X.A.in1.units + 8 < cLine := by
        have e1 : X.A.in1.units = X.A.units + 1 := rfl
        omega
      refine notIn_keyed room isb sm hm ⟨.bl _, H, I.tok _, rfl, ?_⟩
      rw [asked pk]
      exact q _ _ aBool
    · cases ho
  · cases ho
/-! ### places -/
def dIx : D → D → Option (D × Bool)
  | .list xs, .int i => (atI xs i).map fun d => (d, false)
  | .tuple xs, .int i => (atI xs i).map fun d => (d, false)
  | .dict kvs, d => if (dictOk kvs && keyT d) = true then (valK kvs d).map fun e => (e, false) else none
  | _, _ => none
theorem atI_rep {P : Program} {w : World} {K : PySem.W.Frag} {F : Addr → Prop} {H : Hp} {ds : List D} {xs : List V} {i : Int} {d : D} (r : RepL P w K F H ds xs) (h : atI ds i = some d) : ∃ v, atI xs i = some v ∧ RepV P w K F H d v := by
  unfold atI at h ⊢
  rw [← r.length]
  cases q : ixN ds.length i with
  | none => rw [q] at h; cases h
  | some j =>
    rw [q] at h
    exact r.get h
theorem o_ix (g : Gd Γ X sc st k) : IxR X (rOf Γ dIx) := by
  intro value slice pins s σ H x y v u Q I rx ry h hs
  obtain ⟨F, d, e, p, tr, h1, h2, ho, q⟩ := h
  unfold dIx at ho
  split at ho
  · obtain ⟨d', hd, rfl⟩ := Option.map_eq_some_iff.mp ho
    obtain ⟨a, xs, e1, l1, _, r1⟩ := rList h1
    rw [← g.K] at l1
    obtain ⟨z, hz, rz⟩ := atI_rep r1 hd
    exact ix_list value slice pins s σ H x y v u Q I rx ry ⟨a, xs, _, z, e1, rInt h2, l1, hz, q _ _ (.plain rz)⟩ hs
  · obtain ⟨d', hd, rfl⟩ := Option.map_eq_some_iff.mp ho
    obtain ⟨a, xs, e1, l1, _, r1⟩ := rTup h1
    rw [← g.K] at l1
    obtain ⟨z, hz, rz⟩ := atI_rep r1 hd
    exact ix_tup value slice pins s σ H x y v u Q I rx ry ⟨a, xs, _, z, e1, rInt h2, l1, hz, q _ _ (.plain rz)⟩ hs
  · split at ho
    · rename_i hz
      obtain ⟨d', hd, rfl⟩ := Option.map_eq_some_iff.mp ho
      rw [Bool.and_eq_true] at hz
      obtain ⟨a, vs, rfl, sm, hm, pk⟩ := dict_at g.K g.prog g.w I hz.1 h1
      obtain ⟨b, rfl, rfl, isb⟩ := key_is g.K I hz.2 h2 ry
      cases rx
      have hu := g.room.un
      obtain ⟨v', u', e1, r1, r2⟩ := val_some pk hd
      have room : X.A.in1.units + 8 < cLine := by
        have e1 : X.A.in1.units = X.A.units + 1 := rfl
        omega
      exact tail_any hm.typeIs PySem.F.slot_dict_getitem.lookup (getItem_keyed room isb hm e1 ⟨v', H, I.tok _, r2, q _ _ (.plain r1)⟩) hs
    · cases ho
  · cases ho
end
end Ow

namespace Ow
open PySem PyProof.Rows PySem.Spec L2 LamX

section
variable {Γ : Ctx} {X : Cx} {sc : Scope} {st : Str → Bool} {k : Nat} {F : Addr → Prop} {H : Hp} {v : V}
theorem rs1 {d : D} {vs : List V} (h : RepRs Γ F H [d] vs) : ∃ x, vs = [x] ∧ RepR Γ F H d x := by
  obtain ⟨x, us, rfl, r, rfl⟩ := h
  exact ⟨x, rfl, r⟩
theorem rs2 {d e : D} {vs : List V} (h : RepRs Γ F H [d, e] vs) : ∃ x y, vs = [x, y] ∧ RepR Γ F H d x ∧ RepR Γ F H e y := by
  obtain ⟨x, us, rfl, r, y, us', rfl, r', rfl⟩ := h
  exact ⟨x, y, rfl, r, r'⟩
/-! ### len -/
def dLen : List D → Option (D × Bool)
  | [.list xs] => some (.int xs.length, false)
  | [.tuple xs] => some (.int xs.length, false)
  | [.str x] => if x.length ≤ sizeLine then some (.int x.length, false) else none
  | _ => none
theorem c_len (g : Gd Γ X sc st k) : CallR X (.builtin "len") (rOfN Γ dLen) := by
  intro pins s σ H xs us Q I r h
  obtain ⟨F, ds, p, tr, h1, ho, q⟩ := h
  unfold dLen at ho
  split at ho
  · cases ho
    obtain ⟨x, rfl, hx⟩ := rs1 h1
    obtain ⟨a, ys, rfl, l, _, rr⟩ := rList hx
    rw [← g.K] at l
    exact call_len pins s σ H _ us Q I r ⟨_, _, rfl, .inl ⟨ys, l, rfl⟩, by rw [← rr.length]; exact q _ _ aInt⟩
  · cases ho
    obtain ⟨x, rfl, hx⟩ := rs1 h1
    obtain ⟨a, ys, rfl, l, _, rr⟩ := rTup hx
    rw [← g.K] at l
    exact call_len pins s σ H _ us Q I r ⟨_, _, rfl, .inr ⟨ys, l, rfl⟩, by rw [← rr.length]; exact q _ _ aInt⟩
  · split at ho
    · rename_i hz
      cases ho
      obtain ⟨x, rfl, hx⟩ := rs1 h1
      obtain rfl := rStr hx
      exact call_len pins s σ H _ us Q I r ⟨_, _, rfl, ⟨hz, rfl⟩, q _ _ aInt⟩
    · cases ho
  · cases ho
/-! ### isinstance(x, T) -/
def isiB (T : String) : D → Option Bool
  | .none => kitB "NoneType" T
  | .bool _ => kitB "bool" T
  | .int _ => kitB "int" T
  | .str _ => kitB "str" T
  | .list _ => kitB "list" T
  | .tuple _ => kitB "tuple" T
  | .dict _ => none
theorem isi_int (d : D) : isiB "int" d = match d with | .bool _ => some true | .int _ => some true | .dict _ => none | _ => some false := by
  cases d <;> first | rfl | (unfold isiB; decide +kernel)
theorem isi_tuple (d : D) : isiB "tuple" d = match d with | .tuple _ => some true | .dict _ => none | _ => some false := by
  cases d <;> first | rfl | (unfold isiB; decide +kernel)
theorem isi_list (d : D) : isiB "list" d = match d with | .list _ => some true | .dict _ => none | _ => some false := by
  cases d <;> first | rfl | (unfold isiB; decide +kernel)
theorem isi_str (d : D) : isiB "str" d = match d with | .str _ => some true | .dict _ => none | _ => some false := by
  cases d <;> first | rfl | (unfold isiB; decide +kernel)
def dIsi (T : String) (d : D) : Option (D × Bool) := (isiB T d).map fun b => (.bool b, false)
theorem ty_of (g : Gd Γ X sc st k) {T : String} {d : D} {x : V} {b : Bool} (h : RepR Γ F H d x) (e : isiB T d = some b) : ∃ t, TyX X.K H x (.type t) ∧ kitB t T = some b := by
  cases d with
  | none => obtain rfl := rNone h; exact ⟨_, .base .non, e⟩
  | bool c => obtain rfl := rBool h; exact ⟨_, .base (.bl c), e⟩
  | int i => obtain rfl := rInt h; exact ⟨_, .base (.int i), e⟩
  | str x => obtain rfl := rStr h; exact ⟨_, .base (.str x), e⟩
  | list ds =>
    obtain ⟨a, xs, rfl, l, _⟩ := rList h
    refine ⟨"list", ?_, e⟩
    rcases l with (l | ⟨o, l⟩) | ⟨o, its, n, l, c, _⟩
    · exact .base (.lst l)
    · exact .base (.frz l)
    · exact .kList (by rw [g.K]; exact l) c
  | tuple ds =>
    obtain ⟨a, xs, rfl, l, _⟩ := rTup h
    refine ⟨"tuple", ?_, e⟩
    rcases l with (l | ⟨o, l⟩) | ⟨o, its, n, l, c, _⟩
    · exact .base (.tup l)
    · exact .fTuple l
    · exact .kTuple (by rw [g.K]; exact l) c
  | dict kvs => cases e
theorem de_isi {e : Expr} {W : WX} {T : String} {Ts : Str} {f : EvO} {p p2 pos : Pos} (g : Gd Γ X sc st k) (hg : sc.names.lookup ("isinstance" : Str) = some .globalImplicit) (hm : Γ.mg ("isinstance" : Str) = none) (hgT : sc.names.lookup Ts = some .globalImplicit) (hmT : Γ.mg Ts = none)
    (hvT : bootBuiltins Ts = some (.type T)) (hnT : Ts ≠ "__name__") (hdT : (Ts == ("__debug__" : Str)) = false) (h : PE X e (tO Γ W f))
    (hs1 : starEach (e :: [.Name Ts p2]) X.env = (false, eval e X.env) :: starEach [.Name Ts p2] X.env) (hs2 : starEach (.Name Ts p2 :: []) X.env = (false, eval (.Name Ts p2) X.env) :: starEach [] X.env) (hpl : (backTo pos (starEach [.Name Ts p2] X.env)).any (·.1) = false) :
    PE X (.Call (.Name "isinstance" p) [e, .Name Ts p2] [] pos) (tD Γ W (eUn (dIsi T) f)) := by
  have G1 : ∀ {x : Str}, sc.names.lookup x = some .globalImplicit → Gl X x := fun {x} h => by show X.env.scope.names.lookup x = _; rw [g.scp]; exact h
  refine pe_imp (pe_callB call_isi (G1 hg) (by rw [g.mg]; exact hm) (by decide +kernel) (pa_cons h (pa_cons (pe_bltn (v := .ty T) (G1 hgT) (by rw [g.mg]; exact hmT) hvT rfl hnT hdT) pa_nil hs2) hs1) (by decide) (by decide) hs1 hpl) fun σ H Q ⟨F, ρ, G, S, O⟩ => ?_
  refine ⟨F, ρ, G, S, (Out.bind O).imp fun q ρ1 F1 H1 k1 G1 S1 O1 x hx sx => ?_⟩
  unfold dIsi at O1
  cases hi : isiB T q.1 with
  | none => rw [hi] at O1; exact O1.elim
  | some b =>
    rw [hi] at O1
    obtain ⟨t, ty, kb⟩ := ty_of g (S1.read hx sx) hi
    exact ⟨x, .ty T, _, .type T, b, rfl, .ty T, ty, kit_ty kb, O1 F1 H1 Fk.refl G1 S1 _ (resOk_plain vBool)⟩
/-! ### all, any -/
def isBoolD : D → Bool
  | .bool _ => true
  | _ => false
theorem bools_fine : ∀ {ds : List D}, ds.all isBoolD = true → PyData.plainAll ds = true ∧ ∀ x ∈ ds, x.fits63
  | [], _ => ⟨rfl, fun _ h => nomatch h⟩
  | d :: ds, h => by
    rw [List.all_cons, Bool.and_eq_true] at h
    obtain ⟨h1, h2⟩ := bools_fine h.2
    cases d with
    | bool b =>
      refine ⟨by simpa [PyData.plainAll, PyData.plain] using h1, fun x hx => ?_⟩
      rcases List.mem_cons.mp hx with e | e
      · subst e; exact True.intro
      · exact h2 x e
    | _ => cases h.1
def dAll : List D → Option (D × Bool)
  | [.list xs] => if xs.all isBoolD = true then some (.bool (xs.all PyData.truthy), false) else none
  | _ => none
def dAny : List D → Option (D × Bool)
  | [.list xs] => if xs.all isBoolD = true then some (.bool (xs.any PyData.truthy), false) else none
  | _ => none
theorem list_reads (g : Gd Γ X sc st k) {pins : List (Addr × Obj)} {s : Shared} {σ : L2.St} {ds : List D} {a : Addr} {xs : List V} (I : Inv X pins σ H s) (l : SqL Γ.K H a xs) (p : PyData.plainAll ds = true) (r : Γ.RL F H ds xs) :
    ∃ its : List Value, Vals xs its ∧ s.heap.IsList a its.toArray ∧ xs.length ≤ sizeLine ∧ ∃ as, ReadsAll s.heap its ds as := by
  rw [← g.K] at l
  obtain ⟨its, rv, pl, hz⟩ := I.list l
  obtain ⟨as, hr⟩ := Dp.readsAll I ds xs its (by rw [g.K]; exact RepL.dp ds xs p r) rv
  exact ⟨its, rv, pl.isList, hz, as, hr⟩
theorem ref1 {a : Addr} {us : List Value} (r : Vals [V.ref a] us) : us = [Value.ref a] := Vals.ref1 r
theorem c_all (g : Gd Γ X sc st k) (hh : Γ.hot = false) : CallR X (.builtin "all") (rOfN Γ dAll) := by
  intro pins s σ H xs us Q I r h
  obtain ⟨F, ds, p, tr, h1, ho, q⟩ := h
  unfold dAll at ho
  split at ho
  · split at ho
    · rename_i hb
      cases ho
      obtain ⟨x, rfl, hx⟩ := rs1 h1
      obtain ⟨a, ys, rfl, l, _, rr⟩ := rList hx
      obtain ⟨b1, b2⟩ := bools_fine hb
      obtain ⟨its, rv, il, _, as, hr⟩ := list_reads g I l b1 rr
      rw [ref1 r]
      exact PySem.W.all_list_data (I.ok.hd (g.calm hh)) il (by simpa using hr) b1 b2 fun h' tk kp => ⟨.bl _, H, I.kept kp, rfl, q _ _ aBool⟩
    · cases ho
  · cases ho
theorem c_any (g : Gd Γ X sc st k) (hh : Γ.hot = false) : CallR X (.builtin "any") (rOfN Γ dAny) := by
  intro pins s σ H xs us Q I r h
  obtain ⟨F, ds, p, tr, h1, ho, q⟩ := h
  unfold dAny at ho
  split at ho
  · split at ho
    · rename_i hb
      cases ho
      obtain ⟨x, rfl, hx⟩ := rs1 h1
      obtain ⟨a, ys, rfl, l, _, rr⟩ := rList hx
      obtain ⟨b1, b2⟩ := bools_fine hb
      obtain ⟨its, rv, il, _, as, hr⟩ := list_reads g I l b1 rr
      rw [ref1 r]
      exact PySem.W.any_list_data (I.ok.hd (g.calm hh)) il (by simpa using hr) b1 b2 fun h' tk kp => ⟨.bl _, H, I.kept kp, rfl, q _ _ aBool⟩
    · cases ho
  · cases ho
/-! ### ints: sum, max, min, abs, int -/
def intsOf : List D → Option (List Int)
  | [] => some []
  | .int i :: ds => (intsOf ds).map (i :: ·)
  | _ :: _ => none
theorem intsOf_eq : ∀ {ds : List D} {ns : List Int}, intsOf ds = some ns → ds = ns.map PyData.int
  | [], ns, h => by cases h; rfl
  | d :: ds, ns, h => by
    cases d with
    | int i =>
      obtain ⟨ms, e, rfl⟩ := Option.map_eq_some_iff.mp (show (intsOf ds).map (i :: ·) = some ns from h)
      rw [List.map_cons, ← intsOf_eq e]
    | _ => cases h
theorem intsOf_map : ∀ ns : List Int, intsOf (ns.map PyData.int) = some ns
  | [] => rfl
  | n :: ns => by simp [intsOf, intsOf_map ns]
theorem rep_ints : ∀ {ns : List Int} {xs : List V}, Γ.RL F H (ns.map PyData.int) xs → xs = ns.map V.int
  | [], xs, h => by simpa only [List.map_nil, RepL] using h
  | n :: ns, xs, h => by
    simp only [List.map_cons, RepL] at h
    obtain ⟨v, vs, rfl, r1, r2⟩ := h
    simp only [RepV] at r1
    rw [r1, List.map_cons, rep_ints r2]
theorem ints_rep : ∀ {ns : List Int}, Γ.RL F H (ns.map PyData.int) (ns.map V.int)
  | [] => RepL.nil
  | n :: ns => RepL.cons vInt ints_rep
def dSum : List D → Option (D × Bool)
  | [.list xs] => (intsOf xs).map fun ns => (.int ns.sum, false)
  | _ => none
theorem c_sum (g : Gd Γ X sc st k) (hh : Γ.hot = false) : CallR X (.builtin "sum") (rOfN Γ dSum) := by
  intro pins s σ H xs us Q I r h
  obtain ⟨F, ds, p, tr, h1, ho, q⟩ := h
  unfold dSum at ho
  split at ho
  · obtain ⟨ns, e, rfl⟩ := Option.map_eq_some_iff.mp ho
    obtain ⟨x, rfl, hx⟩ := rs1 h1
    obtain ⟨a, ys, rfl, l, _, rr⟩ := rList hx
    rw [intsOf_eq e] at rr
    rw [rep_ints rr, ← g.K] at l
    exact cr_sum (g.calm hh) pins s σ H _ us Q I r ⟨a, ns, rfl, l, q _ _ aInt⟩
  · cases ho
def foldMax (n : Int) (ns : List Int) : Int := ns.foldl max n
def foldMin (n : Int) (ns : List Int) : Int := ns.foldl min n
theorem foldMax_of : ∀ (ns : List Int) (n m : Int), m ∈ n :: ns → (∀ y ∈ n :: ns, y ≤ m) → ns.foldl max n = m
  | [], n, m, h, _ => by simp at h; simp [h]
  | x :: ns, n, m, h, g => by
    rw [List.foldl_cons]
    refine foldMax_of ns (max n x) m ?_ fun y hy => ?_
    · have g1 := g n (by simp)
      have g2 := g x (by simp)
      rcases List.mem_cons.mp h with e | h
      · have : max n x = m := by omega
        simp [this]
      · rcases List.mem_cons.mp h with e | h
        · have : max n x = m := by omega
          simp [this]
        · simp [h]
    · rcases List.mem_cons.mp hy with e | hy
      · have g1 := g n (by simp)
        have g2 := g x (by simp)
        omega
      · exact g y (by simp [hy])
theorem foldMin_of : ∀ (ns : List Int) (n m : Int), m ∈ n :: ns → (∀ y ∈ n :: ns, m ≤ y) → ns.foldl min n = m
  | [], n, m, h, _ => by simp at h; simp [h]
  | x :: ns, n, m, h, g => by
    rw [List.foldl_cons]
    refine foldMin_of ns (min n x) m ?_ fun y hy => ?_
    · have g1 := g n (by simp)
      have g2 := g x (by simp)
      rcases List.mem_cons.mp h with e | h
      · have : min n x = m := by omega
        simp [this]
      · rcases List.mem_cons.mp h with e | h
        · have : min n x = m := by omega
          simp [this]
        · simp [h]
    · rcases List.mem_cons.mp hy with e | hy
      · have g1 := g n (by simp)
        have g2 := g x (by simp)
        omega
      · exact g y (by simp [hy])
def dMax : List D → Option (D × Bool)
  | [.list xs] => (intsOf xs).bind fun ns => match ns with | [] => none | n :: ns => some (.int (foldMax n ns), false)
  | [.int a, .int b] => some (.int (if b > a then b else a), false)
  | _ => none
def dMin : List D → Option (D × Bool)
  | [.list xs] => (intsOf xs).bind fun ns => match ns with | [] => none | n :: ns => some (.int (foldMin n ns), false)
  | [.int a, .int b] => some (.int (if b < a then b else a), false)
  | _ => none
theorem c_max (g : Gd Γ X sc st k) (hh : Γ.hot = false) : CallR X (.builtin "max") (rOfN Γ dMax) := by
  intro pins s σ H xs us Q I r h
  obtain ⟨F, ds, p, tr, h1, ho, q⟩ := h
  unfold dMax at ho
  split at ho
  · obtain ⟨ns, e, e2⟩ := Option.bind_eq_some_iff.mp ho
    cases ns with
    | nil => cases e2
    | cons n ns =>
      cases e2
      obtain ⟨x, rfl, hx⟩ := rs1 h1
      obtain ⟨a, ys, rfl, l, _, rr⟩ := rList hx
      rw [intsOf_eq e] at rr
      rw [rep_ints rr, ← g.K] at l
      refine cr_max (g.calm hh) pins s σ H _ us Q I r ⟨a, n :: ns, rfl, l, Nat.succ_pos _, fun m hm hl => ?_⟩
      rw [← foldMax_of ns n m hm hl]
      exact q _ _ aInt
  · cases ho
    obtain ⟨x, y, rfl, hx, hy⟩ := rs2 h1
    obtain rfl := rInt hx
    obtain rfl := rInt hy
    exact call_max2 (g.calm hh) pins s σ H _ us Q I r ⟨_, _, rfl, q _ _ aInt⟩
  · cases ho
theorem c_min (g : Gd Γ X sc st k) (hh : Γ.hot = false) : CallR X (.builtin "min") (rOfN Γ dMin) := by
  intro pins s σ H xs us Q I r h
  obtain ⟨F, ds, p, tr, h1, ho, q⟩ := h
  unfold dMin at ho
  split at ho
  · obtain ⟨ns, e, e2⟩ := Option.bind_eq_some_iff.mp ho
    cases ns with
    | nil => cases e2
    | cons n ns =>
      cases e2
      obtain ⟨x, rfl, hx⟩ := rs1 h1
      obtain ⟨a, ys, rfl, l, _, rr⟩ := rList hx
      rw [intsOf_eq e] at rr
      rw [rep_ints rr, ← g.K] at l
      refine cr_min (g.calm hh) pins s σ H _ us Q I r ⟨a, n :: ns, rfl, l, Nat.succ_pos _, fun m hm hl => ?_⟩
      rw [← foldMin_of ns n m hm hl]
      exact q _ _ aInt
  · cases ho
    obtain ⟨x, y, rfl, hx, hy⟩ := rs2 h1
    obtain rfl := rInt hx
    obtain rfl := rInt hy
    exact call_min2 (g.calm hh) pins s σ H _ us Q I r ⟨_, _, rfl, q _ _ aInt⟩
  · cases ho
def dAbs : List D → Option (D × Bool)
  | [.int a] => some (.int (if a < 0 then -a else a), false)
  | _ => none
theorem c_abs : CallR X (.builtin "abs") (rOfN Γ dAbs) := by
  intro pins s σ H xs us Q I r h
  obtain ⟨F, ds, p, tr, h1, ho, q⟩ := h
  unfold dAbs at ho
  split at ho
  · cases ho
    obtain ⟨x, rfl, hx⟩ := rs1 h1
    obtain rfl := rInt hx
    exact call_abs pins s σ H _ us Q I r ⟨_, rfl, q _ _ aInt⟩
  · cases ho
def dInt : List D → Option (D × Bool)
  | [.int a] => some (.int a, false)
  | [.bool b] => some (.int (if b then 1 else 0), false)
  | _ => none
theorem c_int : CallR X (.type "int") (rOfN Γ dInt) := by
  intro pins s σ H xs us Q I r h
  obtain ⟨F, ds, p, tr, h1, ho, q⟩ := h
  unfold dInt at ho
  split at ho
  · cases ho
    obtain ⟨x, rfl, hx⟩ := rs1 h1
    obtain rfl := rInt hx
    exact call_int1 pins s σ H _ us Q I r (.inl ⟨_, rfl, q _ _ aInt⟩)
  · cases ho
    obtain ⟨x, rfl, hx⟩ := rs1 h1
    obtain rfl := rBool hx
    exact call_int1 pins s σ H _ us Q I r (.inr ⟨_, rfl, q _ _ aInt⟩)
  · cases ho
/-! ### tuple, list -/
def dTuple : List D → Option (D × Bool)
  | [.list xs] => some (.tuple xs, false)
  | [.tuple xs] => some (.tuple xs, false)
  | _ => none
def dList : List D → Option (D × Bool)
  | [.list xs] => some (.list xs, true)
  | [.tuple xs] => some (.list xs, true)
  | _ => none
theorem c_tuple (g : Gd Γ X sc st k) : CallR X (.type "tuple") (rOfN Γ dTuple) := by
  intro pins s σ H xs us Q I r h
  obtain ⟨F, ds, p, tr, h1, ho, q⟩ := h
  unfold dTuple at ho
  split at ho
  · cases ho
    obtain ⟨x, rfl, hx⟩ := rs1 h1
    obtain ⟨a, ys, rfl, l, z, rr⟩ := rList hx
    rw [← g.K] at l
    exact call_tuple_of pins s σ H _ us Q I r ⟨a, ys, rfl, .inl ⟨l, fun p hp => q _ _ (.newTup tr hp z rr)⟩⟩
  · cases ho
    obtain ⟨x, rfl, hx⟩ := rs1 h1
    obtain ⟨a, ys, rfl, l, z, rr⟩ := rTup hx
    exact call_tuple_of pins s σ H _ us Q I r ⟨a, ys, rfl, .inr ⟨by rw [g.K]; exact l, q _ _ (.plain (by simp only [RepV]; exact ⟨a, ys, rfl, l, z, rr⟩))⟩⟩
  · cases ho
theorem c_list (g : Gd Γ X sc st k) : CallR X (.type "list") (rOfN Γ dList) := by
  intro pins s σ H xs us Q I r h
  obtain ⟨F, ds, p, tr, h1, ho, q⟩ := h
  unfold dList at ho
  split at ho
  · cases ho
    obtain ⟨x, rfl, hx⟩ := rs1 h1
    obtain ⟨a, ys, rfl, l, z, rr⟩ := rList hx
    rw [← g.K] at l
    exact call_list_of pins s σ H _ us Q I r ⟨a, ys, rfl, .inl l, fun p hp => q _ _ (.newList tr hp z rr)⟩
  · cases ho
    obtain ⟨x, rfl, hx⟩ := rs1 h1
    obtain ⟨a, ys, rfl, l, z, rr⟩ := rTup hx
    rw [← g.K] at l
    exact call_list_of pins s σ H _ us Q I r ⟨a, ys, rfl, .inr l, fun p hp => q _ _ (.newList tr hp z rr)⟩
  · cases ho
/-! ### sorted -/
def tup1 : D → Bool
  | .tuple (_ :: _) => true
  | _ => false
def noTup : D → Bool
  | .tuple _ => false
  | .none => false
  | _ => true
def okS (ds : List D) : Bool := PyData.plainAll ds && (ds.all fun a => ds.all fun b => PySem.W.alike a b) && (ds.all tup1 || ds.all noTup) && decide (PyData.depthAll ds ≤ 64)
def sortD (ds : List D) : List D := ds.mergeSort (PySem.W.dataLe false id)
def dSorted : List D → Option (D × Bool)
  | [.list xs] => if okS xs = true then some (.list (sortD xs), true) else none
  | _ => none
theorem each_mk : ∀ {ds : List D} {xs : List V} {its : List Value}, Γ.RL F H ds xs → Vals xs its → PySem.W.EachIs (fun v d => ∃ x, RelV x v ∧ Γ.RV F H d x) its ds
  | [], xs, its, r, rv => by
    simp only [RepL] at r
    subst r
    cases rv
    exact .nil
  | d :: ds, xs, its, r, rv => by
    simp only [RepL] at r
    obtain ⟨x, xs', rfl, r1, r2⟩ := r
    cases rv with
    | cons a b => exact .cons ⟨x, a, r1⟩ (each_mk r2 b)
theorem each_un : ∀ {ds : List D} {its : List Value}, PySem.W.EachIs (fun v d => ∃ x, RelV x v ∧ Γ.RV F H d x) its ds → ∃ xs, Vals xs its ∧ Γ.RL F H ds xs
  | [], _, .nil => ⟨[], .nil, RepL.nil⟩
  | d :: ds, _, .cons ⟨x, r, h⟩ t => by
    obtain ⟨xs, rv, rl⟩ := each_un t
    exact ⟨x :: xs, .cons r rv, RepL.cons h rl⟩
theorem depthAll_mem : ∀ {ds : List D} {d : D}, d ∈ ds → d.depth ≤ PyData.depthAll ds
  | [], d, h => nomatch h
  | e :: ds, d, h => by
    simp only [PyData.depthAll]
    rcases List.mem_cons.mp h with rfl | h
    · omega
    · have := depthAll_mem h
      omega
theorem okS_u {ds : List D} (h : okS ds = true) : PyData.plainAll ds = true ∧ PySem.W.AllAlike ds ∧ PySem.W.Sortable ds ∧ ∀ d ∈ ds, d.depth ≤ 64 := by
  unfold okS at h
  simp only [Bool.and_eq_true, Bool.or_eq_true, decide_eq_true_eq, List.all_eq_true] at h
  obtain ⟨⟨⟨h1, h2⟩, h3⟩, h4⟩ := h
  refine ⟨h1, fun d hd d' hd' => h2 d hd d' hd', ?_, fun d hd => Nat.le_trans (depthAll_mem hd) h4⟩
  rcases h3 with h3 | h3
  · left
    intro d hd
    have := h3 d hd
    unfold tup1 at this
    split at this
    · exact ⟨_, _, rfl⟩
    · cases this
  · right
    intro d hd
    have := h3 d hd
    unfold noTup at this
    split at this
    · cases this
    · cases this
    · rename_i n1 n2
      exact ⟨fun e => n2 e, fun xs e => n1 xs e⟩
theorem each_reads {h : Heap} : ∀ {ds : List D} {its : List Value} {as : List Addr}, ReadsAll h its ds as → PySem.W.EachIs (fun v d => ∃ as, Reads h v d as) its ds
  | [], _, _, .nil => .nil
  | d :: ds, _, _, .cons a b => .cons ⟨_, a⟩ (each_reads b)
theorem c_sorted (g : Gd Γ X sc st k) : CallR X (.builtin "sorted") (rOfN Γ dSorted) := by
  intro pins s σ H xs us Q I r h
  obtain ⟨F, ds, p, tr, h1, ho, q⟩ := h
  unfold dSorted at ho
  split at ho
  · split at ho
    · rename_i hb
      cases ho
      obtain ⟨x, rfl, hx⟩ := rs1 h1
      obtain ⟨a, ys, rfl, l, hz, rr⟩ := rList hx
      obtain ⟨b1, b2, b3, b4⟩ := okS_u hb
      obtain ⟨its, rv, il, _, as, hr⟩ := list_reads g I l b1 rr
      rw [ref1 r]
      have hu := g.room.un
      refine PySem.W.sorted_data (enc := id) (R := fun v d => ∃ x, RelV x v ∧ Γ.RV F H d x) il (each_mk rr rv) (each_reads hr) (by rw [List.map_id]; exact b2) (by rw [List.map_id]; exact b3) (by rw [rr.length]; exact hz) (fun b hb' => ?_) fun out hl ho => ?_
      · have := b4 b hb'
        show X.A.units + 2 + b.depth < cLine
        omega
      · obtain ⟨zs, rz, lz⟩ := each_un ho
        rcases PyProof.Rows.sortedAll_at s.heap its out.toArray with ⟨ep, he'⟩
        have hlen : zs.length ≤ sizeLine := by rw [rz.length, hl, rr.length]; exact hz
        exact ⟨.ref _, upd H (s.heap.objs.size + 1) (.lst zs), I.laid (t' := s.toks) (fun _ _ => PyProof.Rows.sortedAll_old) (Nat.le_succ _) ⟨hlen, out, ep, rz, he'⟩, rfl, q _ _ (.newList tr (I.hok.fresh (Nat.le_succ _)) hlen lz)⟩
    · cases ho
  · cases ho
/-! ### repr -/
def noDicts (d : D) : Bool := d.plain && !d.hasDict
def dRepr : List D → Option (D × Bool)
  | [.none] => some (.str "None", false)
  | [.bool b] => some (.str (if b then "True" else "False"), false)
  | [.str x] => if (reprText x).length ≤ sizeLine then some (.str (reprText x), false) else none
  | [.int i] => if i.natAbs.log2 < 1920 then some (.str (toString i), false) else none
  | [.list ds] => if (noDicts (.list ds) && PyData.showable (.list ds) && decide (PyData.depth (.list ds) ≤ 64) && decide ((PyData.shown (.list ds)).length ≤ sizeLine)) = true then some (.str (PyData.shown (.list ds)), false) else none
  | [.tuple ds] => if (noDicts (.tuple ds) && PyData.showable (.tuple ds) && decide (PyData.depth (.tuple ds) ≤ 64) && decide ((PyData.shown (.tuple ds)).length ≤ sizeLine)) = true then some (.str (PyData.shown (.tuple ds)), false) else none
  | _ => none
theorem repr_ref (g : Gd Γ X sc st k) (hgb : Γ.gb = true) {d : D} {a : Addr} {pins : List (Addr × Obj)} {s : Shared} {σ : L2.St} {Q : VK} (I : Inv X pins σ H s) (h : RepR Γ F H d (.ref a)) (hb : (noDicts d && PyData.showable d && decide (d.depth ≤ 64) && decide (d.shown.length ≤ sizeLine)) = true) (q : Q (.str d.shown) H) :
    wpAny (model X.prog X.w) X.A (call (.builtin "repr") [.ref a]) (EP X pins σ Q) X.xe s := by
  simp only [Bool.and_eq_true, decide_eq_true_eq, noDicts, Bool.not_eq_true'] at hb
  obtain ⟨⟨⟨⟨b1, b2⟩, b3⟩, b4⟩, b5⟩ := hb
  obtain ⟨as, hr⟩ := read_of g I b1 h (rfl : RelV (.ref a) (.ref a))
  have hu := g.room.un
  exact PySem.repr_of_reads' hr b3 (PyData.noDict_hsm b2) (g.gd hgb) (by omega) (fun _ _ e => e) (fun h' u tk kp => ⟨.str _, H, I.kept kp, ⟨_, rfl⟩, q⟩) b5
theorem c_repr (g : Gd Γ X sc st k) (hgb : Γ.gb = true) : CallR X (.builtin "repr") (rOfN Γ dRepr) := by
  intro pins s σ H xs us Q I r h
  obtain ⟨F, ds, p, tr, h1, ho, q⟩ := h
  unfold dRepr at ho
  split at ho
  · cases ho
    obtain ⟨x, rfl, hx⟩ := rs1 h1
    obtain rfl := rNone hx
    obtain ⟨u, rfl, rfl⟩ := vals1 r
    exact PySem.P.repr_of_none ⟨.str _, H, I.tok _, ⟨_, rfl⟩, q _ _ aStr⟩
  · cases ho
    obtain ⟨x, rfl, hx⟩ := rs1 h1
    obtain rfl := rBool hx
    obtain ⟨u, rfl, rfl⟩ := vals1 r
    exact PySem.P.repr_of_bool ⟨.str _, H, I.tok _, ⟨_, rfl⟩, q _ _ aStr⟩
  · split at ho
    · rename_i hb
      cases ho
      obtain ⟨x, rfl, hx⟩ := rs1 h1
      obtain rfl := rStr hx
      rcases vals1 r with ⟨u, rfl, t, rfl⟩
      exact PySem.P.repr_of_str ⟨.str _, H, I.tok _, ⟨_, rfl⟩, q _ _ aStr⟩ hb
    · cases ho
  · split at ho
    · rename_i hb
      cases ho
      obtain ⟨x, rfl, hx⟩ := rs1 h1
      obtain rfl := rInt hx
      exact SkE.call_repr_int pins s σ H _ us Q I r ⟨_, rfl, hb, q _ _ aStr⟩
    · cases ho
  · split at ho
    · rename_i hb
      cases ho
      obtain ⟨x, rfl, hx⟩ := rs1 h1
      obtain ⟨a, ys, rfl, _⟩ := id (rList hx)
      rw [ref1 r]
      exact repr_ref g hgb I hx hb (q _ _ aStr)
    · cases ho
  · split at ho
    · rename_i hb
      cases ho
      obtain ⟨x, rfl, hx⟩ := rs1 h1
      obtain ⟨a, ys, rfl, _⟩ := id (rTup hx)
      rw [ref1 r]
      exact repr_ref g hgb I hx hb (q _ _ aStr)
    · cases ho
  · cases ho
end
end Ow

namespace Ow
open PySem PyProof.Rows PySem.Spec L2 LamX

/-- what is walked, told by data: the items, the sources as they lie -/
abbrev Src := List (D × Option Nat)
abbrev EvI := AE → Res (List D × Src)
/-- the sources are read -/
def Rdy (Γ : Ctx) (F : Addr → Prop) (H : Hp) (bs : Src) (vs : List V) : Prop := RepRs Γ F H (bs.map (·.1)) vs
/-- the walk J gives the items ds, while the sources are as they were -/
def WalkD (Γ : Ctx) (J : It) (ds : List D) (bs : Src) (vs : List V) : Prop := ∀ (F : Addr → Prop) (H : Hp), (∀ a, F a → NTo H a) → Rdy Γ F H bs vs →
  (∀ i, i < ds.length → J.go i H) ∧ J.stop ds.length H ∧ ∀ i x H', i < ds.length → J.yld i H x H' → ∃ d, ds[i]? = some d ∧ Ext H H' ∧ Γ.RV F H' d x
def RepBs (Γ : Ctx) (F : Addr → Prop) (H : Hp) (σ : L2.St) : Src → List V → Prop
  | [], vs => vs = []
  | p :: ps, vs => ∃ v us, vs = v :: us ∧ RepB Γ F H σ p v ∧ RepBs Γ F H σ ps us
def tI (Γ : Ctx) (W : WX) (f : EvI) : TI := fun σ H R => ∃ F ρ, GInv Γ F H ∧ RepS Γ F H σ ρ ∧ Out Γ W (f ρ) F H σ fun p ρ' F' H' => ∀ J vs, p.1.length ≤ sizeLine → RepBs Γ F' H' σ p.2 vs → stills p.2 ρ' = true → WalkD Γ J p.1 p.2 vs → R J H'
section
variable {Γ : Ctx} {F F' : Addr → Prop} {H H' : Hp} {σ : L2.St} {ρ : AE}
theorem RepBs.mono (k : Fk F H F' H') : ∀ {bs : Src} {vs : List V}, RepBs Γ F H σ bs vs → RepBs Γ F' H' σ bs vs
  | [], vs, h => h
  | p :: ps, vs, h => by
    obtain ⟨v, us, e, r, t⟩ := h
    exact ⟨v, us, e, r.mono k, RepBs.mono k t⟩
theorem RepS.reads (S : RepS Γ F H σ ρ) : ∀ {bs : Src} {vs : List V}, RepBs Γ F H σ bs vs → stills bs ρ = true → Rdy Γ F H bs vs
  | [], vs, h, _ => h
  | p :: ps, vs, h, hs => by
    obtain ⟨v, us, e, r, t⟩ := h
    simp only [stills, Bool.and_eq_true] at hs
    exact ⟨v, us, e, S.read r hs.1, S.reads t hs.2⟩
end
/-! ### a list, a tuple, a text -/
def signs (x : Str) : List D := x.cps.toList.map fun c => .str ⟨#[c]⟩
def itemsD : D → Option (List D)
  | .list xs => some xs
  | .tuple xs => some xs
  | .str x => if x.cps.size ≤ sizeLine then some (signs x) else none
  | _ => none
def iSeq (f : EvO) : EvI := fun ρ => (f ρ).bind fun p ρ' => match itemsD p.1 with | some ds => .ok (ds, [p]) ρ' | none => .stuck
section
variable {Γ : Ctx} {X : Cx} {sc : Scope} {st : Str → Bool} {k : Nat} {W : WX}
theorem walkD_list {a : Addr} {ds : List D} {b : Option Nat} : WalkD Γ (Itl Γ.K a) ds [(.list ds, b)] [.ref a] := fun F H tr h => by
  obtain ⟨x, e, hx⟩ := rs1 h
  cases e
  obtain ⟨a', xs, e, l, z, r⟩ := rList hx
  cases e
  have hl := r.length
  refine ⟨fun i hi => ?_, ⟨xs, l, by rw [hl]; exact Nat.le_refl _⟩, fun i x H' hi hy => ?_⟩
  · obtain ⟨v, hv⟩ : ∃ v, xs[i]? = some v := ⟨_, List.getElem?_eq_getElem (by rw [← hl]; exact hi)⟩
    exact ⟨xs, v, l, hv⟩
  · obtain ⟨rfl, q⟩ := hy
    obtain ⟨d, hd⟩ : ∃ d, ds[i]? = some d := ⟨_, List.getElem?_eq_getElem hi⟩
    obtain ⟨v, hv, rv⟩ := r.get hd
    have := q xs l
    rw [hv] at this
    cases this
    exact ⟨d, hd, Ext.refl, rv⟩
theorem walkD_tup {a : Addr} {ds : List D} {b : Option Nat} : WalkD Γ (Itt Γ.K a) ds [(.tuple ds, b)] [.ref a] := fun F H tr h => by
  obtain ⟨x, e, hx⟩ := rs1 h
  cases e
  obtain ⟨a', xs, e, l, z, r⟩ := rTup hx
  cases e
  have hl := r.length
  refine ⟨fun i hi => ?_, ⟨xs, l, by rw [hl]; exact Nat.le_refl _⟩, fun i x H' hi hy => ?_⟩
  · obtain ⟨v, hv⟩ : ∃ v, xs[i]? = some v := ⟨_, List.getElem?_eq_getElem (by rw [← hl]; exact hi)⟩
    exact ⟨xs, v, l, hv⟩
  · obtain ⟨rfl, q⟩ := hy
    obtain ⟨d, hd⟩ : ∃ d, ds[i]? = some d := ⟨_, List.getElem?_eq_getElem hi⟩
    obtain ⟨v, hv, rv⟩ := r.get hd
    have := q xs l
    rw [hv] at this
    cases this
    exact ⟨d, hd, Ext.refl, rv⟩
theorem walkD_str {z : Str} {b : Option Nat} {vs : List V} : WalkD Γ (Its z) (signs z) [(.str z, b)] vs := fun F H tr h => by
  have hl : (signs z).length = z.cps.size := by unfold signs; simp
  have w := walk_str (z := z)
  refine ⟨fun i hi => w.goes i H (by rw [← hl]; exact hi) True.intro, by rw [hl]; exact w.stops H True.intro, fun i x H' hi hy => ?_⟩
  obtain ⟨e, c, hc, ex⟩ := w.yields i H x H' (by rw [← hl]; exact hi) True.intro hy
  subst e
  subst ex
  refine ⟨.str ⟨#[c]⟩, ?_, Ext.refl, vStr⟩
  unfold signs
  rw [List.getElem?_map, Array.getElem?_toList, hc]
  rfl
/-- what an iterator over a list, a tuple, a text is -/
def iAny (K : PySem.W.Frag) (te : TE) : TI := fun σ H R => te σ H fun x H1 => (∃ a, x = .ref a ∧ (∃ xs, SqL K H1 a xs) ∧ R (Itl K a) H1) ∨ (∃ a, x = .ref a ∧ (∃ xs, SqT K H1 a xs) ∧ R (Itt K a) H1) ∨ ∃ z, x = .str z ∧ R (Its z) H1
theorem pi_any {l tg : Expr} {tl : TE} (hl : PE X l tl) : PI X tg l (iAny X.K tl) := by
  refine ⟨fun pins s σ H R I h => ?_⟩
  refine thn (hl.run pins s σ H _ I h) ?_
  rintro v s1 ⟨x, H1, I1, r1, ⟨a, e, ⟨xs, hq⟩, q⟩ | ⟨a, e, ⟨xs, hq⟩, q⟩ | ⟨z, e, q⟩⟩
  · subst e
    cases r1
    obtain ⟨_, _, p, _⟩ := I1.list hq
    exact wpAny_pyIter_list p.isList (pi_one (tk := s1.toks) I1 _ (turn_list a _) ⟨_, Heap.get?_push_size _ rfl, rfl, rfl⟩ q)
  · subst e
    cases r1
    obtain ⟨vs1, _, p, _⟩ := I1.tuple hq
    have p : s1.heap.IsTuple a vs1.toArray := p
    exact wpAny_pyIter_tuple p (pi_one (tk := s1.toks) I1 _ (turn_tuple a _) ⟨_, Heap.get?_push_size _ rfl, rfl, rfl⟩ q)
  · subst e
    obtain ⟨t, rfl⟩ := r1
    cases ha : z.cps.all (· < 128)
    · exact wpAny_pyIter_wide ha (pi_one (tk := s1.toks) I1 _ (turn_str _ z t "str_iterator" (.inr rfl)) ⟨_, Heap.get?_push_size _ rfl, rfl, rfl⟩ q)
    · exact wpAny_pyIter_ascii ha (pi_one (tk := s1.toks) I1 _ (turn_str _ z t "str_ascii_iterator" (.inl rfl)) ⟨_, Heap.get?_push_size _ rfl, rfl, rfl⟩ q)
theorem pi_imp {tg iter : Expr} {t t' : TI} (h : PI X tg iter t) (i : ∀ σ H R, t' σ H R → t σ H R) : PI X tg iter t' := ⟨fun pins s σ H R I q => h.run pins s σ H R I (i σ H R q)⟩
theorem di_seq {e tg : Expr} {f : EvO} (g : Gd Γ X sc st k) (h : PE X e (tO Γ W f)) : PI X tg e (tI Γ W (iSeq f)) := by
  refine pi_imp (pi_any h) fun σ H R ⟨F, ρ, G, S, O⟩ => ?_
  refine ⟨F, ρ, G, S, (Out.bind O).imp fun p ρ1 F1 H1 k1 G1 S1 O1 x hx sx => ?_⟩
  obtain ⟨d, b⟩ := p
  have hr := S1.read hx sx
  have bs : RepBs Γ F1 H1 σ [(d, b)] [x] := ⟨x, [], rfl, hx, rfl⟩
  have ss : stills [(d, b)] ρ1 = true := by simp only [stills, Bool.and_true]; exact sx
  cases d with
  | list ds =>
    obtain ⟨a, xs, rfl, l, z, r⟩ := rList hr
    exact .inl ⟨a, rfl, ⟨xs, by rw [g.K]; exact l⟩, O1 F1 H1 Fk.refl G1 S1 _ _ (by show ds.length ≤ _; rw [r.length]; exact z) bs ss (by rw [g.K]; exact walkD_list)⟩
  | tuple ds =>
    obtain ⟨a, xs, rfl, l, z, r⟩ := rTup hr
    exact .inr (.inl ⟨a, rfl, ⟨xs, by rw [g.K]; exact l⟩, O1 F1 H1 Fk.refl G1 S1 _ _ (by show ds.length ≤ _; rw [r.length]; exact z) bs ss (by rw [g.K]; exact walkD_tup)⟩)
  | str z =>
    obtain rfl := rStr hr
    simp only [itemsD] at O1
    by_cases hz : z.cps.size ≤ sizeLine
    · rw [if_pos hz] at O1
      exact .inr (.inr ⟨z, rfl, O1 F1 H1 Fk.refl G1 S1 _ _ (by show (signs z).length ≤ _; unfold signs; simpa using hz) bs ss walkD_str⟩)
    · rw [if_neg hz] at O1
      exact O1.elim
  | _ => exact O1.elim
/-! ### range -/
def rangeD (lo : Int) (n : Nat) : List D := (List.range n).map fun (i : Nat) => .int (lo + (i : Int))
@[irreducible] def iRange1 (f : EvO) : EvI := fun ρ => (f ρ).bind fun p ρ' => match p.1 with | .int j => (if j < 2 ^ 24 ∧ -(2 ^ 62) ≤ j then .ok (rangeD 0 j.toNat, []) ρ' else .stuck) | _ => .stuck
@[irreducible] def iRange2 (f f2 : EvO) : EvI := fun ρ => (f ρ).bind fun p ρ' => (f2 ρ').bind fun q ρ2 => match p.1, q.1 with
  | .int i, .int j => (if -(2 ^ 62) ≤ i ∧ i < 2 ^ 62 ∧ -(2 ^ 62) ≤ j ∧ j < 2 ^ 62 ∧ j - i < 2 ^ 24 then .ok (rangeD i (j - i).toNat, []) ρ2 else .stuck)
  | _, _ => .stuck
theorem walkD_range {lo : Int} {n : Nat} {vs : List V} : WalkD Γ (Itr lo n) (rangeD lo n) [] vs := fun F H tr h => by
  have hl : (rangeD lo n).length = n := by unfold rangeD; simp
  refine ⟨fun i hi => ?_, ?_, fun i x H' hi hy => ?_⟩
  · show i < n
    rw [← hl]; exact hi
  · show n ≤ (rangeD lo n).length
    rw [hl]; exact Nat.le_refl _
  · obtain ⟨rfl, rfl⟩ := hy
    rw [hl] at hi
    refine ⟨.int (lo + i), ?_, Ext.refl, vInt⟩
    unfold rangeD
    rw [List.getElem?_map, List.getElem?_range hi]
    rfl
theorem di_range1 {e tg : Expr} {f : EvO} {p pos : Pos} (g : Gd Γ X sc st k) (hg : sc.names.lookup ("range" : Str) = some .globalImplicit) (hm : Γ.mg ("range" : Str) = none) (h : PE X e (tO Γ W f)) (hs : starEach [e] X.env = [(false, eval e X.env)]) :
    PI X tg (.Call (.Name "range" p) [e] [] pos) (tI Γ W (iRange1 f)) := by
  refine pi_imp (pi_range1 (by show X.env.scope.names.lookup _ = _; rw [g.scp]; exact hg) (by rw [g.mg]; exact hm) (pa_cons h pa_nil (by rw [hs]; rfl)) hs) fun σ H R ⟨F, ρ, G, S, O⟩ => ?_
  unfold iRange1 at O
  refine ⟨F, ρ, G, S, (Out.bind O).imp fun p ρ1 F1 H1 k1 G1 S1 O1 x hx sx => ?_⟩
  obtain ⟨d, b⟩ := p
  have hr := S1.read hx sx
  cases d with
  | int j =>
    obtain rfl := rInt hr
    simp only at O1
    split at O1
    · rename_i hj
      exact ⟨j, rfl, hj.2, by omega, O1 F1 H1 Fk.refl G1 S1 _ [] (by show (rangeD 0 j.toNat).length ≤ _; rw [sizeLine_eq]; unfold rangeD; rw [List.length_map, List.length_range]; omega) rfl rfl walkD_range⟩
    · exact O1.elim
  | _ => exact O1.elim
theorem di_range2 {e e2 tg : Expr} {f f2 : EvO} {p pos : Pos} (g : Gd Γ X sc st k) (hg : sc.names.lookup ("range" : Str) = some .globalImplicit) (hm : Γ.mg ("range" : Str) = none) (h : PE X e (tO Γ W f)) (h2 : PE X e2 (tO Γ W f2)) (hs : starEach [e, e2] X.env = [(false, eval e X.env), (false, eval e2 X.env)])
    (hs2 : starEach [e2] X.env = [(false, eval e2 X.env)]) : PI X tg (.Call (.Name "range" p) [e, e2] [] pos) (tI Γ W (iRange2 f f2)) := by
  refine pi_imp (pi_range2 (by show X.env.scope.names.lookup _ = _; rw [g.scp]; exact hg) (by rw [g.mg]; exact hm) (pa_cons h (pa_cons h2 pa_nil (by rw [hs2]; rfl)) (by rw [hs, hs2])) hs hs2) fun σ H R ⟨F, ρ, G, S, O⟩ => ?_
  unfold iRange2 at O
  refine ⟨F, ρ, G, S, (Out.bind O).imp fun p ρ1 F1 H1 k1 G1 S1 O1 x hx sx => ?_⟩
  refine ⟨F1, ρ1, G1, S1, (Out.bind O1).imp fun q ρ2 F2 H2 k2 G2 S2 O2 y hy sy => ?_⟩
  obtain ⟨d, b⟩ := p
  obtain ⟨d2, b2⟩ := q
  have hr2 := S2.read hy sy
  cases d with
  | int i =>
    cases d2 with
    | int j =>
      have hr := S1.read hx sx
      obtain rfl := rInt hr
      obtain rfl := rInt hr2
      simp only at O2
      split at O2
      · rename_i hj
        exact ⟨i, j, rfl, ⟨hj.1, hj.2.1, hj.2.2.1, hj.2.2.2.1⟩, O2 F2 H2 Fk.refl G2 S2 _ [] (by show (rangeD i (j - i).toNat).length ≤ _; rw [sizeLine_eq]; unfold rangeD; rw [List.length_map, List.length_range]; omega) rfl rfl walkD_range⟩
      · exact O2.elim
    | _ => exact O2.elim
  | _ => exact O2.elim
end
/-! ### targets -/
inductive Tg where
  | name (i : Nat)
  | tup (is : List Tg)
mutual
def bindT : Tg → D → AE → Option AE
  | .name i, d, ρ => match ρ[i]? with | some (.ino _) => none | some _ => some (ρ.set i (.val d)) | none => none
  | .tup is, .tuple ds, ρ => if is.length = ds.length then bindTs is ds ρ else none
  | .tup _, _, _ => none
def bindTs : List Tg → List D → AE → Option AE
  | [], [], ρ => some ρ
  | t :: ts, d :: ds, ρ => match bindT t d ρ with | some ρ' => bindTs ts ds ρ' | none => none
  | _, _, _ => none
end
mutual
def Tg.slots : Tg → List Nat
  | .name i => [i]
  | .tup is => slotsTs is
def slotsTs : List Tg → List Nat
  | [] => []
  | t :: ts => t.slots ++ slotsTs ts
end
/-- a target takes a value that is frozen -/
def tG (Γ : Ctx) (t : Tg) : TG := fun v σ H Q => ∃ F ρ d ρ', GInv Γ F H ∧ RepS Γ F H σ ρ ∧ Γ.RV F H d v ∧ bindT t d ρ = some ρ' ∧ ∀ σ', (∀ i, i ∉ t.slots → σ'[i]? = σ[i]?) → RepS Γ F H σ' ρ' → Q σ' H
def tGs (Γ : Ctx) (ts : List Tg) : TGs := fun vs σ H Q => ∃ F ρ ds ρ', GInv Γ F H ∧ RepS Γ F H σ ρ ∧ Γ.RL F H ds vs ∧ bindTs ts ds ρ = some ρ' ∧ ∀ σ', (∀ i, i ∉ slotsTs ts → σ'[i]? = σ[i]?) → RepS Γ F H σ' ρ' → Q σ' H
section
variable {Γ : Ctx} {X : Cx} {sc : Scope} {st : Str → Bool} {k : Nat} {W : WX}
theorem RepS.store {F : Addr → Prop} {H : Hp} {σ : L2.St} {ρ : AE} {i : Nat} {d : D} {v : V} {s : Slot} (S : RepS Γ F H σ ρ) (hi : ρ[i]? = some s) (hs : ∀ d, s ≠ .ino d) (h : Γ.RV F H d v) : RepS Γ F H (σ.set i (some v)) (ρ.set i (.val d)) := by
  have hρ := (List.getElem?_eq_some_iff.mp hi).1
  have hσ : i < σ.length := by rw [← S.len]; exact hρ
  have ns : ∀ {j : Nat}, j ≠ i → (σ.set i (some v))[j]? = σ[j]? := fun hj => List.getElem?_set_ne (Ne.symm hj)
  have back : ∀ j b, OwnAt (σ.set i (some v)) (ρ.set i (.val d)) j b → j ≠ i ∧ OwnAt σ ρ j b := fun j b ⟨e1, d1, o⟩ => by
    by_cases hj : j = i
    · subst hj
      rw [get_set_same hi] at o
      rcases o with o | o <;> cases o
    · rw [get_set_ne hj] at o
      rw [ns hj] at e1
      exact ⟨hj, e1, d1, o⟩
  refine ⟨by rw [List.length_set, List.length_set]; exact S.len, fun j d1 h1 => ?_, fun j d1 h1 => ?_, fun j d1 h1 => ?_, fun j l b o1 o2 => S.dis j l b (back j b o1).2 (back l b o2).2, S.exnB (fun e => Slot.noConfusion e)⟩
  · by_cases hj : j = i
    · subst hj
      rw [get_set_same hi] at h1
      cases h1
      exact ⟨v, List.getElem?_set_self hσ, h⟩
    · rw [get_set_ne hj] at h1
      rw [ns hj]
      exact S.val j d1 h1
  · by_cases hj : j = i
    · subst hj
      rw [get_set_same hi] at h1
      cases h1
    · rw [get_set_ne hj] at h1
      rw [ns hj]
      exact S.own j d1 h1
  · by_cases hj : j = i
    · subst hj
      rw [get_set_same hi] at h1
      cases h1
    · rw [get_set_ne hj] at h1
      rw [ns hj]
      exact S.ino j d1 h1
theorem pg_imp {tg : Expr} {t t' : TG} (h : PG X tg t) (i : ∀ v σ H Q, t' v σ H Q → t v σ H Q) : PG X tg t' := ⟨fun pins s σ H v u Q I r q => h.run pins s σ H v u Q I r (i v σ H Q q)⟩
theorem pgs_imp {tg : List Expr} {t t' : TGs} (h : PGs X tg t) (i : ∀ v σ H Q, t' v σ H Q → t v σ H Q) : PGs X tg t' := ⟨fun pins s σ H v u Q I r q => h.run pins s σ H v u Q I r (i v σ H Q q)⟩
theorem dg_name {i : Nat} {x : Str} {pos : Pos} (g : Gd Γ X sc st k) (hN : Γ.N[i]? = some x) (hx : st x = true) : PG X (.Name x pos) (tG Γ (.name i)) := by
  obtain ⟨h1, h2⟩ := g.st x hx
  refine pg_imp (pg_name (by rw [g.N]; exact g.nd) (by rw [g.N]; exact hN) (by rw [g.scp]; exact h1) (by rw [g.scp]; exact h2)) fun v σ H Q h => ?_
  obtain ⟨F, ρ, d, ρ', G, S, r, hb, q⟩ := h
  simp only [bindT] at hb
  split at hb
  · cases hb
  · rename_i s hs hi
    cases hb
    exact q _ (fun j hj => List.getElem?_set_ne (fun e => hj (by simp [Tg.slots, e]))) (S.store hi (fun d e => hs d e) r)
  · cases hb
theorem dgs_nil : PGs X [] (tGs Γ []) := pgs_imp pgs_nil fun v σ H Q h => by
  obtain ⟨F, ρ, ds, ρ', G, S, r, hb, q⟩ := h
  cases ds with
  | nil =>
    simp only [bindTs] at hb
    cases hb
    simp only [RepL] at r
    exact ⟨r, q σ (fun _ _ => rfl) S⟩
  | cons d ds => simp [bindTs] at hb
theorem dgs_cons {e : Expr} {es : List Expr} {t : Tg} {ts : List Tg} (h1 : PG X e (tG Γ t)) (h2 : PGs X es (tGs Γ ts)) (hs : (assignEach (e :: es) X.env).map (·.2) = assign e X.env :: (assignEach es X.env).map (·.2)) : PGs X (e :: es) (tGs Γ (t :: ts)) := pgs_imp (pgs_cons h1 h2 hs) fun vs σ H Q h => by
  obtain ⟨F, ρ, ds, ρ', G, S, r, hb, q⟩ := h
  cases ds with
  | nil => simp [bindTs] at hb
  | cons d ds =>
    simp only [bindTs] at hb
    split at hb
    · rename_i ρ1 hb1
      simp only [RepL] at r
      obtain ⟨v, us, e, r1, r2⟩ := r
      exact ⟨v, us, e, F, ρ, d, ρ1, G, S, r1, hb1, fun σ' e1 S' => ⟨F, ρ1, ds, ρ', G, S', r2, hb, fun σ2 e2 S2 => q σ2 (fun i hi => by
      simp only [slotsTs, List.mem_append, not_or] at hi
      rw [e2 i hi.2, e1 i hi.1]) S2⟩⟩
    · cases hb
theorem dg_tup {es : List Expr} {kk : Nat} {ts : List Tg} {n : Nat} {pos : Pos} (g : Gd Γ X sc st k) (hh : Γ.hot = false) (h : PGs X es (tGs Γ ts)) (hl : ts.length = n) (hn : (assignEach es X.env).length = n) (hst : (assignEach es X.env).findIdx? (·.1) = none) : PG X (.Tuple es kk pos) (tG Γ (.tup ts)) := by
  refine pg_imp (pg_tup (n := n) (g.calm hh) h hn hst) fun v σ H Q h => ?_
  obtain ⟨F, ρ, d, ρ', G, S, r, hb, q⟩ := h
  cases d with
  | tuple ds =>
    simp only [bindT] at hb
    split at hb
    · rename_i hlen
      simp only [RepV] at r
      obtain ⟨a, xs, e, l, z, rr⟩ := r
      exact ⟨a, xs, e, by rw [g.K]; exact l, by rw [← rr.length, ← hlen]; exact hl, F, ρ, ds, ρ', G, S, rr, hb, q⟩
    · cases hb
  | _ => simp [bindT] at hb
end
end Ow

namespace Ow
open PySem PyProof.Rows PySem.Spec L2 LamX

def nox {α : Type} : Res α → Res α
  | .exc _ => .stuck
  | r => r
def wipeA : List Nat → AE → AE
  | [], ρ => ρ
  | v :: vs, ρ => (wipeA vs ρ).set v .non
def restA : List Nat → AE → AE → AE
  | [], _, ρ => ρ
  | v :: vs, ρ0, ρ => match ρ0[v]? with
    | some (.val d) => (restA vs ρ0 ρ).set v (.val d)
    | _ => (restA vs ρ0 ρ).set v .non
/-- the turns of a comprehension -/
def compGo (own : List Nat) (tg : Tg) (tt : EvT) (el : EvE) (bs : Src) : List D → AE → List D → Res (List D)
  | [], ρ, acc => if stills bs ρ then .ok acc ρ else .stuck
  | d :: ds, ρ, acc => if stills bs ρ then (match bindT tg d ρ with
      | some ρ1 => (nox (tt ρ1)).bind fun b ρ2 => if b then (nox (el ρ2)).bind fun p ρ3 => compGo own tg tt el bs ds (wipeA own ρ3) (acc ++ [p.1]) else compGo own tg tt el bs ds (wipeA own ρ2) acc
      | none => .stuck) else .stuck
def eComp (own : List Nat) (it : EvI) (tg : Tg) (tt : EvT) (el : EvE) : EvE := fun ρ => (it ρ).bind fun p ρ0 =>
  (compGo own tg tt el p.2 p.1 (wipeA own ρ0) []).bind fun acc ρ' => .ok (.list acc, true) (restA own ρ0 ρ')
def tTrue : EvT := fun ρ => .ok true ρ
def W0 : WX := fun _ _ _ _ => False
section
variable {Γ : Ctx} {W : WX} {F F' : Addr → Prop} {H H' : Hp} {σ : L2.St} {ρ : AE}
theorem Out.nox {α : Type} {r : Res α} {W' : WX} {k : α → AE → (Addr → Prop) → Hp → Prop} (h : Out Γ W' (nox r) F H σ k) : Out Γ W r F H σ k := by
  cases r with
  | ok a ρ' => exact h
  | exc c => exact h.elim
  | stuck => exact h.elim
theorem wipeA_length : ∀ (vs : List Nat) (ρ : AE), (wipeA vs ρ).length = ρ.length
  | [], _ => rfl
  | v :: vs, ρ => by simp only [wipeA, List.length_set, wipeA_length vs ρ]
/-- a slot is forgotten -/
theorem RepS.drop (S : RepS Γ F H σ ρ) (i : Nat) : RepS Γ F H (σ.set i none) (ρ.set i .non) := by
  by_cases hi : i < ρ.length
  · have hs : i < σ.length := by rw [← S.len]; exact hi
    have same : (ρ.set i Slot.non)[i]? = some .non := List.getElem?_set_self hi
    have ns : ∀ {j : Nat}, j ≠ i → (σ.set i none)[j]? = σ[j]? := fun hj => List.getElem?_set_ne (Ne.symm hj)
    have back : ∀ j b, OwnAt (σ.set i none) (ρ.set i .non) j b → j ≠ i ∧ OwnAt σ ρ j b := fun j b ⟨e1, d1, o⟩ => by
      by_cases hj : j = i
      · subst hj
        rw [same] at o
        rcases o with o | o <;> cases o
      · rw [get_set_ne hj] at o
        rw [ns hj] at e1
        exact ⟨hj, e1, d1, o⟩
    refine ⟨by rw [List.length_set, List.length_set]; exact S.len, fun j d1 h1 => ?_, fun j d1 h1 => ?_, fun j d1 h1 => ?_, fun j l b o1 o2 => S.dis j l b (back j b o1).2 (back l b o2).2, S.exnB (fun e => Slot.noConfusion e)⟩
    · by_cases hj : j = i
      · subst hj; rw [same] at h1; cases h1
      · rw [get_set_ne hj] at h1; rw [ns hj]; exact S.val j d1 h1
    · by_cases hj : j = i
      · subst hj; rw [same] at h1; cases h1
      · rw [get_set_ne hj] at h1; rw [ns hj]; exact S.own j d1 h1
    · by_cases hj : j = i
      · subst hj; rw [same] at h1; cases h1
      · rw [get_set_ne hj] at h1; rw [ns hj]; exact S.ino j d1 h1
  · have e1 : ρ.set i .non = ρ := List.set_eq_of_length_le (by omega)
    have e2 : σ.set i none = σ := List.set_eq_of_length_le (by rw [← S.len]; omega)
    rw [e1, e2]
    exact S
theorem RepS.wipe (S : RepS Γ F H σ ρ) : ∀ vs : List Nat, RepS Γ F H (wipe σ vs) (wipeA vs ρ)
  | [] => S
  | v :: vs => by
    simp only [L2.wipe, wipeA]
    exact (RepS.wipe S vs).drop v
theorem wipeA_at : ∀ (vs : List Nat) (ρ : AE) (i : Nat) (s : Slot), i ∈ vs → (wipeA vs ρ)[i]? = some s → s = .non
  | [], _, i, s, h, _ => by cases h
  | v :: vs, ρ, i, s, h, e => by
    simp only [wipeA] at e
    by_cases hi : i = v
    · subst hi
      have hl := (List.getElem?_eq_some_iff.mp e).1
      rw [List.length_set] at hl
      rw [List.getElem?_set_self hl] at e
      cases e; rfl
    · rw [List.getElem?_set_ne (Ne.symm hi)] at e
      exact wipeA_at vs ρ i s ((List.mem_cons.mp h).resolve_left hi) e
theorem wipeA_out : ∀ (vs : List Nat) (ρ : AE) (i : Nat), i ∉ vs → (wipeA vs ρ)[i]? = ρ[i]?
  | [], _, i, h => rfl
  | v :: vs, ρ, i, h => by
    simp only [List.mem_cons, not_or] at h
    simp only [wipeA]
    rw [List.getElem?_set_ne (Ne.symm h.1), wipeA_out vs ρ i h.2]
theorem wipe_eq : ∀ (vs : List Nat) (σ σ' : L2.St), σ'.length = σ.length → (∀ i, i ∉ vs → σ'[i]? = σ[i]?) → L2.wipe σ' vs = L2.wipe σ vs := fun vs σ σ' hl h => by
  apply List.ext_getElem?
  intro i
  by_cases hi : i ∈ vs
  · have at_ : ∀ (vs : List Nat) (τ : L2.St), i ∈ vs → (L2.wipe τ vs)[i]? = if i < τ.length then some none else none := fun vs τ => by
      induction vs with
      | nil => intro h; cases h
      | cons v vs ih =>
        intro h
        simp only [L2.wipe]
        by_cases e : i = v
        · subst e
          by_cases hl : i < τ.length
          · rw [if_pos hl, List.getElem?_set_self (by rw [wipe_length]; exact hl)]
          · rw [if_neg hl]
            exact List.getElem?_eq_none (by rw [List.length_set, wipe_length]; omega)
        · rw [List.getElem?_set_ne (Ne.symm e)]
          exact ih ((List.mem_cons.mp h).resolve_left e)
    rw [at_ vs σ hi, at_ vs σ' hi, hl]
  · rw [wipe_out hi, wipe_out hi, h i hi]
theorem restA_own {ρ0 ρ' : AE} : ∀ (vs : List Nat) (i : Nat) (s : Slot), (restA vs ρ0 ρ')[i]? = some s → (∀ d, s ≠ .val d) → s ≠ .non → i ∉ vs ∧ ρ'[i]? = some s
  | [], i, s, h, _, _ => ⟨by simp, h⟩
  | v :: vs, i, s, h, h1, h2 => by
    simp only [restA] at h
    by_cases hi : i = v
    · subst hi
      exfalso
      split at h
      · rename_i d hd
        have hl2 := (List.getElem?_eq_some_iff.mp h).1
        rw [List.length_set] at hl2
        rw [List.getElem?_set_self hl2] at h
        cases h
        exact h1 _ rfl
      · have hl2 := (List.getElem?_eq_some_iff.mp h).1
        rw [List.length_set] at hl2
        rw [List.getElem?_set_self hl2] at h
        cases h
        exact h2 rfl
    · have : (restA vs ρ0 ρ')[i]? = some s := by
        split at h
        · rwa [List.getElem?_set_ne (Ne.symm hi)] at h
        · rwa [List.getElem?_set_ne (Ne.symm hi)] at h
      obtain ⟨q1, q2⟩ := restA_own vs i s this h1 h2
      exact ⟨by simp only [List.mem_cons, not_or]; exact ⟨hi, q1⟩, q2⟩
theorem OwnAt.back {ρ0 ρ' : AE} {vs : List Nat} {i : Nat} {a : Addr} (o : OwnAt σ (restA vs ρ0 ρ') i a) : OwnAt (L2.wipe σ vs) ρ' i a := by
  obtain ⟨e1, d, o⟩ := o
  have : i ∉ vs ∧ (ρ'[i]? = some (.own d) ∨ ρ'[i]? = some (.ino d)) := by
    rcases o with o | o
    · obtain ⟨q1, q2⟩ := restA_own vs i _ o (fun _ e => Slot.noConfusion e) (fun e => Slot.noConfusion e)
      exact ⟨q1, .inl q2⟩
    · obtain ⟨q1, q2⟩ := restA_own vs i _ o (fun _ e => Slot.noConfusion e) (fun e => Slot.noConfusion e)
      exact ⟨q1, .inr q2⟩
  exact ⟨by rw [wipe_out this.1]; exact e1, d, this.2⟩
theorem OwnAt.unwipe {vs : List Nat} {i : Nat} {a : Addr} (o : OwnAt (L2.wipe σ vs) (wipeA vs ρ) i a) : OwnAt σ ρ i a := by
  obtain ⟨e1, d, o⟩ := o
  by_cases hi : i ∈ vs
  · rcases o with o | o
    · cases wipeA_at vs ρ i _ hi o
    · cases wipeA_at vs ρ i _ hi o
  · rw [wipeA_out vs ρ i hi] at o
    rw [wipe_out hi] at e1
    exact ⟨e1, d, o⟩
/-- behind the block: what the slots held is there again, where it was frozen -/
theorem RepS.back {σ : L2.St} {ρ0 ρ' : AE} (S0 : RepS Γ F H σ ρ0) (k : Fk F H F' H') : ∀ vs : List Nat, RepS Γ F' H' (L2.wipe σ vs) ρ' → RepS Γ F' H' σ (restA vs ρ0 ρ') := fun vs S => by
  have hl : ∀ vs, (restA vs ρ0 ρ').length = ρ'.length := fun vs => by
    induction vs with
    | nil => rfl
    | cons v vs ih =>
      simp only [restA]
      split <;> rw [List.length_set, ih]
  have out : ∀ (vs : List Nat) (i : Nat), i ∉ vs → (restA vs ρ0 ρ')[i]? = ρ'[i]? := fun vs i => by
    induction vs with
    | nil => intro _; rfl
    | cons v vs ih =>
      intro h
      simp only [List.mem_cons, not_or] at h
      simp only [restA]
      split <;> rw [List.getElem?_set_ne (Ne.symm h.1), ih h.2]
  have in_ : ∀ (vs : List Nat) (i : Nat) (s : Slot), i ∈ vs → (restA vs ρ0 ρ')[i]? = some s → (∃ d, s = .val d ∧ ρ0[i]? = some (.val d)) ∨ s = .non := fun vs i s => by
    induction vs with
    | nil => intro h; cases h
    | cons v vs ih =>
      intro h e
      simp only [restA] at e
      by_cases hi : i = v
      · subst hi
        split at e
        · rename_i d hd
          have hl2 := (List.getElem?_eq_some_iff.mp e).1
          rw [List.length_set] at hl2
          rw [List.getElem?_set_self hl2] at e
          cases e
          exact .inl ⟨d, rfl, hd⟩
        · have hl2 := (List.getElem?_eq_some_iff.mp e).1
          rw [List.length_set] at hl2
          rw [List.getElem?_set_self hl2] at e
          cases e
          exact .inr rfl
      · have hm := (List.mem_cons.mp h).resolve_left hi
        split at e
        · rw [List.getElem?_set_ne (Ne.symm hi)] at e
          exact ih hm e
        · rw [List.getElem?_set_ne (Ne.symm hi)] at e
          exact ih hm e
  have own : ∀ i a, OwnAt σ (restA vs ρ0 ρ') i a → i ∉ vs ∧ OwnAt (L2.wipe σ vs) ρ' i a := fun i a ⟨e1, d, o⟩ => by
    by_cases hi : i ∈ vs
    · rcases o with o | o
      · rcases in_ vs i _ hi o with ⟨d', e, _⟩ | e <;> cases e
      · rcases in_ vs i _ hi o with ⟨d', e, _⟩ | e <;> cases e
    · rw [out vs i hi] at o
      exact ⟨hi, by rw [wipe_out hi]; exact e1, d, o⟩
  refine ⟨by rw [hl, S.len, wipe_length], fun i d h => ?_, fun i d h => ?_, fun i d h => ?_, fun i j a o1 o2 => S.dis i j a (own i a o1).2 (own j a o2).2, fun i h => by
    obtain ⟨q1, q2⟩ := restA_own vs i _ h (fun _ e => Slot.noConfusion e) (fun e => Slot.noConfusion e)
    obtain ⟨a, x, e⟩ := S.exn i q2
    exact ⟨a, x, by rw [wipe_out q1] at e; exact e⟩⟩
  · by_cases hi : i ∈ vs
    · rcases in_ vs i _ hi h with ⟨d', e, h'⟩ | e
      · cases e
        obtain ⟨v, e1, r⟩ := S0.val i d h'
        exact ⟨v, e1, r.mono k⟩
      · cases e
    · rw [out vs i hi] at h
      obtain ⟨v, e1, r⟩ := S.val i d h
      rw [wipe_out hi] at e1
      exact ⟨v, e1, r⟩
  · by_cases hi : i ∈ vs
    · rcases in_ vs i _ hi h with ⟨d', e, h'⟩ | e <;> cases e
    · rw [out vs i hi] at h
      obtain ⟨a, e1, r⟩ := S.own i d h
      rw [wipe_out hi] at e1
      exact ⟨a, e1, r⟩
  · by_cases hi : i ∈ vs
    · rcases in_ vs i _ hi h with ⟨d', e, h'⟩ | e <;> cases e
    · rw [out vs i hi] at h
      obtain ⟨a, e1, r⟩ := S.ino i d h
      rw [wipe_out hi] at e1
      exact ⟨a, e1, r⟩
/-- a source is as it was: its slot is none of the block's -/
theorem RepBs.wiped {vs : List Nat} (hw : ∀ i s, i ∈ vs → ρ[i]? = some s → s = .non) : ∀ {bs : Src} {us : List V}, RepBs Γ F H σ bs us → stills bs ρ = true → RepBs Γ F H (L2.wipe σ vs) bs us
  | [], us, h, _ => h
  | p :: ps, us, h, hs => by
    obtain ⟨v, us', e, r, t⟩ := h
    simp only [stills, Bool.and_eq_true] at hs
    refine ⟨v, us', e, ?_, RepBs.wiped hw t hs.2⟩
    obtain ⟨d, b⟩ := p
    cases b with
    | none => exact r
    | some i =>
      have hn : i ∉ vs := fun hm => by
        have h1 := hs.1
        simp only [still] at h1
        cases e : ρ[i]? with
        | none => rw [e] at h1; cases h1
        | some s =>
          have := hw i s hm e
          subst this
          rw [e] at h1
          cases h1
      show (L2.wipe σ vs)[i]? = some (some v)
      rw [wipe_out hn]
      exact r
end
/-! ### a thing apart: the new list while its items are reckoned -/
def Ctx.apart (Γ : Ctx) (p : Addr) (o : HO) : Ctx := { Γ with H0 := fun a => if a = p then some o else Γ.H0 a }
section
variable {Γ : Ctx} {F : Addr → Prop} {H : Hp} {σ : L2.St} {ρ : AE} {p : Addr} {o : HO}
theorem GInv.into (G : GInv Γ F H) (hp : H p = some o) (h0 : Γ.H0 p = none) (hF : ¬ F p) (ho : ∀ ps, o ≠ .tbl ps) : GInv (Γ.apart p o) F H where
  tr := G.tr
  fn := fun a f => by
    rcases G.fn a f with h | h
    · exact .inl h
    · refine .inr ?_
      show (if a = p then some o else Γ.H0 a) = none
      rw [if_neg (fun (e : a = p) => hF (e ▸ f))]
      exact h
  f0 := G.f0
  kp := fun a u h1 h2 h3 => by
    have h1 : (if a = p then some o else Γ.H0 a) = some u := h1
    by_cases e : a = p
    · rw [if_pos e] at h1
      cases h1
      rw [e]; exact hp
    · rw [if_neg e] at h1
      exact G.kp a u h1 h2 h3
  th := fun a h => by
    have h : (if a = p then some o else Γ.H0 a) ≠ none := h
    by_cases e : a = p
    · exact ⟨o, by rw [e]; exact hp, ho⟩
    · rw [if_neg e] at h
      exact G.th a h
  io := fun i a h => by
    show (if a = p then some o else Γ.H0 a) ≠ none
    by_cases e : a = p
    · rw [if_pos e]; simp
    · rw [if_neg e]; exact G.io i a h
  ni := G.ni
  tb := G.tb
theorem GInv.outof (G : GInv (Γ.apart p o) F H) (h0 : Γ.H0 p = none) (hF0 : ¬ Γ.F0 p) (hi : ∀ i, Γ.ino i ≠ some p) (ho : ∀ ps, o ≠ .tbl ps) : GInv Γ F H ∧ ¬ F p ∧ H p = some o := by
  have at_ : (Γ.apart p o).H0 p = some o := by
    show (if p = p then some o else _) = _
    rw [if_pos rfl]
  refine ⟨⟨G.tr, fun a f => ?_, G.f0, fun a u h1 h2 h3 => ?_, fun a h => ?_, fun i a h => ?_, G.ni, G.tb⟩, fun f => ?_, G.kp p o at_ hi ho⟩
  · rcases G.fn a f with h | h
    · exact .inl h
    · have h : (if a = p then some o else Γ.H0 a) = none := h
      by_cases e : a = p
      · rw [if_pos e] at h; cases h
      · rw [if_neg e] at h; exact .inr h
  · refine G.kp a u ?_ h2 h3
    show (if a = p then some o else Γ.H0 a) = some u
    rw [if_neg (fun e => by rw [e, h0] at h1; cases h1)]
    exact h1
  · refine G.th a ?_
    show (if a = p then some o else Γ.H0 a) ≠ none
    by_cases e : a = p
    · rw [if_pos e]; simp
    · rw [if_neg e]; exact h
  · have q : (if a = p then some o else Γ.H0 a) ≠ none := G.io i a h
    rw [if_neg (fun e => hi i (by rw [← e]; exact h))] at q
    exact q
  · rcases G.fn p f with h | h
    · exact hF0 h
    · rw [at_] at h; cases h
theorem RepS.into (S : RepS Γ F H σ ρ) (hn : ∀ i, ¬ OwnAt σ ρ i p) : RepS (Γ.apart p o) F H σ ρ where
  len := S.len
  val := S.val
  own := fun i d h => by
    obtain ⟨a, e, f, z, t⟩ := S.own i d h
    refine ⟨a, e, f, ?_, t⟩
    show (if a = p then some o else Γ.H0 a) = none
    rw [if_neg (fun (q : a = p) => hn i ⟨by rw [← q]; exact e, d, .inl h⟩)]
    exact z
  ino := S.ino
  dis := S.dis
  exn := S.exn
theorem RepS.outof (S : RepS (Γ.apart p o) F H σ ρ) (hi : ∀ i, Γ.ino i ≠ some p) : RepS Γ F H σ ρ ∧ ∀ i, ¬ OwnAt σ ρ i p := by
  refine ⟨⟨S.len, S.val, fun i d h => ?_, S.ino, S.dis, S.exn⟩, fun i o' => ?_⟩
  · obtain ⟨a, e, f, z, t⟩ := S.own i d h
    have z : (if a = p then some o else Γ.H0 a) = none := z
    by_cases q : a = p
    · rw [if_pos q] at z; cases z
    · rw [if_neg q] at z
      exact ⟨a, e, f, z, t⟩
  · obtain ⟨e1, d, h | h⟩ := o'
    · obtain ⟨a, e, f, z, t⟩ := S.own i d h
      rw [e1] at e
      cases e
      have z : (if p = p then some o else Γ.H0 p) = none := z
      rw [if_pos rfl] at z; cases z
    · obtain ⟨a, e, f, z, t⟩ := S.ino i d h
      rw [e1] at e
      cases e
      exact hi i z
end
/-- any of several wishes -/
theorem pe_ex {X : Cx} {e : Expr} {α : Type} {t : α → TE} (h : ∀ z, PE X e (t z)) : PE X e (fun σ H Q => ∃ z, t z σ H Q) := ⟨fun pins s σ H Q I ⟨z, q⟩ => (h z).run pins s σ H Q I q⟩
theorem pg_ex {X : Cx} {e : Expr} {α : Type} {t : α → TG} (h : ∀ z, PG X e (t z)) : PG X e (fun v σ H Q => ∃ z, t z v σ H Q) := ⟨fun pins s σ H v u Q I r ⟨z, q⟩ => (h z).run pins s σ H v u Q I r q⟩
theorem pts_ex {X : Cx} {e : List Expr} {α : Type} {t : α → TT} (h : ∀ z, PTs X e (t z)) : PTs X e (fun σ H Q => ∃ z, t z σ H Q) := ⟨fun pins s σ H Q I ⟨z, q⟩ => (h z).run pins s σ H Q I q⟩
theorem pt_ex {X : Cx} {e : Expr} {α : Type} {t : α → TT} (h : ∀ z, PT X e (t z)) : PT X e (fun σ H Q => ∃ z, t z σ H Q) := ⟨fun pins s σ H Q I ⟨z, q⟩ => (h z).run pins s σ H Q I q⟩
/-! ### [elt for target in iter if test] -/
structure GdT (Γ : Ctx) (X : Cx) (sc : Scope) (st : Str → Bool) (k : Nat) (W : WX) : Prop extends Gd Γ X sc st k where
  tk : L2N.Takes X W
theorem takesN0 {X : Cx} : L2N.Takes X W0 := fun _ _ x => by
  rcases x with ⟨_, _, _, _, _, _, _, _, _, _, _, _, _, _, _, _, z⟩
  exact z.elim
def stOf (scope : Scope) : Str → Bool := fun x => decide (scope.names.lookup x = some .local) || decide (scope.names.lookup x = some .cell)
theorem gd_blk {Γ : Ctx} {X : Cx} {sc scope : Scope} {st : Str → Bool} {k : Nat} {s : Shared} {H : Hp} {C : Addr} {cl : List (Str × Addr)} {fp : List Addr} (g : Gd Γ X sc st k) : Gd Γ (X.blk s H scope (compEnvC scope cl C X.env) fp) (relS scope sc) (stOf scope) k where
  prog := g.prog
  w := g.w
  K := g.K
  mg := g.mg
  base := g.base
  N := g.N
  nd := g.nd
  scp := by
    show relabel scope X.env = relS scope sc
    rw [← g.scp]; rfl
  calm := g.calm
  room := g.room
  hd := g.hd
  gd := g.gd
  st := fun x hx => by
    unfold stOf at hx
    simp only [Bool.or_eq_true, decide_eq_true_eq] at hx
    rcases hx with h | h
    · have q := lookup_relS_keep (sc := sc) (by simp) h
      exact ⟨.inl q, .inr q⟩
    · have q := lookup_relS_keep (sc := sc) (by simp) h
      refine ⟨.inr q, .inl ?_⟩
      show (scope.names.lookup x == some .cell) = true
      rw [h]; rfl
theorem gd_apart {Γ : Ctx} {X : Cx} {sc : Scope} {st : Str → Bool} {k : Nat} (g : Gd Γ X sc st k) (p : Addr) (o : HO) : Gd (Γ.apart p o) X sc st k := ⟨g.prog, g.w, g.K, g.mg, g.base, g.N, g.nd, g.scp, g.calm, g.room, g.hd, g.gd, g.st⟩
theorem compGo_len {own : List Nat} {tg : Tg} {tt : EvT} {el : EvE} {bs : Src} : ∀ {ds : List D} {ρ ρ' : AE} {acc out : List D}, compGo own tg tt el bs ds ρ acc = .ok out ρ' → out.length ≤ acc.length + ds.length
  | [], ρ, ρ', acc, out, h => by
    simp only [compGo] at h
    split at h
    · cases h; simp
    · cases h
  | d :: ds, ρ, ρ', acc, out, h => by
    simp only [compGo] at h
    split at h
    · split at h
      · cases ht : nox (tt _) with
        | ok b ρ2 =>
          rw [ht] at h
          simp only [Res.bind] at h
          split at h
          · cases he : nox (el ρ2) with
            | ok p ρ3 =>
              rw [he] at h
              have := compGo_len h
              simp only [List.length_append, List.length_cons, List.length_nil] at this ⊢
              omega
            | exc c => rw [he] at h; cases h
            | stuck => rw [he] at h; cases h
          · have := compGo_len h
            simp only [List.length_cons]
            omega
        | exc c => rw [ht] at h; cases h
        | stuck => rw [ht] at h; cases h
      · cases h
    · cases h
theorem nox_exc {α : Type} {r : Res α} {c : Str} : nox r ≠ .exc c := by cases r <;> simp [nox]
theorem compGo_exc {own : List Nat} {tg : Tg} {tt : EvT} {el : EvE} {bs : Src} {c : Str} : ∀ {ds : List D} {ρ : AE} {acc : List D}, compGo own tg tt el bs ds ρ acc ≠ .exc c
  | [], ρ, acc, h => by
    simp only [compGo] at h
    split at h <;> cases h
  | d :: ds, ρ, acc, h => by
    simp only [compGo] at h
    split at h
    · split at h
      · cases ht : nox (tt _) with
        | ok b ρ2 =>
          rw [ht] at h
          simp only [Res.bind] at h
          split at h
          · cases he : nox (el ρ2) with
            | ok p ρ3 => rw [he] at h; exact compGo_exc h
            | exc c => exact nox_exc he
            | stuck => rw [he] at h; cases h
          · exact compGo_exc h
        | exc c => exact nox_exc ht
        | stuck => rw [ht] at h; cases h
      · cases h
    · cases h
section
variable {Γ : Ctx} {X : Cx} {sc scope : Scope} {st : Str → Bool} {k : Nat} {W : WX}
mutual
theorem bind_len : ∀ (t : Tg) (d : D) (ρ ρ' : AE), bindT t d ρ = some ρ' → ρ'.length = ρ.length
  | .name i, d, ρ, ρ', h => by
    simp only [bindT] at h
    split at h
    · cases h
    · cases h; rw [List.length_set]
    · cases h
  | .tup is, d, ρ, ρ', h => by
    cases d with
    | tuple ds =>
      simp only [bindT] at h
      split at h
      · exact bind_lens is ds ρ ρ' h
      · cases h
    | _ => simp only [bindT] at h; cases h
theorem bind_lens : ∀ (ts : List Tg) (ds : List Ow.D) (ρ ρ' : AE), bindTs ts ds ρ = some ρ' → ρ'.length = ρ.length
  | [], [], ρ, ρ', h => by simp only [bindTs] at h; cases h; rfl
  | [], _ :: _, ρ, ρ', h => by simp only [bindTs] at h; cases h
  | _ :: _, [], ρ, ρ', h => by simp only [bindTs] at h; cases h
  | t :: ts, d :: ds, ρ, ρ', h => by
    simp only [bindTs] at h
    split at h
    · rename_i ρ1 h1
      rw [bind_lens ts ds _ _ h, bind_len t d _ _ h1]
    · cases h
end
theorem drop_cons {α : Type} {l : List α} {i : Nat} {d : α} (h : l[i]? = some d) : l.drop i = d :: l.drop (i + 1) := by
  obtain ⟨h1, h2⟩ := List.getElem?_eq_some_iff.mp h
  simp only [List.drop_eq_getElem_cons h1, h2]
/-- between two turns: from (F1, H1), the new list at D -/
structure CInv (Γ : Ctx) (F1 : Addr → Prop) (H1 : Hp) (D : Addr) (τ : L2.St) (vs : List Nat) (R0 : Res (List Ow.D)) (go : List Ow.D → AE → List Ow.D → Res (List Ow.D)) (ds : List Ow.D) (i : Nat) (H : Hp) : Prop where
  ex : ∃ F ρ acc xs, GInv Γ F H ∧ RepS Γ F H τ ρ ∧ H D = some (.lst xs) ∧ Γ.RL F H acc xs ∧ ¬ F D ∧ (∀ i, ¬ OwnAt τ ρ i D) ∧ acc.length ≤ i ∧ Fk F1 H1 F H ∧ (∀ i s, i ∈ vs → ρ[i]? = some s → s = .non) ∧ R0 = go (ds.drop i) ρ acc
def gComp (Γ : Ctx) (t : Tg) : TG := fun v σ H Q => ∃ z : Addr × HO, tG (Γ.apart z.1 z.2) t v σ H Q
def ttComp (Γ : Ctx) (tt : EvT) : TT := fun σ H Q => ∃ z : Addr × HO, tT (Γ.apart z.1 z.2) W0 tt σ H Q
def teComp (Γ : Ctx) (el : EvE) : TE := fun σ H Q => ∃ z : Addr × HO, tD (Γ.apart z.1 z.2) W0 el σ H Q
theorem comp_imp {vs : List Nat} {it : EvI} {t : Tg} {tt : EvT} {el : EvE} (hsl : ∀ i ∈ t.slots, i ∈ vs) : ∀ σ H (Q : VK), tD Γ W (eComp vs it t tt el) σ H Q → tLc (tI Γ W it) (gComp Γ t) (ttComp Γ tt) (teComp Γ el) vs σ H Q := by
  intro σ H Q ⟨F, ρ, G, S, O⟩
  refine ⟨F, ρ, G, S, (Out.bind O).imp fun p ρ0 F1 H1 k1 G1 S1 O1 J us hlen hB hst0 hW D hD => ?_⟩
  obtain ⟨ds, bs⟩ := p
  simp only at O1 hlen hB hst0 hW
  generalize hR : compGo vs t tt el bs ds (wipeA vs ρ0) [] = R0 at O1
  have notStuck : R0 ≠ .stuck := fun e => by rw [e] at O1; exact O1.elim
  obtain ⟨nFD, h0D⟩ := G1.fresh hD
  have nF0D : ¬ Γ.F0 D := fun f => nFD (G1.f0 D f)
  have iD : ∀ i, Γ.ino i ≠ some D := fun i e => G1.io i D e h0D
  have tr1 := G1.tr
  have eD : Ext H1 (upd H1 D (.lst [])) := Ext.upd hD
  have start : CInv Γ F1 H1 D (L2.wipe σ vs) vs R0 (compGo vs t tt el bs) ds 0 (upd H1 D (.lst [])) :=
    ⟨F1, wipeA vs ρ0, [], [], G1.ext eD, (S1.ext tr1 eD).wipe vs, upd_same, RepL.nil, nFD, fun i o => ((S1.wipe vs).at_ o).2.ne hD, Nat.le_refl _, Fk.ext tr1 eD, fun i s hi e => wipeA_at vs ρ0 i s hi e, hR.symm⟩
  refine ⟨fun i m H => i ≤ ds.length ∧ m = ds.length - i ∧ CInv Γ F1 H1 D (L2.wipe σ vs) vs R0 (compGo vs t tt el bs) ds i H, ⟨_, Nat.zero_le _, rfl, start⟩, ?_⟩
  rintro i m H2 ⟨hi, rfl, ⟨F2, ρ2, acc, xs, G2, S2, hD2, hacc, nF2, nO2, hla, k2, hw2, hR2⟩⟩
  -- the sources are as they were
  have hst : stills bs ρ2 = true := by
    cases hb : stills bs ρ2 with
    | true => rfl
    | false =>
      exfalso
      refine notStuck (hR2.trans ?_)
      cases hdr : ds.drop i with
      | nil => simp only [compGo, hb]; rfl
      | cons d r => simp only [compGo, hb]; rfl
  have hB2 : RepBs Γ F2 H2 (L2.wipe σ vs) bs us := RepBs.wiped hw2 (hB.mono k2) hst
  have rdy := S2.reads hB2 hst
  obtain ⟨w1, w2, w3⟩ := hW F2 H2 G2.tr rdy
  by_cases hend : i = ds.length
  · left
    subst hend
    refine ⟨w2, ?_⟩
    rw [List.drop_length] at hR2
    have hR3 : R0 = .ok acc ρ2 := by
      rw [hR2]
      simp only [compGo, hst]
      rfl
    rw [hR3] at O1
    have S3 := S1.back k2 vs S2
    refine O1 F2 H2 k2 G2 S3 (.ref D) ?_
    unfold ResOk
    rw [if_pos (by rfl)]
    refine ⟨D, rfl, nF2, h0D, fun j o => ?_, xs, hD2, by rw [← hacc.length]; omega, hacc⟩
    exact nO2 j o.back
  · right
    have hlt : i < ds.length := by omega
    refine ⟨w1 i hlt, fun H' => CInv Γ F1 H1 D (L2.wipe σ vs) vs R0 (compGo vs t tt el bs) ds (i + 1) H', fun H' c => ⟨ds.length - (i + 1), by omega, by omega, rfl, c⟩, fun x H3 hy => ?_⟩
    obtain ⟨d, hd, e3, hx⟩ := w3 i x H3 hlt hy
    rw [drop_cons hd] at hR2
    simp only [compGo, hst, if_true] at hR2
    cases hb : bindT t d ρ2 with
    | none => rw [hb] at hR2; exact absurd hR2 notStuck
    | some ρ3 =>
      rw [hb] at hR2
      simp only at hR2
      have hwipe : L2.wipe (L2.wipe σ vs) vs = L2.wipe σ vs := wipe_eq vs σ _ (wipe_length _ _) fun j hj => wipe_out hj
      have G3 := G2.ext e3
      have S3 := S2.ext G2.tr e3
      have hD3 : H3 D = some (.lst xs) := e3 D _ hD2
      refine ⟨(D, .lst xs), F2, ρ2, d, ρ3, G3.into hD3 h0D nF2 (fun _ e => HO.noConfusion e), S3.into nO2, hx, hb, fun σ4 h4 S4 => ?_⟩
      have hw4 : L2.wipe σ4 vs = L2.wipe σ vs := by
        refine (wipe_eq vs (L2.wipe σ vs) σ4 ?_ fun j hj => h4 j fun hj' => hj (hsl j hj')).trans hwipe
        rw [← S4.len, ← S2.len]
        exact bind_len _ _ _ _ hb
      refine ⟨hw4, ⟨(D, .lst xs), F2, ρ3, G3.into hD3 h0D nF2 (fun _ e => HO.noConfusion e), S4, Out.nox (W' := W0) ?_⟩⟩
      cases htt : nox (tt ρ3) with
      | stuck => rw [htt] at hR2; exact absurd hR2 notStuck
      | exc c => exact absurd htt nox_exc
      | ok b ρ4 =>
        rw [htt] at hR2
        simp only [Res.bind] at hR2
        intro F5 H5 k5 G5 S5
        cases b with
        | false =>
          rw [if_neg (by simp)] at hR2 ⊢
          obtain ⟨G6, nF6, hD6⟩ := G5.outof h0D nF0D iD (by intro ps e; cases e)
          obtain ⟨S6, nO6⟩ := S5.outof iD
          refine ⟨F5, wipeA vs ρ4, acc, xs, G6, ?_, hD6, RepL.mono k5 _ _ (RepL.mono (Fk.ext G2.tr e3) _ _ hacc), nF6, fun j o => ?_, by omega, (k2.trans (Fk.ext G2.tr e3)).trans k5, fun j s hj e => wipeA_at vs ρ4 j s hj e, hR2⟩
          · rw [← hw4]; exact S6.wipe vs
          · rw [← hw4] at o; exact nO6 j o.unwipe
        | true =>
          rw [if_pos rfl] at hR2 ⊢
          refine ⟨(D, .lst xs), F5, ρ4, G5, S5, Out.nox (W' := W0) ?_⟩
          cases hel : nox (el ρ4) with
          | stuck => rw [hel] at hR2; exact absurd hR2 notStuck
          | exc c => exact absurd hel nox_exc
          | ok q ρ5 =>
            rw [hel] at hR2
            simp only [Res.bind] at hR2
            intro F6 H6 k6 G6 S6 y hy6
            obtain ⟨F7, k7, G7, S7, r7⟩ := hy6.froze G6 S6
            obtain ⟨G8, nF8, hD8⟩ := G7.outof h0D nF0D iD (by intro ps e; cases e)
            obtain ⟨S8, nO8⟩ := S7.outof iD
            have kk : Fk F2 H2 F7 H6 := (((Fk.ext G2.tr e3).trans k5).trans k6).trans k7
            have hacc8 : Γ.RL F7 H6 acc xs := RepL.mono kk _ _ hacc
            have hl8 : acc.length = xs.length := hacc.length
            refine ⟨xs, hD8, by omega, ?_⟩
            have pk : Fk F7 H6 F7 (upd H6 D (.lst (xs ++ [y]))) := Fk.put nF8 hD8 soft_lst
            refine ⟨F7, wipeA vs ρ5, acc ++ [q.1], xs ++ [y], G8.put nF8 (.inl h0D) hD8 soft_lst (fun _ e => HO.noConfusion e), ?_, upd_same, RepL.append (RepL.mono pk _ _ hacc8) (RepL.cons (RepV.mono pk _ _ r7) RepL.nil), nF8, fun j o => ?_, by simp only [List.length_append, List.length_cons, List.length_nil]; omega, (k2.trans kk).trans pk, fun j s hj e => wipeA_at vs ρ5 j s hj e, hR2⟩
            · rw [← hw4]
              exact (S8.mono pk fun i a o => ⟨upd_ne fun e => nO8 i (e ▸ o), (S8.at_ o).1⟩).wipe vs
            · rw [← hw4] at o; exact nO8 j o.unwipe
theorem de_comp {elt tg iter : Expr} {ifs : List Expr} {own : List (Str × Nat)} {pos : Pos} {it : EvI} {t : Tg} {tt : EvT} {el : EvE} (g : Gd Γ X sc st k) (hh : Γ.hot = false) (hi : PI X tg iter (tI Γ W it)) (ok : blkC Γ.N sc scope own = true) (hsl : t.slots.all (fun i => (own.map (·.2)).contains i) = true)
    (hg : ∀ p o X', GdT (Γ.apart p o) X' (relS scope sc) (stOf scope) k W0 → PG X' tg (tG (Γ.apart p o) t)) (ht : ∀ p o X', GdT (Γ.apart p o) X' (relS scope sc) (stOf scope) k W0 → PTs X' ifs (tT (Γ.apart p o) W0 tt))
    (he : ∀ p o X', GdT (Γ.apart p o) X' (relS scope sc) (stOf scope) k W0 → PE X' elt (tD (Γ.apart p o) W0 el)) (hs : ∀ x, foldedSetIterable iter X.env x = pure x) :
    PE X (.ListComp elt [⟨tg, iter, ifs, 0⟩] scope pos) (tD Γ W (eComp (own.map (·.2)) it t tt el)) := by
  have okb : BlkOk X.N X.env.scope scope own := by rw [g.N, g.scp]; exact blkOk_by ok
  exact pe_imp (pe_lc (g.calm hh) (by rw [g.N]; exact g.nd) hi okb (g := gComp Γ t) (tt := ttComp Γ tt) (te := teComp Γ el)
    (fun s H C cl fp => pg_ex fun z => hg _ _ _ ⟨gd_apart (gd_blk g) z.1 z.2, takesN0⟩) (fun s H C cl fp => pts_ex fun z => ht _ _ _ ⟨gd_apart (gd_blk g) z.1 z.2, takesN0⟩) (fun s H C cl fp => pe_ex fun z => he _ _ _ ⟨gd_apart (gd_blk g) z.1 z.2, takesN0⟩) hs) (comp_imp fun i hi => by
      have := List.all_eq_true.mp hsl i hi
      simpa using this)
end
end Ow

namespace Ow
open PySem PyProof.Rows PySem.Spec L2 LamX

/-- how a statement ends -/
inductive SR where
  | nx (ρ : AE)
  | ret (d : D) (fl : Bool) (ρ : AE)
  | exc (c : Str)
  | brk (ρ : AE)
  | ct (ρ : AE)
  | stuck
abbrev StF := AE → SR
/-- more turns no while takes -/
def lid : Nat := 2 ^ 40
def Res.sb {α : Type} (r : Res α) (f : α → AE → SR) : SR := match r with
  | .ok a ρ => f a ρ
  | .exc c => .exc c
  | .stuck => .stuck
def isNoIno : Option Slot → Bool
  | some (.ino _) => false
  | some _ => true
  | none => false
def slotOf (p : D × Bool) : Slot := if (p.2 && isMut p.1) = true then .own p.1 else .val p.1
def sNx : StF := fun ρ => .nx ρ
def sSeq (f g : StF) : StF := fun ρ => match f ρ with
  | .nx ρ' => g ρ'
  | r => r
def sIf (t : EvT) (f g : StF) : StF := fun ρ => (t ρ).sb fun b ρ' => if b then f ρ' else g ρ'
def sBrk : StF := fun ρ => .brk ρ
def sCt : StF := fun ρ => .ct ρ
def sRaise (c : Str) : StF := fun _ => .exc c
def sRet (f : EvE) : StF := fun ρ => (f ρ).sb fun p ρ' => .ret p.1 p.2 ρ'
def sRetN : StF := fun ρ => .ret .none false ρ
def sDrop (f : EvE) : StF := fun ρ => (f ρ).sb fun _ ρ' => .nx ρ'
def sAsg (i : Nat) (f : EvE) : StF := fun ρ => (f ρ).sb fun p ρ' => if isNoIno ρ'[i]? then .nx (ρ'.set i (slotOf p)) else .stuck
def sAsgT (t : Tg) (f : EvE) : StF := fun ρ => (f ρ).sb fun p ρ' => match bindT t p.1 ρ' with | some ρ2 => .nx ρ2 | none => .stuck
def sPar (i j : Nat) (f g : EvE) : StF := fun ρ => (f ρ).sb fun p ρ1 => (g ρ1).sb fun q ρ2 => if isNoIno ρ2[i]? && isNoIno ρ2[j]? then .nx ((ρ2.set i (.val p.1)).set j (.val q.1)) else .stuck
def eMove (i : Nat) : EvE := fun ρ => match ρ[i]? with
  | some (.val d) => .ok (d, false) ρ
  | some (.own d) => .ok (d, true) (ρ.set i .non)
  | _ => .stuck
def whGo (t : EvT) (f : StF) : Nat → StF
  | 0, _ => .stuck
  | n + 1, ρ => (t ρ).sb fun b ρ1 => if b then (match f ρ1 with
      | .nx ρ2 => whGo t f n ρ2
      | .ct ρ2 => whGo t f n ρ2
      | .brk ρ2 => .nx ρ2
      | r => r) else .nx ρ1
def sWhile (t : EvT) (f : StF) : StF := whGo t f lid
def forGo (bs : Src) (tg : Tg) (f : StF) : List D → StF
  | [], ρ => if stills bs ρ then .nx ρ else .stuck
  | d :: ds, ρ => if stills bs ρ then (match bindT tg d ρ with
      | some ρ1 => (match f ρ1 with
        | .nx ρ2 => forGo bs tg f ds ρ2
        | .ct ρ2 => forGo bs tg f ds ρ2
        | .brk ρ2 => .nx ρ2
        | r => r)
      | none => .stuck) else .stuck
/-- none of the sources is stored to -/
def freeOf (as : List Nat) (bs : Src) : Bool := bs.all fun p => match p.2 with
  | some i => !as.contains i
  | none => true
def sFor (as : List Nat) (it : EvI) (tg : Tg) (f : StF) : StF := fun ρ => (it ρ).sb fun p ρ0 => if freeOf as p.2 then forGo p.2 tg f p.1 ρ0 else .stuck
/-- into a list that is one's own -/
def putL (i : Nat) (g : List D → Option (List D)) (ρ : AE) : Option AE := match ρ[i]? with
  | some (.own (.list ds)) => (g ds).map fun ds' => ρ.set i (.own (.list ds'))
  | some (.ino (.list ds)) => (g ds).map fun ds' => ρ.set i (.ino (.list ds'))
  | _ => none
def isOwnL (i : Nat) (ρ : AE) : Bool := match ρ[i]? with
  | some (.own (.list _)) => true
  | some (.ino (.list _)) => true
  | _ => false
def appD (d : D) : List D → Option (List D) := fun ds => if ds.length < sizeLine then some (ds ++ [d]) else none
def sApp (i : Nat) (f : EvE) : StF := fun ρ => if isOwnL i ρ then (f ρ).sb fun p ρ1 => match putL i (appD p.1) ρ1 with | some ρ2 => .nx ρ2 | none => .stuck else .stuck
def setD (k : D) (d : D) : List D → Option (List D) := fun ds => match k with
  | .int z => (ixN ds.length z).map fun j => ds.set j d
  | _ => none
def stSub (i : Nat) (fi : EvO) (d : D) : AE → Res Unit := fun ρ => if isOwnL i ρ then (fi ρ).bind fun q ρ2 => match putL i (setD q.1 d) ρ2 with | some ρ3 => .ok () ρ3 | none => .stuck else .stuck
def sSub (i : Nat) (fi : EvO) (f : EvE) : StF := fun ρ => (f ρ).sb fun p ρ1 => (stSub i fi p.1 ρ1).sb fun _ ρ2 => .nx ρ2
/-- x[i], y[j] = a, b -/
def sSub2 (i : Nat) (fi : EvO) (j : Nat) (fj : EvO) (f : EvE) : StF := fun ρ => (f ρ).sb fun p ρ1 => match p.1 with
  | .tuple [a, b] => (stSub i fi a ρ1).sb fun _ ρ2 => (stSub j fj b ρ2).sb fun _ ρ3 => .nx ρ3
  | _ => .stuck
def sAug (i : Nat) (op : Int → Int → Int) (f : EvE) : StF := fun ρ => match ρ[i]? with
  | some (.val (.int x)) => (f ρ).sb fun p ρ1 => match p.1 with
    | .int y => if isNoIno ρ1[i]? then .nx (ρ1.set i (.val (.int (op x y)))) else .stuck
    | _ => .stuck
  | _ => .stuck

section
variable {Γ : Ctx} {W : WX} {as : List Nat} {F F' : Addr → Prop} {H H' : Hp} {σ σ1 : L2.St} {ρ : AE} {E E' : Ends}
def OutS (Γ : Ctx) (W : WX) (as : List Nat) (r : SR) (F : Addr → Prop) (H : Hp) (σ : L2.St) (E : Ends) : Prop := match r with
  | .nx ρ' => ∀ F' H' σ', Fk F H F' H' → GInv Γ F' H' → RepS Γ F' H' σ' ρ' → (∀ i, i ∉ as → σ'[i]? = σ[i]?) → E.nx σ' H'
  | .brk ρ' => ∀ F' H' σ', Fk F H F' H' → GInv Γ F' H' → RepS Γ F' H' σ' ρ' → (∀ i, i ∉ as → σ'[i]? = σ[i]?) → E.bk σ' H'
  | .ct ρ' => ∀ F' H' σ', Fk F H F' H' → GInv Γ F' H' → RepS Γ F' H' σ' ρ' → (∀ i, i ∉ as → σ'[i]? = σ[i]?) → E.ct σ' H'
  | .ret d fl ρ' => ∀ F' H' σ' v, Fk F H F' H' → GInv Γ F' H' → RepS Γ F' H' σ' ρ' → ResOk Γ F' H' σ' ρ' (d, fl) v → E.rt v H'
  | .exc c => ∀ F' H' σ', Fk F H F' H' → GInv Γ F' H' → W (Γ.cls c) none σ' H'
  | .stuck => False
def tS (Γ : Ctx) (W : WX) (as : List Nat) (f : StF) : TS := fun E σ H => ∃ F ρ, GInv Γ F H ∧ RepS Γ F H σ ρ ∧ OutS Γ W as (f ρ) F H σ E
theorem OutS.fk {r : SR} (h : OutS Γ W as r F H σ E) (q : Fk F H F' H') : OutS Γ W as r F' H' σ E := by
  cases r with
  | stuck => exact h
  | ret d fl ρ' => exact fun F2 H2 σ2 v k => h F2 H2 σ2 v (q.trans k)
  | exc c => exact fun F2 H2 σ2 k => h F2 H2 σ2 (q.trans k)
  | nx ρ' => exact fun F2 H2 σ2 k => h F2 H2 σ2 (q.trans k)
  | brk ρ' => exact fun F2 H2 σ2 k => h F2 H2 σ2 (q.trans k)
  | ct ρ' => exact fun F2 H2 σ2 k => h F2 H2 σ2 (q.trans k)
theorem OutS.at {r : SR} (h : OutS Γ W as r F H σ E) (q : ∀ i, i ∉ as → σ1[i]? = σ[i]?) : OutS Γ W as r F H σ1 E := by
  cases r with
  | stuck => exact h
  | ret d fl ρ' => exact h
  | exc c => exact h
  | nx ρ' => exact fun F2 H2 σ2 k g s f => h F2 H2 σ2 k g s fun i hi => (f i hi).trans (q i hi)
  | brk ρ' => exact fun F2 H2 σ2 k g s f => h F2 H2 σ2 k g s fun i hi => (f i hi).trans (q i hi)
  | ct ρ' => exact fun F2 H2 σ2 k g s f => h F2 H2 σ2 k g s fun i hi => (f i hi).trans (q i hi)
theorem OutS.more {r : SR} {as' : List Nat} (h : OutS Γ W as' r F H σ E) (q : ∀ i, i ∈ as → i ∈ as') : OutS Γ W as r F H σ E := by
  cases r with
  | stuck => exact h
  | ret d fl ρ' => exact h
  | exc c => exact h
  | nx ρ' => exact fun F2 H2 σ2 k g s f => h F2 H2 σ2 k g s fun i hi => f i fun z => hi (q i z)
  | brk ρ' => exact fun F2 H2 σ2 k g s f => h F2 H2 σ2 k g s fun i hi => f i fun z => hi (q i z)
  | ct ρ' => exact fun F2 H2 σ2 k g s f => h F2 H2 σ2 k g s fun i hi => f i fun z => hi (q i z)
theorem OutS.sb {α : Type} {r : Res α} {f : α → AE → SR} (h : OutS Γ W as (r.sb f) F H σ E) : Out Γ W r F H σ fun a ρ' F' H' => OutS Γ W as (f a ρ') F' H' σ E := by
  cases r with
  | ok a ρ' => exact fun F' H' q1 q2 q3 => OutS.fk (r := f a ρ') h q1
  | exc c => exact fun F' H' k g => h F' H' σ k g
  | stuck => exact h
/-- a value is stored -/
theorem RepS.storeRes (S : RepS Γ F H σ ρ) {i : Nat} {p : D × Bool} {v : V} (hi : isNoIno ρ[i]? = true) (h : ResOk Γ F H σ ρ p v) : RepS Γ F H (σ.set i (some v)) (ρ.set i (slotOf p)) := by
  obtain ⟨s, hs, hn⟩ : ∃ s, ρ[i]? = some s ∧ ∀ d, s ≠ .ino d := by
    cases q : ρ[i]? with
    | none => rw [q] at hi; cases hi
    | some s =>
      refine ⟨s, rfl, fun d e => ?_⟩
      subst e
      rw [q] at hi; cases hi
  unfold ResOk at h
  unfold slotOf
  by_cases hm : (p.2 && isMut p.1) = true
  · rw [if_pos hm] at h ⊢
    obtain ⟨a, rfl, nf, h0, no, t⟩ := h
    have hil : i < ρ.length := (List.getElem?_eq_some_iff.mp hs).1
    have same : (ρ.set i (Slot.own p.1))[i]? = some (.own p.1) := List.getElem?_set_self hil
    have ssame : (σ.set i (some (V.ref a)))[i]? = some (some (.ref a)) := List.getElem?_set_self (by rw [← S.len]; exact hil)
    have sne : ∀ {j : Nat}, j ≠ i → (σ.set i (some (V.ref a)))[j]? = σ[j]? := fun hj => List.getElem?_set_ne (Ne.symm hj)
    have back : ∀ j b, OwnAt (σ.set i (some (.ref a))) (ρ.set i (.own p.1)) j b → (j = i ∧ b = a) ∨ (j ≠ i ∧ OwnAt σ ρ j b) := fun j b ⟨e1, d1, o⟩ => by
      by_cases hj : j = i
      · subst hj
        rw [ssame] at e1
        cases e1
        exact .inl ⟨rfl, rfl⟩
      · rw [get_set_ne hj] at o
        rw [sne hj] at e1
        exact .inr ⟨hj, e1, d1, o⟩
    refine ⟨by rw [List.length_set, List.length_set]; exact S.len, fun j d1 h1 => ?_, fun j d1 h1 => ?_, fun j d1 h1 => ?_, fun j l b o1 o2 => ?_, S.exnB (fun e => Slot.noConfusion e)⟩
    · by_cases hj : j = i
      · subst hj; rw [same] at h1; cases h1
      · rw [get_set_ne hj] at h1; rw [sne hj]; exact S.val j d1 h1
    · by_cases hj : j = i
      · subst hj
        rw [same] at h1
        cases h1
        exact ⟨a, ssame, nf, h0, t⟩
      · rw [get_set_ne hj] at h1; rw [sne hj]; exact S.own j d1 h1
    · by_cases hj : j = i
      · subst hj; rw [same] at h1; cases h1
      · rw [get_set_ne hj] at h1; rw [sne hj]; exact S.ino j d1 h1
    · rcases back j b o1 with ⟨q1, q2⟩ | ⟨q1, q2⟩ <;> rcases back l b o2 with ⟨q3, q4⟩ | ⟨q3, q4⟩
      · rw [q1, q3]
      · exact absurd (q2 ▸ q4) (no l)
      · exact absurd (q4 ▸ q2) (no j)
      · exact S.dis j l b q2 q4
  · rw [if_neg hm] at h ⊢
    exact S.store hs hn h
/-- a list that is one's own is changed -/
theorem RepS.put (G : GInv Γ F H) (S : RepS Γ F H σ ρ) {i : Nat} {g : List D → Option (List D)} {ρ' : AE} (h : putL i g ρ = some ρ') : ∃ a xs ds ds', σ[i]? = some (some (.ref a)) ∧ H a = some (.lst xs) ∧ xs.length ≤ sizeLine ∧ Γ.RL F H ds xs ∧ g ds = some ds' ∧
    ∀ ys, ys.length ≤ sizeLine → Γ.RL F H ds' ys → Fk F H F (upd H a (.lst ys)) ∧ GInv Γ F (upd H a (.lst ys)) ∧ RepS Γ F (upd H a (.lst ys)) σ ρ' := by
  have key : ∀ (ds : List D) (mk : D → Slot) (hmk : (mk = .own) ∨ (mk = .ino)), ρ[i]? = some (mk (.list ds)) → (g ds).map (fun ds' => ρ.set i (mk (.list ds'))) = some ρ' → ∃ a xs ds ds', σ[i]? = some (some (.ref a)) ∧ H a = some (.lst xs) ∧ xs.length ≤ sizeLine ∧ Γ.RL F H ds xs ∧ g ds = some ds' ∧
    ∀ ys, ys.length ≤ sizeLine → Γ.RL F H ds' ys → Fk F H F (upd H a (.lst ys)) ∧ GInv Γ F (upd H a (.lst ys)) ∧ RepS Γ F (upd H a (.lst ys)) σ ρ' := by
    intro ds mk hmk hs hg
    obtain ⟨ds', hd, rfl⟩ := Option.map_eq_some_iff.mp hg
    have oi : ∀ a, σ[i]? = some (some (.ref a)) → OwnAt σ ρ i a := fun a e => ⟨e, .list ds, by rcases hmk with e | e <;> subst e <;> simp [hs]⟩
    obtain ⟨a, e, nf, h0, t⟩ : ∃ a, σ[i]? = some (some (.ref a)) ∧ ¬ F a ∧ (Γ.H0 a = none ∨ ∃ i, Γ.ino i = some a) ∧ Top Γ F H (.list ds) a := by
      rcases hmk with e | e
      · subst e
        obtain ⟨a, e, nf, h0, t⟩ := S.own i _ hs
        exact ⟨a, e, nf, .inl h0, t⟩
      · subst e
        obtain ⟨a, e, nf, h0, t⟩ := S.ino i _ hs
        exact ⟨a, e, nf, .inr ⟨i, h0⟩, t⟩
    obtain ⟨xs, ha, hz, r⟩ := t
    refine ⟨a, xs, ds, ds', e, ha, hz, r, hd, fun ys hy ry => ?_⟩
    have pk : Fk F H F (upd H a (.lst ys)) := Fk.put nf ha soft_lst
    have hil : i < ρ.length := (List.getElem?_eq_some_iff.mp hs).1
    have same : (ρ.set i (mk (.list ds')))[i]? = some (mk (.list ds')) := List.getElem?_set_self hil
    have top : Top Γ F (upd H a (.lst ys)) (.list ds') a := ⟨ys, upd_same, hy, RepL.mono pk _ _ ry⟩
    have other : ∀ {j b}, j ≠ i → OwnAt σ ρ j b → upd H a (.lst ys) b = H b := fun hj o => upd_ne fun e' => hj (S.dis _ _ _ o (e' ▸ oi a e))
    have back : ∀ j b, OwnAt σ (ρ.set i (mk (.list ds'))) j b → OwnAt σ ρ j b := fun j b ⟨e1, d1, o⟩ => by
      by_cases hj : j = i
      · subst hj
        rw [e] at e1; cases e1
        exact oi a e
      · rw [get_set_ne hj] at o
        exact ⟨e1, d1, o⟩
    refine ⟨pk, G.put nf h0 ha soft_lst (fun _ e => HO.noConfusion e), ⟨by rw [List.length_set]; exact S.len, fun j d1 h1 => ?_, fun j d1 h1 => ?_, fun j d1 h1 => ?_, fun j l b o1 o2 => S.dis j l b (back j b o1) (back l b o2), S.exnA (by rcases hmk with e | e <;> subst e <;> exact fun e => Slot.noConfusion e)⟩⟩
    · by_cases hj : j = i
      · subst hj; rw [same] at h1
        rcases hmk with e | e <;> subst e <;> cases h1
      · rw [get_set_ne hj] at h1
        obtain ⟨v, e1, r1⟩ := S.val j d1 h1
        exact ⟨v, e1, r1.mono pk⟩
    · by_cases hj : j = i
      · subst hj; rw [same] at h1
        rcases hmk with e' | e' <;> subst e' <;> cases h1
        obtain ⟨b, e1, f1, z1, _⟩ := S.own j _ hs
        rw [e] at e1; cases e1
        exact ⟨a, e, nf, z1, top⟩
      · rw [get_set_ne hj] at h1
        obtain ⟨b, e1, f1, z1, t1⟩ := S.own j d1 h1
        exact ⟨b, e1, f1, z1, t1.mono pk (other hj ⟨e1, d1, .inl h1⟩)⟩
    · by_cases hj : j = i
      · subst hj; rw [same] at h1
        rcases hmk with e' | e' <;> subst e' <;> cases h1
        obtain ⟨b, e1, f1, z1, _⟩ := S.ino j _ hs
        rw [e] at e1; cases e1
        exact ⟨a, e, nf, z1, top⟩
      · rw [get_set_ne hj] at h1
        obtain ⟨b, e1, f1, z1, t1⟩ := S.ino j d1 h1
        exact ⟨b, e1, f1, z1, t1.mono pk (other hj ⟨e1, d1, .inr h1⟩)⟩
  unfold putL at h
  split at h
  · rename_i ds hs
    exact key ds .own (.inl rfl) hs h
  · rename_i ds hs
    exact key ds .ino (.inr rfl) hs h
  · cases h
theorem isOwnL_at (S : RepS Γ F H σ ρ) {i : Nat} (h : isOwnL i ρ = true) : ∃ a xs d, σ[i]? = some (some (.ref a)) ∧ H a = some (.lst xs) ∧ (ρ[i]? = some (.own d) ∨ ρ[i]? = some (.ino d)) := by
  unfold isOwnL at h
  split at h
  · rename_i ds hs
    obtain ⟨a, e, nf, h0, xs, ha, _⟩ := S.own i _ hs
    exact ⟨a, xs, _, e, ha, .inl hs⟩
  · rename_i ds hs
    obtain ⟨a, e, nf, h0, xs, ha, _⟩ := S.ino i _ hs
    exact ⟨a, xs, _, e, ha, .inr hs⟩
  · cases h
theorem RepBs.frame : ∀ {bs : Src} {us : List V}, RepBs Γ F H σ bs us → Fk F H F' H' → freeOf as bs = true → (∀ i, i ∉ as → σ1[i]? = σ[i]?) → RepBs Γ F' H' σ1 bs us
  | [], us, h, _, _, _ => h
  | p :: ps, us, h, k, hf, hs => by
    obtain ⟨v, us', e, r, t⟩ := h
    simp only [freeOf, List.all_cons, Bool.and_eq_true] at hf
    refine ⟨v, us', e, ?_, RepBs.frame t k hf.2 hs⟩
    obtain ⟨d, b⟩ := p
    cases b with
    | none => exact RepV.mono k _ _ (show Γ.RV F H d v from r)
    | some i =>
      show σ1[i]? = some (some v)
      rw [hs i ?_]
      · exact r
      · have := hf.1
        simpa using this
end

/-! ### the rules -/
structure GdS (Γ : Ctx) (X : Cx) (sc : Scope) (st : Str → Bool) (k : Nat) (W : WX) : Prop extends GdT Γ X sc st k W where
  hp : PassesOwn (model X.prog X.w) X.A X.env X.xe
section
variable {Γ : Ctx} {X : Cx} {sc : Scope} {st : Str → Bool} {k : Nat} {W : WX} {as : List Nat} {e : Expr} {pos : Pos} {s : Stmt} {ss : List Stmt} {f h : StF}
theorem ds_weak {as' : List Nat} (h : PS X s (tS Γ W as f)) (hs : ∀ i, i ∈ as → i ∈ as') : PS X s (tS Γ W as' f) := ps_imp h fun E σ H ⟨F, ρ, G, S, O⟩ => ⟨F, ρ, G, S, O.more hs⟩
theorem dss_weak {as' : List Nat} (h : PSs X ss (tS Γ W as f)) (hs : ∀ i, i ∈ as → i ∈ as') : PSs X ss (tS Γ W as' f) := pss_imp h fun E σ H ⟨F, ρ, G, S, O⟩ => ⟨F, ρ, G, S, O.more hs⟩
theorem dss_nil : PSs X [] (tS Γ W as sNx) := pss_imp pss_nil fun E σ H ⟨F, ρ, G, S, O⟩ => O F H σ Fk.refl G S fun _ _ => rfl
theorem dss_one (h : PS X s (tS Γ W as f)) : PSs X [s] (tS Γ W as f) := pss_one h
theorem dss_cons (h1 : PS X s (tS Γ W as f)) (h2 : PSs X ss (tS Γ W as h)) : PSs X (s :: ss) (tS Γ W as (sSeq f h)) := pss_imp (pss_cons h1 h2) fun E σ H ⟨F, ρ, G, S, O⟩ => by
  refine ⟨F, ρ, G, S, ?_⟩
  simp only [sSeq] at O
  cases q : f ρ with
  | nx ρ' =>
    rw [q] at O
    exact fun F' H' σ' k' G' S' fr => ⟨F', ρ', G', S', (OutS.fk O k').at fr⟩
  | ret d fl ρ' => rw [q] at O; exact O
  | exc c => rw [q] at O; exact O
  | brk ρ' => rw [q] at O; exact O
  | ct ρ' => rw [q] at O; exact O
  | stuck => rw [q] at O; exact O
theorem ds_pass : PS X (.Pass pos) (tS Γ W as sNx) := ps_imp ps_pass fun E σ H ⟨F, ρ, G, S, O⟩ => O F H σ Fk.refl G S fun _ _ => rfl
theorem ds_brk : PS X (.Break pos) (tS Γ W as sBrk) := ps_imp ps_break fun E σ H ⟨F, ρ, G, S, O⟩ => O F H σ Fk.refl G S fun _ _ => rfl
theorem ds_ct : PS X (.Continue pos) (tS Γ W as sCt) := ps_imp ps_continue fun E σ H ⟨F, ρ, G, S, O⟩ => O F H σ Fk.refl G S fun _ _ => rfl
theorem ds_doc {x j p2} : PS X (.Expr (.Constant (.str x) j p2) pos) (tS Γ W as sNx) := ps_imp ps_doc fun E σ H ⟨F, ρ, G, S, O⟩ => O F H σ Fk.refl G S fun _ _ => rfl
theorem ds_if {a b : List Stmt} {t : EvT} (ht : PT X e (tT Γ W t)) (ha : PSs X a (tS Γ W as f)) (hb : PSs X b (tS Γ W as h)) : PS X (.If e a b pos) (tS Γ W as (sIf t f h)) := ps_imp (ps_if ht ha hb) fun E σ H ⟨F, ρ, G, S, O⟩ => by
  refine ⟨F, ρ, G, S, (OutS.sb O).imp fun b ρ' F' H' k' G' S' O' => ?_⟩
  cases b with
  | true => exact ⟨F', ρ', G', S', O'⟩
  | false => exact ⟨F', ρ', G', S', O'⟩
theorem ds_ret {f : EvE} (he : PE X e (tD Γ W f)) : PS X (.Return (some e) pos) (tS Γ W as (sRet f)) := ps_imp (ps_ret he) fun E σ H ⟨F, ρ, G, S, O⟩ => by
  refine ⟨F, ρ, G, S, (OutS.sb O).imp fun p ρ' F' H' k' G' S' O' v r => O' F' H' σ v Fk.refl G' S' r⟩
theorem ds_retN : PS X (.Return none pos) (tS Γ W as sRetN) := ps_imp ps_retN fun E σ H ⟨F, ρ, G, S, O⟩ => O F H σ .non Fk.refl G S (resOk_plain (by simp only [RepV]))
theorem ds_drop {f : EvE} (he : PE X e (tD Γ W f)) (hs : swapsWith e none pos.line X.env = pure false) : PS X (.Expr e pos) (tS Γ W as (sDrop f)) := ps_imp (ps_expr he hs) fun E σ H ⟨F, ρ, G, S, O⟩ => by
  refine ⟨F, ρ, G, S, (OutS.sb O).imp fun p ρ' F' H' k' G' S' O' v r => O' F' H' σ Fk.refl G' S' fun _ _ => rfl⟩
theorem asg_imp {i : Nat} {f : EvE} {te : TE} (ht : ∀ σ H (Q : VK), tD Γ W f σ H Q → te σ H Q) (hi : as.contains i = true) : ∀ E σ H, tS Γ W as (sAsg i f) E σ H → tAsg te (gName i) E σ H := fun E σ H ⟨F, ρ, G, S, O⟩ => by
  refine ht _ _ _ ⟨F, ρ, G, S, (OutS.sb O).imp fun p ρ' F' H' k' G' S' O' v r => ?_⟩
  by_cases hn : isNoIno ρ'[i]? = true
  · rw [if_pos hn] at O'
    exact O' F' H' _ Fk.refl G' (S'.storeRes hn r) fun j hj => List.getElem?_set_ne fun e => hj (by rw [← e]; simpa using hi)
  · rw [if_neg hn] at O'
    exact O'.elim
theorem ds_asg {i : Nat} {x : Str} {f : EvE} {p : Pos} (g : Gd Γ X sc st k) (hN : Γ.N[i]? = some x) (hx : st x = true) (hi : as.contains i = true) (he : PE X e (tD Γ W f)) (hs : swapsWith e (some (.Name x p)) pos.line X.env = pure false) : PS X (.Assign [.Name x p] e pos) (tS Γ W as (sAsg i f)) :=
  ps_imp (ps_set (by rw [g.N]; exact g.nd) (by rw [g.N]; exact hN) (by rw [g.scp]; exact (g.st x hx).1) he hs (by rw [g.scp]; exact (g.st x hx).2)) (asg_imp (fun _ _ _ q => q) hi)
theorem ds_asgC {i : Nat} {x : Str} {p : Pos} {elt tg iter : Expr} {ifs : List Expr} {scope : Scope} {own : List (Str × Nat)} {cpos : Pos} {it : EvI} {t : Tg} {tt : EvT} {el : EvE} (g : Gd Γ X sc st k) (hh : Γ.hot = false) (hN : Γ.N[i]? = some x) (hx : sc.names.lookup x = some .local) (hk : sc.kind = .function) (hi : as.contains i = true)
    (hl : (p.line == cpos.line) = true) (ha : (scope.names.any fun (n, k) => n == x && (k == .local || k == .cell)) = false)
    (hit : PI X tg iter (tI Γ W it)) (ok : blkC Γ.N sc scope own = true) (hsl : t.slots.all (fun i => (own.map (·.2)).contains i) = true)
    (hg : ∀ p o X', GdT (Γ.apart p o) X' (relS scope sc) (stOf scope) k W0 → PG X' tg (tG (Γ.apart p o) t)) (ht : ∀ p o X', GdT (Γ.apart p o) X' (relS scope sc) (stOf scope) k W0 → PTs X' ifs (tT (Γ.apart p o) W0 tt))
    (he : ∀ p o X', GdT (Γ.apart p o) X' (relS scope sc) (stOf scope) k W0 → PE X' elt (tD (Γ.apart p o) W0 el)) (hs : ∀ x, foldedSetIterable iter X.env x = pure x) :
    PS X (.Assign [.Name x p] (.ListComp elt [⟨tg, iter, ifs, 0⟩] scope cpos) pos) (tS Γ W as (sAsg i (eComp (own.map (·.2)) it t tt el))) := by
  have okb : BlkOk X.N X.env.scope scope own := by rw [g.N, g.scp]; exact blkOk_by ok
  refine ps_imp (ps_setLc (i := i) (g.calm hh) (by rw [g.N]; exact g.nd) (by rw [g.N]; exact hN) (by rw [g.scp]; exact hx) (sw_true (by rw [g.scp]; exact hk) (by rw [g.scp]; exact hx) hl ha) hit okb (g := gComp Γ t) (tt := ttComp Γ tt) (te := teComp Γ el)
    (fun s H C cl fp => pg_ex fun z => hg _ _ _ ⟨gd_apart (gd_blk g) z.1 z.2, takesN0⟩) (fun s H C cl fp => pts_ex fun z => ht _ _ _ ⟨gd_apart (gd_blk g) z.1 z.2, takesN0⟩) (fun s H C cl fp => pe_ex fun z => he _ _ _ ⟨gd_apart (gd_blk g) z.1 z.2, takesN0⟩) hs) (asg_imp (comp_imp fun i hi => by
      have := List.all_eq_true.mp hsl i hi
      simpa using this) hi)
theorem ds_asgT {tg : Expr} {t : Tg} {f : EvE} (hsl : t.slots.all as.contains = true) (he : PE X e (tD Γ W f)) (hg : PG X tg (tG Γ t)) (hs : swapsWithSole [tg] e pos.line X.env = pure false) (hw : swappedStores [tg] e X.env = pure none) (h1 : (assignEach [tg] X.env).map (·.2) = [assign tg X.env]) :
    PS X (.Assign [tg] e pos) (tS Γ W as (sAsgT t f)) := ps_imp (ps_asg he hg hs hw h1) fun E σ H ⟨F, ρ, G, S, O⟩ => by
  refine ⟨F, ρ, G, S, (OutS.sb O).imp fun p ρ' F' H' k' G' S' O' v r => ?_⟩
  obtain ⟨F2, k2, G2, S2, r2⟩ := r.froze G' S'
  cases hb : bindT t p.1 ρ' with
  | none => rw [hb] at O'; exact O'.elim
  | some ρ2 =>
    rw [hb] at O'
    exact ⟨F2, ρ', p.1, ρ2, G2, S2, r2, hb, fun σ' hσ S3 => O' F2 H' σ' k2 G2 S3 fun j hj => hσ j fun z => hj (by have := List.all_eq_true.mp hsl j z; simpa using this)⟩
theorem de_move {i : Nat} {x : Str} (g : Gd Γ X sc st k) (hN : Γ.N[i]? = some x) (hv : Vis sc x) (hd : (x == ("__debug__" : Str)) = false) (hcd : (x == ("__classdict__" : Str)) = false) : PE X (.Name x pos) (tD Γ W (eMove i)) := by
  refine pe_imp (pe_var (i := i) (by rw [g.N]; exact hN) (by rw [g.scp]; exact hv) hd hcd) fun σ H Q h => ?_
  obtain ⟨F, ρ, G, S, O⟩ := h
  simp only [eMove] at O
  split at O
  · rename_i d hd'
    obtain ⟨v, e, r⟩ := S.val i d hd'
    exact ⟨v, e, O F H Fk.refl G S v (resOk_plain r)⟩
  · rename_i d hd'
    obtain ⟨a, e, f, z, t⟩ := S.own i d hd'
    have hil : i < ρ.length := (List.getElem?_eq_some_iff.mp hd').1
    have same : (ρ.set i Slot.non)[i]? = some .non := List.getElem?_set_self hil
    have back : ∀ j b, OwnAt σ (ρ.set i .non) j b → j ≠ i ∧ OwnAt σ ρ j b := fun j b ⟨e1, d1, o⟩ => by
      by_cases hj : j = i
      · subst hj
        rw [same] at o
        rcases o with o | o <;> cases o
      · rw [get_set_ne hj] at o
        exact ⟨hj, e1, d1, o⟩
    have S' : RepS Γ F H σ (ρ.set i .non) := by
      refine ⟨by rw [List.length_set]; exact S.len, fun j d1 h1 => ?_, fun j d1 h1 => ?_, fun j d1 h1 => ?_, fun j l b o1 o2 => S.dis j l b (back j b o1).2 (back l b o2).2, S.exnA (fun e => Slot.noConfusion e)⟩
      · by_cases hj : j = i
        · subst hj; rw [same] at h1; cases h1
        · rw [get_set_ne hj] at h1; exact S.val j d1 h1
      · by_cases hj : j = i
        · subst hj; rw [same] at h1; cases h1
        · rw [get_set_ne hj] at h1; exact S.own j d1 h1
      · by_cases hj : j = i
        · subst hj; rw [same] at h1; cases h1
        · rw [get_set_ne hj] at h1; exact S.ino j d1 h1
    refine ⟨_, e, O F H Fk.refl G S' _ ?_⟩
    unfold ResOk
    rw [if_pos (by simp [t.mut])]
    exact ⟨a, rfl, f, z, fun j o => (back j a o).1 (S.dis j i a (back j a o).2 ⟨e, d, .inl hd'⟩), t⟩
  · exact O.elim
theorem ds_while {t : EvT} (g : GdS Γ X sc st k W) (ht : PT X e (tT Γ W t)) (hb : PSs X ss (tS Γ W as f)) : PS X (.While e ss [] pos) (tS Γ W as (sWhile t f)) := ps_imp (ps_while g.hp ht hb) fun E σ H ⟨F, ρ, G, S, O⟩ => by
  refine ⟨fun m σ' H' => ∃ F ρ, GInv Γ F H' ∧ RepS Γ F H' σ' ρ ∧ OutS Γ W as (whGo t f m ρ) F H' σ' E, ⟨lid, F, ρ, G, S, O⟩, ?_⟩
  rintro m σ1 H1 ⟨F1, ρ1, G1, S1, O1⟩
  cases m with
  | zero => exact O1.elim
  | succ m =>
    simp only [whGo] at O1
    refine ⟨F1, ρ1, G1, S1, (OutS.sb O1).imp fun b ρ2 F2 H2 k2 G2 S2 O2 => ?_⟩
    cases b with
    | false => exact O2 F2 H2 σ1 Fk.refl G2 S2 fun _ _ => rfl
    | true =>
      refine ⟨_, fun σ' H' q => ⟨m, Nat.lt_succ_self m, q⟩, F2, ρ2, G2, S2, ?_⟩
      rw [if_pos rfl] at O2
      cases q : f ρ2 with
      | nx ρ3 => rw [q] at O2; exact fun F' H' σ' k' G' S' fr => ⟨F', ρ3, G', S', (OutS.fk O2 k').at fr⟩
      | ct ρ3 => rw [q] at O2; exact fun F' H' σ' k' G' S' fr => ⟨F', ρ3, G', S', (OutS.fk O2 k').at fr⟩
      | brk ρ3 => rw [q] at O2; exact O2
      | ret d fl ρ3 => rw [q] at O2; exact O2
      | exc c => rw [q] at O2; exact O2
      | stuck => rw [q] at O2; exact O2
theorem ds_for {iter tg : Expr} {it : EvI} {t : Tg} (g : GdS Γ X sc st k W) (hh : Γ.hot = false) (hsl : t.slots.all as.contains = true) (hi : PI X tg iter (tI Γ W it)) (hg : PG X tg (tG Γ t)) (hb : PSs X ss (tS Γ W as f)) (hs : ∀ x, foldedSetIterable iter X.env x = pure x) :
    PS X (.For tg iter ss [] pos) (tS Γ W as (sFor as it t f)) := ps_imp (ps_for g.hp (g.calm hh) hi hg hb hs) fun E σ H ⟨F, ρ, G, S, O⟩ => by
  refine ⟨F, ρ, G, S, (OutS.sb O).imp fun p ρ0 F1 H1 k1 G1 S1 O1 J us hlen hB hst0 hW => ?_⟩
  obtain ⟨ds, bs⟩ := p
  simp only at O1 hlen hB hst0 hW
  by_cases hf : freeOf as bs = true
  · rw [if_pos hf] at O1
    refine ⟨fun i m σ' H' => i ≤ ds.length ∧ m = ds.length - i ∧ ∃ F ρ, GInv Γ F H' ∧ RepS Γ F H' σ' ρ ∧ Fk F1 H1 F H' ∧ (∀ i, i ∉ as → σ'[i]? = σ[i]?) ∧ OutS Γ W as (forGo bs t f (ds.drop i) ρ) F H' σ E, ⟨_, Nat.zero_le _, rfl, F1, ρ0, G1, S1, Fk.refl, fun _ _ => rfl, O1⟩, ?_⟩
    rintro i m σ2 H2 ⟨hi, rfl, F2, ρ2, G2, S2, k2, fr2, O2⟩
    have hst : stills bs ρ2 = true := by
      cases hb : stills bs ρ2 with
      | true => rfl
      | false =>
        exfalso
        cases hdr : ds.drop i with
        | nil => rw [hdr] at O2; simp only [forGo, hb] at O2; exact O2
        | cons d r => rw [hdr] at O2; simp only [forGo, hb] at O2; exact O2
    have hB2 : RepBs Γ F2 H2 σ2 bs us := hB.frame k2 hf fr2
    obtain ⟨w1, w2, w3⟩ := hW F2 H2 G2.tr (S2.reads hB2 hst)
    by_cases hend : i = ds.length
    · left
      subst hend
      refine ⟨w2, ?_⟩
      rw [List.drop_length] at O2
      simp only [forGo, hst, if_true] at O2
      exact O2 F2 H2 σ2 Fk.refl G2 S2 fr2
    · right
      have hlt : i < ds.length := by omega
      refine ⟨w1 i hlt, fun σ' H' => ∃ F ρ, GInv Γ F H' ∧ RepS Γ F H' σ' ρ ∧ Fk F1 H1 F H' ∧ (∀ i, i ∉ as → σ'[i]? = σ[i]?) ∧ OutS Γ W as (forGo bs t f (ds.drop (i + 1)) ρ) F H' σ E, fun σ' H' q => ⟨ds.length - (i + 1), by omega, by omega, rfl, q⟩, fun x H3 hy => ?_⟩
      obtain ⟨d, hd, e3, hx⟩ := w3 i x H3 hlt hy
      rw [drop_cons hd] at O2
      simp only [forGo, hst, if_true] at O2
      have k3 := Fk.ext G2.tr e3
      cases hb : bindT t d ρ2 with
      | none => rw [hb] at O2; exact O2.elim
      | some ρ3 =>
        rw [hb] at O2
        simp only at O2
        refine ⟨F2, ρ2, d, ρ3, G2.ext e3, S2.ext G2.tr e3, hx, hb, fun σ4 h4 S4 => ?_⟩
        have fr4 : ∀ i, i ∉ as → σ4[i]? = σ[i]? := fun j hj => (h4 j fun z => hj (by have := List.all_eq_true.mp hsl j z; simpa using this)).trans (fr2 j hj)
        refine ⟨F2, ρ3, G2.ext e3, S4, ?_⟩
        have O3 := fun {r : SR} (h : OutS Γ W as r F2 H2 σ E) => (OutS.fk h k3).at fr4
        cases q : f ρ3 with
        | nx ρ5 => rw [q] at O2; exact fun F' H' σ' k' G' S' fr => ⟨F', ρ5, G', S', (k2.trans k3).trans k', fun j hj => (fr j hj).trans (fr4 j hj), OutS.fk (OutS.fk O2 k3) k'⟩
        | ct ρ5 => rw [q] at O2; exact fun F' H' σ' k' G' S' fr => ⟨F', ρ5, G', S', (k2.trans k3).trans k', fun j hj => (fr j hj).trans (fr4 j hj), OutS.fk (OutS.fk O2 k3) k'⟩
        | brk ρ5 => rw [q] at O2; exact O3 (r := .nx ρ5) O2
        | ret d fl ρ5 => rw [q] at O2; exact O3 O2
        | exc c => rw [q] at O2; exact O3 O2
        | stuck => rw [q] at O2; exact O2
  · rw [if_neg hf] at O1
    exact O1.elim
theorem ds_raise {cl : Str} {t : L2.St → Hp → XK → Prop} (g : GdS Γ X sc st k W) (hh : Γ.hot = false) (he : L2N.PMk X e t) (ht : ∀ σ H (Q : XK), Q (Γ.cls cl) none H → t σ H Q) : PS X (.Raise (some e) none pos) (tS Γ W as (sRaise cl)) := ps_imp (L2N.ps_raise (g.calm hh) g.tk he) fun E σ H ⟨F, ρ, G, S, O⟩ => ht _ _ _ (O F H σ Fk.refl G)
/-! ### into a list -/
theorem ds_app {i : Nat} {x : Str} {xp ap cp : Pos} {f : EvE} (g : Gd Γ X sc st k) (hN : Γ.N[i]? = some x) (hv : Vis sc x) (hd : (x == ("__debug__" : Str)) = false) (hcd : (x == ("__classdict__" : Str)) = false) (he : PE X e (tD Γ W f))
    (hbase : attributeBase (.Name x xp) "append" X.env (eval (.Name x xp) X.env) = eval (.Name x xp) X.env) (hline : (ap.endLine == cp.line) = true) (hs1 : starEach [e] X.env = [(false, eval e X.env)]) (hs : swapsWith (.Call (.Attribute (.Name x xp) "append" ap) [e] [] cp) none pos.line X.env = pure false) :
    PS X (.Expr (.Call (.Attribute (.Name x xp) "append" ap) [e] [] cp) pos) (tS Γ W as (sApp i f)) := by
  have hpa : PA X [e] (tCons (tD Γ W f) tNil) := pa_cons he pa_nil hs1
  refine ps_imp (ps_expr (pe_bm PySem.F.plainAttrs_list PySem.F.slot_list_append PySem.F.type_list_append mt_append (pe_var (i := i) (by rw [g.N]; exact hN) (by rw [g.scp]; exact hv) hd hcd) hpa hbase (by rw [hs1]; rfl) hline hs1 rfl) hs) fun E σ H ⟨F, ρ, G, S, O⟩ => ?_
  simp only [sApp] at O
  split at O
  · rename_i hown
    obtain ⟨a, xs, d, e1, ha, _⟩ := isOwnL_at S hown
    refine ⟨.ref a, e1, .inl ⟨rfl, xs, .of ha⟩, F, ρ, G, S, (OutS.sb O).imp fun p ρ1 F1 H1 k1 G1 S1 O1 v r => ?_⟩
    obtain ⟨F2, k2, G2, S2, r2⟩ := r.froze G1 S1
    cases hp : putL i (appD p.1) ρ1 with
    | none => rw [hp] at O1; exact O1.elim
    | some ρ3 =>
      rw [hp] at O1
      obtain ⟨b, ys, ds, ds', e2, hb, hz, ry, hg, fin⟩ := RepS.put G2 S2 hp
      rw [e1] at e2; cases e2
      unfold appD at hg
      split at hg
      · rename_i hlt
        cases hg
        have hl : ds.length = ys.length := ry.length
        refine ⟨a, ys, v, rfl, rfl, hb, by omega, ?_⟩
        obtain ⟨pk, G3, S3⟩ := fin (ys ++ [v]) (by simp; omega) (RepL.append ry (RepL.cons r2 RepL.nil))
        exact O1 F2 _ σ (k2.trans pk) G3 S3 fun _ _ => rfl
      · cases hg
  · exact O.elim
def tGS (Γ : Ctx) (W : WX) (i : Nat) (fi : EvO) : TG := fun v σ H Q => ∃ F ρ d, GInv Γ F H ∧ RepS Γ F H σ ρ ∧ Γ.RV F H d v ∧ Out Γ W (stSub i fi d ρ) F H σ fun _ _ _ H' => Q σ H'
theorem dg_sub {i : Nat} {x : Str} {xp : Pos} {fi : EvO} (g : Gd Γ X sc st k) (hN : Γ.N[i]? = some x) (hv : Vis sc x) (hd : (x == ("__debug__" : Str)) = false) (hcd : (x == ("__classdict__" : Str)) = false) (he : PE X e (tO Γ W fi))
    (ha : ∀ v, assign (.Subscript (.Name x xp) e pos) X.env v = (do
      let ov ← holding [v] (eval (.Name x xp) X.env)
      let iv ← holding [v, ov] (eval e X.env)
      standAt pos; holding [v, ov, iv] (setItem ov iv v)
      release [v, ov, iv] [])) : PG X (.Subscript (.Name x xp) e pos) (tGS Γ W i fi) := by
  refine pg_imp (pg_sub (pe_var (i := i) (by rw [g.N]; exact hN) (by rw [g.scp]; exact hv) hd hcd) he set_list ha) fun v σ H Q ⟨F, ρ, d, G, S, r, O⟩ => ?_
  simp only [stSub] at O
  split at O
  · rename_i hown
    obtain ⟨a, xs, d', e1, ha, hs⟩ := isOwnL_at S hown
    refine ⟨.ref a, e1, F, ρ, G, S, (Out.bind O).imp fun q ρ1 F1 H1 k1 G1 S1 O1 iv hiv hst => ?_⟩
    cases hp : putL i (setD q.1 d) ρ1 with
    | none => rw [hp] at O1; exact O1.elim
    | some ρ3 =>
      rw [hp] at O1
      obtain ⟨b, ys, ds, ds', e2, hb, hz, ry, hg, fin⟩ := RepS.put G1 S1 hp
      rw [e1] at e2; cases e2
      have rd := S1.read hiv hst
      unfold setD at hg
      split at hg
      · rename_i z hz'
        obtain ⟨j, hj, rfl⟩ := Option.map_eq_some_iff.mp hg
        rw [hz'] at rd
        have hl : ds.length = ys.length := ry.length
        refine ⟨a, ys, z, j, rfl, rInt rd, hb, by rw [← hl]; exact hj, ?_⟩
        obtain ⟨pk, G3, S3⟩ := fin (ys.set j v) (by rw [List.length_set]; exact hz) (RepL.set j ry (r.mono k1))
        exact O1 F1 _ pk G3 S3
      · cases hg
  · exact O.elim
theorem ds_sub {x : Expr} {i : Nat} {fi : EvO} {f : EvE} (he : PE X e (tD Γ W f)) (hg : PG X x (tGS Γ W i fi)) (hs : swapsWithSole [x] e pos.line X.env = pure false) (hw : swappedStores [x] e X.env = pure none) (h1 : (assignEach [x] X.env).map (·.2) = [assign x X.env]) :
    PS X (.Assign [x] e pos) (tS Γ W as (sSub i fi f)) := ps_imp (ps_asg he hg hs hw h1) fun E σ H ⟨F, ρ, G, S, O⟩ => by
  refine ⟨F, ρ, G, S, (OutS.sb O).imp fun p ρ' F' H' k' G' S' O' v r => ?_⟩
  obtain ⟨F2, k2, G2, S2, r2⟩ := r.froze G' S'
  exact ⟨F2, ρ', p.1, G2, S2, r2, (OutS.sb (OutS.fk O' k2)).imp fun _ ρ3 F3 H3 k3 G3 S3 O3 => O3 F3 H3 σ Fk.refl G3 S3 fun _ _ => rfl⟩
theorem ds_sub2 {x y : Expr} {n : Nat} {i j : Nat} {fi fj : EvO} {f : EvE} {p : Pos} (g : Gd Γ X sc st k) (hh : Γ.hot = false) (he : PE X e (tD Γ W f)) (hx : PG X x (tGS Γ W i fi)) (hy : PG X y (tGS Γ W j fj)) (hs : swapsWithSole [.Tuple [x, y] n p] e pos.line X.env = pure false) (hw : swappedStores [.Tuple [x, y] n p] e X.env = pure none) (h1 : (assignEach [.Tuple [x, y] n p] X.env).map (·.2) = [assign (.Tuple [x, y] n p) X.env])
    (h2 : (assignEach [x, y] X.env).map (·.2) = [assign x X.env, assign y X.env]) (h3 : (assignEach [y] X.env).map (·.2) = [assign y X.env]) (h4 : (assignEach [x, y] X.env).length = 2) (h5 : (assignEach [x, y] X.env).findIdx? (·.1) = none) :
    PS X (.Assign [.Tuple [x, y] n p] e pos) (tS Γ W as (sSub2 i fi j fj f)) := ps_imp (ps_asg he (pg_tup (g.calm hh) (pgs_cons hx (pgs_cons hy pgs_nil (by rw [h3]; rfl)) (by rw [h2, h3])) h4 h5) hs hw h1) fun E σ H ⟨F, ρ, G, S, O⟩ => by
  refine ⟨F, ρ, G, S, (OutS.sb O).imp fun p ρ' F' H' k' G' S' O' v r => ?_⟩
  obtain ⟨F2, k2, G2, S2, r2⟩ := r.froze G' S'
  split at O'
  · rename_i d1 d2 hp
    rw [hp] at r2
    simp only [RepV] at r2
    obtain ⟨a, xs, e1, l1, z1, rl⟩ := r2
    have hl := RepL.length (show RepL Γ.prog Γ.w Γ.K F2 H' [d1, d2] xs from rl)
    simp only [RepL] at rl
    obtain ⟨v1, vs1, ex, rv1, v2, vs2, ex2, rv2, ex3⟩ := rl
    subst ex2; subst ex3; subst ex
    refine ⟨a, _, e1, by rw [g.K]; exact l1, rfl, v1, _, rfl, F2, ρ', d1, G2, S2, rv1, (OutS.sb (OutS.fk O' k2)).imp fun _ ρ3 F3 H3 k3 G3 S3 O3 => ?_⟩
    exact ⟨v2, _, rfl, F3, ρ3, d2, G3, S3, rv2.mono k3, (OutS.sb O3).imp fun _ ρ4 F4 H4 k4 G4 S4 O4 => ⟨rfl, O4 F4 H4 σ Fk.refl G4 S4 fun _ _ => rfl⟩⟩
  · exact O'.elim
/-- both are made, then stored -/
theorem ds_par {i j : Nat} {x y : Str} {a b : Expr} {px py pt : Pos} {kt k2 pt2} {f f2 : EvE} (g : Gd Γ X sc st k) (hh : Γ.hot = false) (hi : Γ.N[i]? = some x) (hj : Γ.N[j]? = some y) (hij : i ≠ j) (hx : sc.names.lookup x = some .local) (hy : sc.names.lookup y = some .local) (hia : as.contains i = true) (hja : as.contains j = true)
    (ha : PE X a (tD Γ W f)) (hb : PE X b (tD Γ W f2)) (hs1 : starEach [a, b] X.env = [(false, eval a X.env), (false, eval b X.env)]) (hs2 : starEach [b] X.env = [(false, eval b X.env)])
    (hw : swappedStores [.Tuple [.Name x px, .Name y py] kt pt] (.Tuple [a, b] k2 pt2) X.env = pure (some [x, y])) (hs : swapsWithSole [.Tuple [.Name x px, .Name y py] kt pt] (.Tuple [a, b] k2 pt2) pos.line X.env = pure false) :
    PS X (.Assign [.Tuple [.Name x px, .Name y py] kt pt] (.Tuple [a, b] k2 pt2) pos) (tS Γ W as (sPar i j f f2)) := by
  refine ps_imp (ps_par (i := i) (j := j) (g.calm hh) (by rw [g.N]; exact g.nd) (by rw [g.N]; exact hi) (by rw [g.N]; exact hj) hij (by rw [g.scp]; exact hx) (by rw [g.scp]; exact hy) (pa_cons ha (pa_cons hb pa_nil hs2) (by rw [hs1, hs2])) hw hs) fun E σ H ⟨F, ρ, G, S, O⟩ => ?_
  refine ⟨F, ρ, G, S, (OutS.sb O).imp fun p ρ1 F1 H1 k1 G1 S1 O1 v r => ?_⟩
  obtain ⟨F2, k2, G2, S2, r2⟩ := r.froze G1 S1
  refine ⟨F2, ρ1, G2, S2, (OutS.sb (OutS.fk O1 k2)).imp fun q ρ3 F3 H3 k3 G3 S3 O3 u ru => ?_⟩
  obtain ⟨F4, k4, G4, S4, r4⟩ := ru.froze G3 S3
  refine ⟨_, _, rfl, ?_⟩
  by_cases hn : (isNoIno ρ3[i]? && isNoIno ρ3[j]?) = true
  · rw [if_pos hn] at O3
    simp only [Bool.and_eq_true] at hn
    have T1 := S4.storeRes (p := (p.1, false)) hn.1 (resOk_plain ((r2.mono k3).mono k4))
    have hn2 : isNoIno (ρ3.set i (slotOf (p.1, false)))[j]? = true := by rw [get_set_ne (Ne.symm hij)]; exact hn.2
    have T2 := T1.storeRes (p := (q.1, false)) hn2 (resOk_plain r4)
    refine O3 F4 H3 _ k4 G4 T2 fun l hl => ?_
    rw [List.getElem?_set_ne (fun e => hl (by rw [← e]; simpa using hja)), List.getElem?_set_ne (fun e => hl (by rw [← e]; simpa using hia))]
  · rw [if_neg hn] at O3
    exact O3.elim
theorem ds_aug {i : Nat} {x : Str} {f : EvE} {op : Operator} {fop : Int → Int → Int} {p : Pos} (g : Gd Γ X sc st k) (hN : Γ.N[i]? = some x) (hx : st x = true) (hi : as.contains i = true) (he : PE X e (tD Γ W f)) (ho : PIp X op (ipI fop)) : PS X (.AugAssign (.Name x p) op e pos) (tS Γ W as (sAug i fop f)) := by
  refine ps_imp (ps_aug (i := i) (by rw [g.N]; exact g.nd) (by rw [g.N]; exact hN) (by rw [g.scp]; exact (g.st x hx).1) he ho (by rw [g.scp]; exact (g.st x hx).2)) fun E σ H ⟨F, ρ, G, S, O⟩ => ?_
  simp only [sAug] at O
  split at O
  · rename_i z hz
    obtain ⟨v, e1, r1⟩ := S.val i _ hz
    simp only [RepV] at r1
    refine ⟨v, e1, F, ρ, G, S, (OutS.sb O).imp fun p ρ1 F1 H1 k1 G1 S1 O1 u r => ?_⟩
    obtain ⟨F2, k2, G2, S2, r2⟩ := r.froze G1 S1
    split at O1
    · rename_i y hy
      rw [hy] at r2
      simp only [RepV] at r2
      refine ⟨z, y, r1, r2, ?_⟩
      by_cases hn : isNoIno ρ1[i]? = true
      · rw [if_pos hn] at O1
        exact O1 F2 H1 _ k2 G2 (S2.storeRes (p := (.int (fop z y), false)) hn (resOk_plain (by simp only [RepV]))) fun l hl => List.getElem?_set_ne fun e => hl (by rw [← e]; simpa using hi)
      · rw [if_neg hn] at O1; exact O1.elim
    · exact O1.elim
  · exact O.elim
end
end Ow

namespace Ow
open PySem PyProof.Rows PySem.Spec L2 LamX

/-! ### defs -/
/-- how a def ends, told by data: outs, what it leaves in the parameters it changes -/
inductive FR where
  | ret (d : D) (fl : Bool) (outs : List D)
  | exc (c : Str)
abbrev Fun := List D → Option FR
def startA (n : Nat) (modes : List Bool) (ds : List D) : AE := List.zipWith (fun m d => if m then Slot.ino d else Slot.val d) modes ds ++ List.replicate (n - ds.length) .non
def inoD (s : Option Slot) : D := match s with
  | some (.ino d) => d
  | _ => .none
def isIno (s : Option Slot) : Bool := match s with
  | some (.ino _) => true
  | _ => false
def outsOf (modes : List Bool) (ρ : AE) : List D := (List.range modes.length).map fun i => inoD ρ[i]?
def inoStill (modes : List Bool) (ρ : AE) : Bool := (List.range modes.length).all fun i => match modes[i]? with
  | some true => isIno ρ[i]?
  | _ => true
def endF (modes : List Bool) : SR → Option FR
  | .ret d fl ρ => if inoStill modes ρ then some (.ret d fl (outsOf modes ρ)) else none
  | .nx ρ => if inoStill modes ρ then some (.ret .none false (outsOf modes ρ)) else none
  | .exc c => some (.exc c)
  | _ => none
/-- the def of the body f, told by data -/
def runF (f : StF) (n : Nat) (modes : List Bool) : Fun := fun ds => if ds.length = modes.length then endF modes (f (startA n modes ds)) else none

section
variable (Γ : Ctx)
def inoA (modes : List Bool) (vs : List V) (a : Addr) : Prop := ∃ i : Nat, modes[i]? = some true ∧ vs[i]? = some (.ref a)
structure ArgsOk (F : Addr → Prop) (H : Hp) (modes : List Bool) (ds : List D) (vs : List V) : Prop where
  lm : modes.length = vs.length
  ld : ds.length = vs.length
  val : ∀ (i : Nat) d v, modes[i]? = some false → ds[i]? = some d → vs[i]? = some v → Γ.RV F H d v
  ino : ∀ (i : Nat) d v, modes[i]? = some true → ds[i]? = some d → vs[i]? = some v → ∃ a, v = .ref a ∧ ¬ F a ∧ Top Γ F H d a
  dis : ∀ (i j : Nat) a, modes[i]? = some true → modes[j]? = some true → vs[i]? = some (.ref a) → vs[j]? = some (.ref a) → i = j
/-- what stays behind a call -/
structure Past (F : Addr → Prop) (H : Hp) (modes : List Bool) (vs : List V) (F' : Addr → Prop) (H' : Hp) : Prop where
  fk : Fk F H F' H'
  tr : ∀ a, F' a → NTo H' a
  tb : Tabs Γ.T H'
  fn : ∀ a, F' a → F a ∨ ¬ NTo H a
  kp : ∀ a o, H a = some o → ¬ inoA modes vs a → (∀ ps, o ≠ .tbl ps) → H' a = some o
  th : ∀ a, NTo H a → NTo H' a
def GaveOk (F' : Addr → Prop) (H H' : Hp) (d : D) (fl : Bool) (v : V) : Prop := if (fl && isMut d) = true then ∃ a, v = .ref a ∧ ¬ F' a ∧ ¬ NTo H a ∧ Top Γ F' H' d a else Γ.RV F' H' d v
def After (F : Addr → Prop) (H : Hp) (modes : List Bool) (vs : List V) (r : FR) (Q : VK) (E : XK) : Prop := match r with
  | .ret d fl outs => ∀ F' H' v, Past Γ F H modes vs F' H' → GaveOk Γ F' H H' d fl v → (∀ (i : Nat) a, modes[i]? = some true → vs[i]? = some (.ref a) → ∃ d', outs[i]? = some d' ∧ ¬ F' a ∧ Top Γ F' H' d' a) → Q v H'
  | .exc c => ∀ F' H', Past Γ F H modes vs F' H' → E (Γ.cls c) none H'
def SpG (modes : List Bool) (sem : Fun) (vs : List V) (H : Hp) (Q : VK) (E : XK) : Prop :=
  ∃ F ds r, (∀ a, F a → NTo H a) ∧ Tabs Γ.T H ∧ ArgsOk Γ F H modes ds vs ∧ sem ds = some r ∧ After Γ F H modes vs r Q E
structure FnG (gb : Bool) (k : Nat) (f : Addr) (fd : FuncData) (ps : List Str) (modes : List Bool) (sem : Fun) : Prop where
  len : modes.length = ps.length
  run : ∀ (A : Around) (outer : List Env) (s : Shared) (H : Hp) (args : Args) (us : List Value) (vs : List V) (Q : VK) (E : XK), Room k A → (gb = true → A.guards = some []) → Env0 Γ.prog Γ.w Γ.K Γ.mg Γ.base A outer s H → BindsTo s fd args (ps.zip us) → Vals vs us →
    SpG Γ modes sem vs H Q E → codeAny (model Γ.prog Γ.w) A (.call (.ref f) args) (CR (L2N.CX Γ.prog Γ.w) outer Γ.prog Γ.w H s Q E) s
end
theorem FnG.mono {Γ : Ctx} {gb : Bool} {j k : Nat} {f : Addr} {fd : FuncData} {ps : List Str} {modes : List Bool} {sem : Fun} (h : FnG Γ gb j f fd ps modes sem) (hk : j ≤ k) : FnG Γ gb k f fd ps modes sem := ⟨h.len, fun A outer s H args us vs Q E hr => h.run A outer s H args us vs Q E (hr.mono hk)⟩
/-- a promise about fewer data -/
theorem FnG.imp {Γ : Ctx} {gb : Bool} {k : Nat} {f : Addr} {fd : FuncData} {ps : List Str} {modes : List Bool} {sem sem' : Fun} (h : FnG Γ gb k f fd ps modes sem) (hs : ∀ ds r, sem' ds = some r → sem ds = some r) : FnG Γ gb k f fd ps modes sem' :=
  ⟨h.len, fun A outer s H args us vs Q E hr hg he hb hv ⟨F, ds, r, h1, h2, h3, h4, h5⟩ => h.run A outer s H args us vs Q E hr hg he hb hv ⟨F, ds, r, h1, h2, h3, hs _ _ h4, h5⟩⟩

/-- what is fixed is the same -/
structure Like (Γ Γ' : Ctx) : Prop where
  prog : Γ'.prog = Γ.prog
  w : Γ'.w = Γ.w
  K : Γ'.K = Γ.K
  mg : Γ'.mg = Γ.mg
  base : Γ'.base = Γ.base
  T : Γ'.T = Γ.T
  cls : Γ'.cls = Γ.cls
theorem FnG.to {Γ Γ' : Ctx} {gb : Bool} {k : Nat} {f : Addr} {fd : FuncData} {ps : List Str} {modes : List Bool} {sem : Fun} (h : FnG Γ gb k f fd ps modes sem) (l : Like Γ Γ') : FnG Γ' gb k f fd ps modes sem := by
  obtain ⟨p1, p2, p3, p4, p5, p6, p7, p8, p9, p10, p11, p12, p13, p14⟩ := Γ
  obtain ⟨q1, q2, q3, q4, q5, q6, q7, q8, q9, q10, q11, q12, q13, q14⟩ := Γ'
  obtain ⟨e1, e2, e3, e4, e5, e6, e7⟩ := l
  dsimp only at e1 e2 e3 e4 e5 e6 e7
  subst e1 e2 e3 e4 e5 e6 e7
  refine ⟨h.len, fun A outer s H args us vs Q E hr hg he hb hv ⟨F, ds, r, h1, h2, h3, h4, h5⟩ => h.run A outer s H args us vs Q E hr hg he hb hv ⟨F, ds, r, h1, h2, ⟨h3.lm, h3.ld, h3.val, h3.ino, h3.dis⟩, h4, ?_⟩⟩
  cases r with
  | exc c => exact fun F' H' P => h5 F' H' ⟨P.fk, P.tr, P.tb, P.fn, P.kp, P.th⟩
  | ret d fl outs => exact fun F' H' v P gv ho => h5 F' H' v ⟨P.fk, P.tr, P.tb, P.fn, P.kp, P.th⟩ gv ho
/-- the def's own view -/
def Ctx.enter (Γ : Ctx) (N : List Str) (F0 : Addr → Prop) (H0 : Hp) (ino : Nat → Option Addr) (gb : Bool) : Ctx := { Γ with N := N, F0 := F0, H0 := H0, ino := ino, gb := gb, hot := false, xa := none }
def inoAt (modes : List Bool) (vs : List V) (i : Nat) : Option Addr := match modes[i]?, vs[i]? with
  | some true, some (.ref a) => some a
  | _, _ => none
theorem inoAt_some {modes : List Bool} {vs : List V} {i : Nat} {a : Addr} (h : inoAt modes vs i = some a) : modes[i]? = some true ∧ vs[i]? = some (.ref a) := by
  unfold inoAt at h
  split at h
  · rename_i h1 h2
    cases h
    exact ⟨h1, h2⟩
  · cases h
theorem inoAt_of {modes : List Bool} {vs : List V} {i : Nat} {a : Addr} (h1 : modes[i]? = some true) (h2 : vs[i]? = some (.ref a)) : inoAt modes vs i = some a := by
  unfold inoAt
  rw [h1, h2]
theorem zipSlots {modes : List Bool} {ds : List D} {n i : Nat} {s : Slot} (hl : ds.length = modes.length) (h : (startA n modes ds)[i]? = some s) : (∃ m d, modes[i]? = some m ∧ ds[i]? = some d ∧ s = if m then .ino d else .val d) ∨ s = .non := by
  unfold startA at h
  by_cases hi : i < ds.length
  · rw [List.getElem?_append_left (by rw [List.length_zipWith]; omega), List.getElem?_zipWith] at h
    rw [List.getElem?_eq_getElem (by omega : i < modes.length), List.getElem?_eq_getElem hi] at h
    cases h
    exact .inl ⟨_, _, List.getElem?_eq_getElem _, List.getElem?_eq_getElem _, rfl⟩
  · rw [List.getElem?_append_right (by rw [List.length_zipWith]; omega), List.getElem?_replicate] at h
    split at h
    · cases h; exact .inr rfl
    · cases h
theorem start_at {N : List Str} {vs : List V} {i : Nat} {v : V} (h : vs[i]? = some v) : (L2.start N vs)[i]? = some (some v) := by
  unfold L2.start
  rw [List.getElem?_append_left (by rw [List.length_map]; exact (List.getElem?_eq_some_iff.mp h).1), List.getElem?_map, h]
  rfl
section
variable {Γ : Ctx} {F : Addr → Prop} {H : Hp} {modes : List Bool} {ds : List D} {vs : List V} {N : List Str} {gb : Bool}
theorem start_rep (a : ArgsOk Γ F H modes ds vs) (hn : vs.length ≤ N.length) : RepS (Γ.enter N F (noT H) (inoAt modes vs) gb) F H (L2.start N vs) (startA N.length modes ds) where
  len := by
    unfold startA L2.start
    have := a.lm; have := a.ld
    simp only [List.length_append, List.length_zipWith, List.length_replicate, List.length_map]
    omega
  val := fun i d h => by
    rcases zipSlots (by rw [a.ld, a.lm]) h with ⟨m, d', h1, h2, h3⟩ | h3
    · cases m with
      | true => cases h3
      | false =>
        cases h3
        have hi : i < vs.length := by rw [← a.ld]; exact (List.getElem?_eq_some_iff.mp h2).1
        have h4 : vs[i]? = some vs[i] := List.getElem?_eq_getElem hi
        exact ⟨_, start_at h4, a.val i _ _ h1 h2 h4⟩
    · cases h3
  own := fun i d h => by
    rcases zipSlots (by rw [a.ld, a.lm]) h with ⟨m, d', h1, h2, h3⟩ | h3
    · cases m <;> cases h3
    · cases h3
  ino := fun i d h => by
    rcases zipSlots (by rw [a.ld, a.lm]) h with ⟨m, d', h1, h2, h3⟩ | h3
    · cases m with
      | false => cases h3
      | true =>
        cases h3
        have hi : i < vs.length := by rw [← a.ld]; exact (List.getElem?_eq_some_iff.mp h2).1
        have h4 : vs[i]? = some vs[i] := List.getElem?_eq_getElem hi
        obtain ⟨b, e, nf, t⟩ := a.ino i _ _ h1 h2 h4
        exact ⟨b, start_at (by rw [h4, e]), nf, inoAt_of h1 (by rw [h4, e]), t⟩
    · cases h3
  dis := fun i j b ⟨e1, d1, o1⟩ ⟨e2, d2, o2⟩ => by
    have key : ∀ (i : Nat) (d : D), (L2.start N vs)[i]? = some (some (V.ref b)) → ((startA N.length modes ds)[i]? = some (Slot.own d) ∨ (startA N.length modes ds)[i]? = some (Slot.ino d)) → modes[i]? = some true ∧ vs[i]? = some (V.ref b) := by
      intro i d e o
      rcases o with o | o
      · rcases zipSlots (by rw [a.ld, a.lm]) o with ⟨m, d', h1, h2, h3⟩ | h3
        · cases m <;> cases h3
        · cases h3
      · rcases zipSlots (by rw [a.ld, a.lm]) o with ⟨m, d', h1, h2, h3⟩ | h3
        · cases m with
          | false => cases h3
          | true =>
            have hi : i < vs.length := by rw [← a.ld]; exact (List.getElem?_eq_some_iff.mp h2).1
            have h4 : vs[i]? = some vs[i] := List.getElem?_eq_getElem hi
            rw [start_at h4] at e
            have ev : vs[i] = V.ref b := Option.some.inj (Option.some.inj e)
            exact ⟨h1, by rw [h4, ev]⟩
        · cases h3
    obtain ⟨q1, q2⟩ := key i d1 e1 o1
    obtain ⟨q3, q4⟩ := key j d2 e2 o2
    exact a.dis i j b q1 q3 q2 q4
  exn := fun i h => by
    rcases zipSlots (by rw [a.ld, a.lm]) h with ⟨m, d', h1, h2, h3⟩ | h3
    · cases m <;> cases h3
    · cases h3
theorem start_inv (a : ArgsOk Γ F H modes ds vs) (tr : ∀ a, F a → NTo H a) (tb : Tabs Γ.T H) : GInv (Γ.enter N F (noT H) (inoAt modes vs) gb) F H where
  tr := tr
  fn := fun _ f => .inl f
  f0 := fun _ f => f
  kp := fun _ _ h _ _ => (noT_some h).1
  th := fun b h => by
    cases q : noT H b with
    | none => exact absurd q h
    | some o => exact ⟨o, noT_some q⟩
  io := fun i b h => by
    obtain ⟨h1, h2⟩ := inoAt_some h
    have hi : i < ds.length := by rw [a.ld]; exact (List.getElem?_eq_some_iff.mp h2).1
    obtain ⟨c, e, nf, t⟩ := a.ino i _ _ h1 (List.getElem?_eq_getElem hi) h2
    cases e
    exact fun z => noT_none.mp z t.some
  ni := fun i b h => by
    obtain ⟨h1, h2⟩ := inoAt_some h
    have hi : i < ds.length := by rw [a.ld]; exact (List.getElem?_eq_some_iff.mp h2).1
    obtain ⟨c, e, nf, t⟩ := a.ino i _ _ h1 (List.getElem?_eq_getElem hi) h2
    cases e
    exact nf
  tb := tb
theorem past_of {F' : Addr → Prop} {H' : Hp} (k : Fk F H F' H') (G : GInv (Γ.enter N F (noT H) (inoAt modes vs) gb) F' H') : Past Γ F H modes vs F' H' :=
  ⟨k, G.tr, G.tb, fun a f => (G.fn a f).imp id noT_none.mp, fun a o h hn ht => G.kp a o (noT_of h ht) (fun i e => hn ⟨i, inoAt_some e⟩) ht, fun a h => G.th a fun z => noT_none.mp z h⟩
theorem outs_of {F' : Addr → Prop} {H' : Hp} {σ' : L2.St} {ρ' : AE} (S : RepS (Γ.enter N F (noT H) (inoAt modes vs) gb) F' H' σ' ρ') (hs : inoStill modes ρ' = true) : ∀ (i : Nat) a, modes[i]? = some true → vs[i]? = some (.ref a) → ∃ d', (outsOf modes ρ')[i]? = some d' ∧ ¬ F' a ∧ Top Γ F' H' d' a := by
  intro i a h1 h2
  have hi : i < modes.length := (List.getElem?_eq_some_iff.mp h1).1
  have q := List.all_eq_true.mp hs i (List.mem_range.mpr hi)
  rw [h1] at q
  simp only at q
  unfold isIno at q
  split at q
  · rename_i d hd
    obtain ⟨b, e, nf, hb, t⟩ := S.ino i d hd
    have hb : inoAt modes vs i = some b := hb
    rw [inoAt_of h1 h2] at hb
    cases hb
    refine ⟨d, ?_, nf, t⟩
    unfold outsOf
    rw [List.getElem?_map, List.getElem?_range hi]
    show some (inoD ρ'[i]?) = _
    rw [hd]; rfl
  · cases q
end
/-- what is stored to within a def -/
def stD (scope : Scope) : Str → Bool := fun x => decide (scope.names.lookup x = some .local) || decide (scope.names.lookup x = some .cell)
/-- THE RULE: a def by its body -/
theorem FnG.of {Γ : Ctx} {x qual : Str} {params : Arguments} {body : List Stmt} {scope : Scope} {fa : Addr} {fd : FuncData} {N ps : List Str} {k : Nat} {gb : Bool} {modes : List Bool} {f : StF} {as : List Nat} {dvs : List V} {kws : List (Str × V)} (Fd : FunD Γ.K x qual params body scope dvs kws fa fd) (S : FnScope N ps scope)
    (hm : modes.length = ps.length)
    (hb : ∀ (F0 : Addr → Prop) (H0 : Hp) (ino : Nat → Option Addr) (X : Cx) (W : WX), GdS (Γ.enter N F0 H0 ino gb) X scope (stD scope) k W → X.env.qual = qual ++ ".<locals>." → X.env.code = fd.code → PSs X body (tS (Γ.enter N F0 H0 ino gb) W as f)) : FnG Γ gb (k + 1) fa fd ps modes (runF f N.length modes) := by
  obtain ⟨oc, od, dV, kV, doc, pm, an, cdv, ct, osl, rfl, lk, hcd, _, _⟩ := Fd.ex
  refine ⟨hm, fun A outer s H args us vs Q E hr hg e0 hbi hv ⟨F, ds, r, tr, tb, ao, hsem, aft⟩ => ?_⟩
  have hvl : vs.length = ps.length := by rw [← ao.lm]; exact hm
  have hN : vs.length ≤ N.length := by
    have := S.pre
    have h2 : (N.take ps.length).length = ps.length := by rw [this]
    rw [List.length_take] at h2
    omega
  refine LamX.run_ofS (N := N) (ps := ps) (us := us) (vs := vs) lk hcd S hr e0 hbi hv hvl fun hr' => ?_
  have gd : GdS (Γ.enter N F (noT H) (inoAt modes vs) gb) (cxOf (L2N.CX Γ.prog Γ.w) Γ.prog Γ.w Γ.K Γ.mg Γ.base N qual scope fa cdv A outer s H E) scope (stD scope) k (fun c d _ H' => E c d H') := {
    prog := rfl
    w := rfl
    K := rfl
    mg := rfl
    base := rfl
    N := rfl
    nd := S.nd
    scp := rfl
    calm := fun _ => rfl
    room := ⟨hr'.dp, hr'.un⟩
    hd := fun _ => hr'.hd
    gd := fun h => by
      have q := hg h
      show (A.deeper _).guards = some []
      exact q
    st := fun y hy => by
      unfold stD at hy
      simp only [Bool.or_eq_true, decide_eq_true_eq] at hy
      exact ⟨hy, .inl rfl⟩
    tk := L2N.takes_of rfl rfl rfl rfl
    hp := passes_of rfl }
  refine ⟨_, hb F (noT H) (inoAt modes vs) _ _ gd rfl rfl, F, _, start_inv ao tr tb, start_rep ao hN, ?_⟩
  unfold runF at hsem
  rw [if_pos (by rw [ao.ld, ao.lm])] at hsem
  cases hf : f (startA N.length modes ds) with
  | nx ρ' =>
    rw [hf] at hsem
    simp only [endF] at hsem
    split at hsem
    · rename_i hst
      cases hsem
      exact fun F' H' σ' k' G' S' _ => aft F' H' .non (past_of k' G') (by unfold GaveOk; simp [RepV]) (outs_of S' hst)
    · cases hsem
  | ret d fl ρ' =>
    rw [hf] at hsem
    simp only [endF] at hsem
    split at hsem
    · rename_i hst
      cases hsem
      intro F' H' σ' v k' G' S' rr
      refine aft F' H' v (past_of k' G') ?_ (outs_of S' hst)
      unfold ResOk at rr
      unfold GaveOk
      split at rr
      · rename_i hq
        rw [if_pos hq]
        obtain ⟨a, e, nf, h0, _, t⟩ := rr
        exact ⟨a, e, nf, noT_none.mp h0, t⟩
      · rename_i hq
        rw [if_neg hq]
        exact rr
    · cases hsem
  | exc c =>
    rw [hf] at hsem
    simp only [endF] at hsem
    cases hsem
    exact fun F' H' σ' k' G' => aft F' H' (past_of k' G')
  | brk ρ' => rw [hf] at hsem; simp only [endF] at hsem; cases hsem
  | ct ρ' => rw [hf] at hsem; simp only [endF] at hsem; cases hsem
  | stuck => rw [hf] at hsem; simp only [endF] at hsem; cases hsem

/-! ### calls -/
inductive EvA where
  | val (f : EvE)
  | ref (i : Nat)
def EvA.mode : EvA → Bool
  | .val _ => false
  | .ref _ => true
def slotD (s : Option Slot) : Option D := match s with
  | some (.own d) => some d
  | some (.ino d) => some d
  | _ => none
def evArgs : List EvA → AE → Res (List (D × Option Nat))
  | [], ρ => .ok [] ρ
  | .val f :: r, ρ => (f ρ).bind fun p ρ1 => (evArgs r ρ1).bind fun ps ρ2 => .ok ((p.1, none) :: ps) ρ2
  | .ref i :: r, ρ => match slotD ρ[i]? with
    | some d => (evArgs r ρ).bind fun ps ρ2 => .ok ((d, some i) :: ps) ρ2
    | none => .stuck
/-- the data of the arguments, now -/
def nowD (ps : List (D × Option Nat)) (ρ : AE) : List D := ps.map fun p => match p.2 with
  | none => p.1
  | some i => (slotD ρ[i]?).getD .none
def posOf (ps : List (D × Option Nat)) (i : Nat) : Option Nat := ps.findIdx? fun p => p.2 == some i
/-- the changed arguments are one's own, each once -/
def refsOk (ps : List (D × Option Nat)) (ρ : AE) : Bool := (List.range ps.length).all fun j => match ps[j]? with
  | some (_, some i) => (posOf ps i == some j) && (slotD ρ[i]?).isSome
  | _ => true
def Slot.re : Slot → D → Slot
  | .own _, d => .own d
  | .ino _, d => .ino d
  | s, _ => s
def putOuts (ps : List (D × Option Nat)) (outs : List D) (ρ : AE) : AE := ρ.mapIdx fun i s => match posOf ps i with
  | some j => s.re (outs.getD j .none)
  | none => s
def eCall (sem : Fun) (args : List EvA) : EvE := fun ρ => (evArgs args ρ).bind fun ps ρ' => if refsOk ps ρ' then (match sem (nowD ps ρ') with
  | some (.ret d fl outs) => .ok (d, fl) (putOuts ps outs ρ')
  | some (.exc c) => .exc c
  | none => .stuck) else .stuck
section
variable {Γ : Ctx} {X : Cx} {sc : Scope} {st : Str → Bool} {k : Nat} {W : WX} {F F' : Addr → Prop} {H H' : Hp} {σ : L2.St} {ρ : AE}
def ArgsR (Γ : Ctx) (F : Addr → Prop) (H : Hp) (σ : L2.St) : List (D × Option Nat) → List V → Prop
  | [], vs => vs = []
  | p :: ps, vs => ∃ v us, vs = v :: us ∧ RepB Γ F H σ p v ∧ ArgsR Γ F H σ ps us
def tAs (Γ : Ctx) (W : WX) (as : List EvA) : TA := fun σ H Q => ∃ F ρ, GInv Γ F H ∧ RepS Γ F H σ ρ ∧ Out Γ W (evArgs as ρ) F H σ fun ps ρ' F' H' => ∀ vs, ArgsR Γ F' H' σ ps vs → Q vs H'
theorem das_nil : PA X [] (tAs Γ W []) := pa_imp pa_nil fun σ H Q ⟨F, ρ, G, S, O⟩ => O F H Fk.refl G S [] rfl
theorem das_val {e : Expr} {es : List Expr} {f : EvE} {r : List EvA} (he : PE X e (tD Γ W f)) (hr : PA X es (tAs Γ W r)) (hst : starEach (e :: es) X.env = (false, eval e X.env) :: starEach es X.env) : PA X (e :: es) (tAs Γ W (.val f :: r)) := pa_imp (pa_cons he hr hst) fun σ H Q ⟨F, ρ, G, S, O⟩ => by
  refine ⟨F, ρ, G, S, (Out.bind O).imp fun p ρ1 F1 H1 k1 G1 S1 O1 v rv => ?_⟩
  obtain ⟨F2, k2, G2, S2, r2⟩ := rv.froze G1 S1
  refine ⟨F2, ρ1, G2, S2, (Out.bind (O1.fk k2)).imp fun ps ρ3 F3 H3 k3 G3 S3 O3 us ru => O3 F3 H3 Fk.refl G3 S3 _ ⟨v, us, rfl, r2.mono k3, ru⟩⟩
theorem das_ref {es : List Expr} {i : Nat} {x : Str} {pos : Pos} {r : List EvA} (g : Gd Γ X sc st k) (hN : Γ.N[i]? = some x) (hv : Vis sc x) (hd : (x == ("__debug__" : Str)) = false) (hcd : (x == ("__classdict__" : Str)) = false) (hr : PA X es (tAs Γ W r)) (hst : starEach (.Name x pos :: es) X.env = (false, eval (.Name x pos) X.env) :: starEach es X.env) :
    PA X (.Name x pos :: es) (tAs Γ W (.ref i :: r)) := pa_imp (pa_cons (pe_var (i := i) (by rw [g.N]; exact hN) (by rw [g.scp]; exact hv) hd hcd) hr hst) fun σ H Q ⟨F, ρ, G, S, O⟩ => by
  simp only [evArgs] at O
  split at O
  · rename_i d hs
    obtain ⟨a, e⟩ : ∃ a, σ[i]? = some (some (.ref a)) := by
      unfold slotD at hs
      split at hs
      · rename_i d' h'
        obtain ⟨a, e, _⟩ := S.own i _ h'
        exact ⟨a, e⟩
      · rename_i d' h'
        obtain ⟨a, e, _⟩ := S.ino i _ h'
        exact ⟨a, e⟩
      · cases hs
    refine ⟨_, e, F, ρ, G, S, (Out.bind O).imp fun ps ρ3 F3 H3 k3 G3 S3 O3 us ru => O3 F3 H3 Fk.refl G3 S3 _ ⟨.ref a, us, rfl, e, ru⟩⟩
  · exact O.elim
theorem ArgsR.length : ∀ {ps : List (D × Option Nat)} {vs : List V}, ArgsR Γ F H σ ps vs → ps.length = vs.length
  | [], vs, h => by simp only [ArgsR] at h; subst h; rfl
  | p :: ps, vs, h => by
    obtain ⟨v, us, e, _, r⟩ := h
    subst e
    rw [List.length_cons, List.length_cons, ArgsR.length r]
theorem ArgsR.at : ∀ {ps : List (D × Option Nat)} {vs : List V} {i : Nat} {p : D × Option Nat} {v : V}, ArgsR Γ F H σ ps vs → ps[i]? = some p → vs[i]? = some v → RepB Γ F H σ p v
  | [], vs, i, p, v, h, e, _ => by simp at e
  | p' :: ps, vs, i, p, v, h, e, e2 => by
    obtain ⟨u, us, ev, r1, r⟩ := h
    subst ev
    cases i with
    | zero => simp at e e2; subst e; subst e2; exact r1
    | succ i => exact ArgsR.at (i := i) r (by simpa using e) (by simpa using e2)
def tCallG (Γ : Ctx) (modes : List Bool) (sem : Fun) (E : L2.St → XK) (t : TA) : TE := fun σ H Q => t σ H fun vs H1 => SpG Γ modes sem vs H1 Q (E σ)
theorem pe_callG {gb : Bool} {fa : Addr} {fd : FuncData} {ps : List Str} {modes : List Bool} {sem : Fun} {x : Str} {p pos : Pos} {e : Expr} {es : List Expr} {t : TA} (g : GdT Γ X sc st k W) (hh : Γ.hot = false) (Fn : FnG Γ gb k fa fd ps modes sem) (hgb : gb = true → Γ.gb = true) (hg : sc.names.lookup x = some .globalImplicit) (hm : Γ.mg x = some (.ref fa))
    (hk : PySem.W.keepIn Γ.K (.ref fa) = true) (hb : Binds Γ.K fd ps []) (ha : PA X (e :: es) t) (hdb : (x == ("__debug__" : Str)) = false) (he : starEach (e :: es) X.env = (false, eval e X.env) :: starEach es X.env) (hpl : (backTo pos (starEach es X.env)).any (·.1) = false) : PE X (.Call (.Name x p) (e :: es) [] pos) (tCallG Γ modes sem (WE W) t) := by
  refine ⟨fun pins s σ H Q I h => ?_⟩
  have hgl : Gl X x := by show X.env.scope.names.lookup x = _; rw [g.scp]; exact hg
  refine wpAny_Call_Name_kw (ld_glob I hgl (by rw [g.mg]; exact hm) ?_ hdb)
  refine PySem.W.callWith_K (h₀ := X.base) I.ok.mod.kin (by rw [g.K]; exact hk) (thn (ha.run pos pins s σ H _ I h) fun us s1 ⟨vs, H1, I1, r, q⟩ => ⟨I1.kIn, ?_⟩) he hpl
  have hl : us.length = ps.length := by
    obtain ⟨F, ds, r', _, _, ao, _⟩ := q
    rw [← r.length, ← ao.lm]; exact Fn.len
  have e0 := I1.env0
  rw [g.prog, g.w, g.K, g.mg, g.base] at e0
  have bt := hb s1 us (by rw [← g.K]; exact I1.kIn) (by rw [List.append_nil]; exact hl)
  rw [List.append_nil] at bt
  have rc := Fn.run X.A X.stack s1 H1 ⟨us, []⟩ us vs Q (WE W σ) (g.rm hh) (fun h => g.gd (hgb h)) e0 bt r q
  rw [← g.prog, ← g.w] at rc
  refine wpAny_call (codeAny_mono rc ?_)
  intro r s' hq
  cases r with
  | error e => exact L2N.passAt g.tk σ pins H1 s1 e s' I1 hq
  | ok fl =>
    cases fl with
    | ret u => exact I1.after hq
    | next => exact False.elim hq
    | brk => exact False.elim hq
    | cont => exact False.elim hq
theorem findIdx_some {α : Type} {p : α → Bool} : ∀ {l : List α} {j : Nat}, l.findIdx? p = some j → ∃ x, l[j]? = some x ∧ p x = true := by
  intro l j h
  rw [List.findIdx?_eq_some_iff_getElem] at h
  obtain ⟨h1, h2, _⟩ := h
  exact ⟨_, List.getElem?_eq_getElem h1, h2⟩
theorem slotD_own {i : Nat} {d : D} (h : slotD ρ[i]? = some d) : ρ[i]? = some (.own d) ∨ ρ[i]? = some (.ino d) := by
  unfold slotD at h
  split at h
  · rename_i d' h'
    cases h; exact .inl h'
  · rename_i d' h'
    cases h; exact .inr h'
  · cases h
/-- behind a call the slots hold what it left -/
theorem call_past (G : GInv Γ F H) (S : RepS Γ F H σ ρ) {modes : List Bool} {ps : List (D × Option Nat)} {vs : List V} (ar : ArgsR Γ F H σ ps vs) (hm : modes = ps.map fun p => p.2.isSome) (hr : refsOk ps ρ = true) (P : Past Γ F H modes vs F' H') : GInv Γ F' H' ∧
    ∀ outs, (∀ (i : Nat) a, modes[i]? = some true → vs[i]? = some (.ref a) → ∃ d', outs[i]? = some d' ∧ ¬ F' a ∧ Top Γ F' H' d' a) → RepS Γ F' H' σ (putOuts ps outs ρ) := by
  -- a changed argument lies in a slot
  have inoSlot : ∀ j a, modes[j]? = some true → vs[j]? = some (.ref a) → ∃ i, posOf ps i = some j ∧ OwnAt σ ρ i a := fun j a h1 h2 => by
    rw [hm, List.getElem?_map] at h1
    cases hp : ps[j]? with
    | none => rw [hp] at h1; cases h1
    | some p =>
      rw [hp] at h1
      obtain ⟨d, b⟩ := p
      cases b with
      | none => simp at h1
      | some i =>
        have q := List.all_eq_true.mp hr j (List.mem_range.mpr (List.getElem?_eq_some_iff.mp hp).1)
        rw [hp] at q
        simp only [Bool.and_eq_true, beq_iff_eq] at q
        obtain ⟨q1, q2⟩ := q
        obtain ⟨d', hd'⟩ := Option.isSome_iff_exists.mp q2
        exact ⟨i, q1, ar.at hp h2, d', slotD_own hd'⟩
  have noIno : ∀ a o, Γ.H0 a = some o → (∀ i, Γ.ino i ≠ some a) → ¬ inoA modes vs a := fun a o h0 hi ⟨j, h1, h2⟩ => by
    obtain ⟨i, _, e1, d, ho | ho⟩ := inoSlot j a h1 h2
    · obtain ⟨b, e, _, z, _⟩ := S.own i d ho
      rw [e1] at e; cases e
      rw [h0] at z; cases z
    · obtain ⟨b, e, _, z, _⟩ := S.ino i d ho
      rw [e1] at e; cases e
      exact hi i z
  refine ⟨⟨P.tr, fun a f => ?_, fun a f => P.fk.fm a (G.f0 a f), fun a o h1 h2 h3 => P.kp a o (G.kp a o h1 h2 h3) (noIno a o h1 h2) h3, fun a h => P.th a (G.th a h), G.io, fun i a h f => (P.fn a f).elim (G.ni i a h) fun z => z (G.th a (G.io i a h)), P.tb⟩, fun outs ho => ?_⟩
  · rcases P.fn a f with q | q
    · exact G.fn a q
    · refine .inr ?_
      cases z : Γ.H0 a with
      | none => rfl
      | some o => exact absurd (G.th a (by rw [z]; simp)) q
  · have at_ : ∀ i, (putOuts ps outs ρ)[i]? = (ρ[i]?).map fun s => match posOf ps i with
        | some j => s.re (outs.getD j .none)
        | none => s := fun i => by
      unfold putOuts
      rw [List.getElem?_mapIdx]
    have back : ∀ i s, (putOuts ps outs ρ)[i]? = some s → ∃ s0, ρ[i]? = some s0 ∧ ((∃ j, posOf ps i = some j ∧ s = s0.re (outs.getD j .none)) ∨ (posOf ps i = none ∧ s = s0)) := fun i s h => by
      rw [at_] at h
      cases q : ρ[i]? with
      | none => rw [q] at h; cases h
      | some s0 =>
        rw [q] at h
        refine ⟨s0, rfl, ?_⟩
        cases z : posOf ps i with
        | none => rw [z] at h; cases h; exact .inr ⟨rfl, rfl⟩
        | some j => rw [z] at h; cases h; exact .inl ⟨j, rfl, rfl⟩
    -- a slot that was not passed
    have keep : ∀ i a, OwnAt σ ρ i a → posOf ps i = none → H' a = H a ∧ ¬ F' a := fun i a o hp => by
      obtain ⟨nf, hs⟩ := S.at_ o
      have ni : ¬ inoA modes vs a := fun ⟨j, h1, h2⟩ => by
        obtain ⟨i', q1, q2⟩ := inoSlot j a h1 h2
        have := S.dis i i' a o q2
        subst this
        rw [hp] at q1; cases q1
      refine ⟨?_, fun f => ?_⟩
      · cases z : H a with
        | none => exact absurd z hs.ne
        | some u =>
          refine P.kp a u z ni fun ps' e => ?_
          obtain ⟨e1, d, h | h⟩ := o
          · obtain ⟨b, e', _, _, t⟩ := S.own i d h
            rw [e1] at e'; cases e'
            cases d with
            | list ds => obtain ⟨xs, q, _⟩ := t; rw [z, e] at q; cases q
            | dict kvs => obtain ⟨es, q, _⟩ := t; rw [z, e] at q; cases q
            | _ => exact t.elim
          · obtain ⟨b, e', _, _, t⟩ := S.ino i d h
            rw [e1] at e'; cases e'
            cases d with
            | list ds => obtain ⟨xs, q, _⟩ := t; rw [z, e] at q; cases q
            | dict kvs => obtain ⟨es, q, _⟩ := t; rw [z, e] at q; cases q
            | _ => exact t.elim
      · rcases P.fn a f with q | q
        · exact nf q
        · exact q hs
    -- one that was
    have passed : ∀ i a j, OwnAt σ ρ i a → posOf ps i = some j → ∃ d', outs.getD j .none = d' ∧ ¬ F' a ∧ Top Γ F' H' d' a := fun i a j o hp => by
      obtain ⟨p, h1, h2⟩ := findIdx_some hp
      have h2 : p.2 = some i := by simpa using h2
      have hlt : j < vs.length := by rw [← ar.length]; exact (List.getElem?_eq_some_iff.mp h1).1
      have hv : vs[j]? = some vs[j] := List.getElem?_eq_getElem hlt
      have rb := ar.at h1 hv
      have rb : σ[i]? = some (some vs[j]) := by
        obtain ⟨d, b⟩ := p
        cases h2
        exact rb
      rw [o.1] at rb
      have ev : vs[j]? = some (.ref a) := by rw [hv, ← (Option.some.inj (Option.some.inj rb))]
      obtain ⟨d', q1, q2, q3⟩ := ho j a (by rw [hm, List.getElem?_map, h1, Option.map_some, h2]; rfl) ev
      exact ⟨d', by rw [List.getD_eq_getElem?_getD, q1]; rfl, q2, q3⟩
    have own_ : ∀ i a, OwnAt σ (putOuts ps outs ρ) i a → OwnAt σ ρ i a := fun i a ⟨e1, d, o⟩ => by
      rcases o with o | o
      · obtain ⟨s0, q1, ⟨j, _, q2⟩ | ⟨_, q2⟩⟩ := back i _ o
        · cases s0 <;> first | exact ⟨e1, _, .inl q1⟩ | exact ⟨e1, _, .inr q1⟩ | (simp only [Slot.re] at q2; cases q2)
        · subst q2; exact ⟨e1, d, .inl q1⟩
      · obtain ⟨s0, q1, ⟨j, _, q2⟩ | ⟨_, q2⟩⟩ := back i _ o
        · cases s0 <;> first | exact ⟨e1, _, .inr q1⟩ | exact ⟨e1, _, .inl q1⟩ | (simp only [Slot.re] at q2; cases q2)
        · subst q2; exact ⟨e1, d, .inr q1⟩
    refine ⟨by unfold putOuts; rw [List.length_mapIdx]; exact S.len, fun i d h => ?_, fun i d h => ?_, fun i d h => ?_, fun i j a o1 o2 => S.dis i j a (own_ i a o1) (own_ j a o2), fun i h => ?_⟩
    · obtain ⟨s0, q1, ⟨j, _, q2⟩ | ⟨_, q2⟩⟩ := back i _ h
      · cases s0 <;> simp only [Slot.re] at q2 <;> cases q2
        obtain ⟨v, e, r⟩ := S.val i _ q1
        exact ⟨v, e, r.mono P.fk⟩
      · subst q2
        obtain ⟨v, e, r⟩ := S.val i _ q1
        exact ⟨v, e, r.mono P.fk⟩
    · obtain ⟨s0, q1, ⟨j, z, q2⟩ | ⟨z, q2⟩⟩ := back i _ h
      · cases s0 <;> simp only [Slot.re] at q2 <;> cases q2
        obtain ⟨a, e, nf, h0, t⟩ := S.own i _ q1
        obtain ⟨d', e', nf', t'⟩ := passed i a j ⟨e, _, .inl q1⟩ z
        rw [e']
        exact ⟨a, e, nf', h0, t'⟩
      · subst q2
        obtain ⟨a, e, nf, h0, t⟩ := S.own i _ q1
        obtain ⟨k1, k2⟩ := keep i a ⟨e, _, .inl q1⟩ z
        exact ⟨a, e, k2, h0, t.mono P.fk k1⟩
    · obtain ⟨s0, q1, ⟨j, z, q2⟩ | ⟨z, q2⟩⟩ := back i _ h
      · cases s0 <;> simp only [Slot.re] at q2 <;> cases q2
        obtain ⟨a, e, nf, h0, t⟩ := S.ino i _ q1
        obtain ⟨d', e', nf', t'⟩ := passed i a j ⟨e, _, .inr q1⟩ z
        rw [e']
        exact ⟨a, e, nf', h0, t'⟩
      · subst q2
        obtain ⟨a, e, nf, h0, t⟩ := S.ino i _ q1
        obtain ⟨k1, k2⟩ := keep i a ⟨e, _, .inr q1⟩ z
        exact ⟨a, e, k2, h0, t.mono P.fk k1⟩
    · obtain ⟨s0, q1, ⟨j, z, q2⟩ | ⟨z, q2⟩⟩ := back i _ h
      · cases s0 <;> simp only [Slot.re] at q2 <;> first | cases q2; done | exact S.exn i q1
      · subst q2
        exact S.exn i q1
theorem evArgs_modes : ∀ {as : List EvA} {ρ ρ' : AE} {ps : List (D × Option Nat)}, evArgs as ρ = .ok ps ρ' → ps.map (fun p => p.2.isSome) = as.map EvA.mode
  | [], ρ, ρ', ps, h => by simp only [evArgs] at h; cases h; rfl
  | .val f :: r, ρ, ρ', ps, h => by
    simp only [evArgs] at h
    cases q : f ρ with
    | ok p ρ1 =>
      rw [q] at h
      simp only [Res.bind] at h
      cases q2 : evArgs r ρ1 with
      | ok ps' ρ2 =>
        rw [q2] at h
        simp only [Res.bind] at h
        cases h
        have := evArgs_modes q2
        simp only [List.map_cons, EvA.mode, this]
        rfl
      | exc c => rw [q2] at h; cases h
      | stuck => rw [q2] at h; cases h
    | exc c => rw [q] at h; cases h
    | stuck => rw [q] at h; cases h
  | .ref i :: r, ρ, ρ', ps, h => by
    simp only [evArgs] at h
    split at h
    · cases q2 : evArgs r ρ with
      | ok ps' ρ2 =>
        rw [q2] at h
        simp only [Res.bind] at h
        cases h
        have := evArgs_modes q2
        simp only [List.map_cons, EvA.mode, this]
        rfl
      | exc c => rw [q2] at h; cases h
      | stuck => rw [q2] at h; cases h
    · cases h
theorem Out.eq {α : Type} {r : Res α} {kk : α → AE → (Addr → Prop) → Hp → Prop} (h : Out Γ W r F H σ kk) : Out Γ W r F H σ fun a ρ' F' H' => r = .ok a ρ' ∧ kk a ρ' F' H' := by
  cases r with
  | ok a ρ' => exact fun F' H' q1 q2 q3 => ⟨rfl, h F' H' q1 q2 q3⟩
  | exc c => exact h
  | stuck => exact h
theorem de_call {gb : Bool} {fa : Addr} {fd : FuncData} {pn : List Str} {modes : List Bool} {sem : Fun} {x : Str} {p pos : Pos} {e : Expr} {es : List Expr} {as : List EvA} (g : GdT Γ X sc st k W) (hh : Γ.hot = false) (Fn : FnG Γ gb k fa fd pn modes sem) (hgb : gb = true → Γ.gb = true) (hg : sc.names.lookup x = some .globalImplicit) (hm : Γ.mg x = some (.ref fa))
    (hk : PySem.W.keepIn Γ.K (.ref fa) = true) (hb : Binds Γ.K fd pn []) (hmo : as.map EvA.mode = modes) (ha : PA X (e :: es) (tAs Γ W as)) (hdb : (x == ("__debug__" : Str)) = false) (he : starEach (e :: es) X.env = (false, eval e X.env) :: starEach es X.env) (hpl : (backTo pos (starEach es X.env)).any (·.1) = false) :
    PE X (.Call (.Name x p) (e :: es) [] pos) (tD Γ W (eCall sem as)) := pe_imp (pe_callG g hh Fn hgb hg hm hk hb ha hdb he hpl) fun σ H Q ⟨F, ρ, G, S, O⟩ => by
  refine ⟨F, ρ, G, S, (Out.eq (Out.bind O)).imp fun ps ρ1 F1 H1 k1 G1 S1 ⟨heq, O1⟩ vs ar => ?_⟩
  have hmd : modes = ps.map fun p => p.2.isSome := by rw [← hmo, evArgs_modes heq]
  by_cases hr : refsOk ps ρ1 = true
  · rw [if_pos hr] at O1
    have hlen := ar.length
    cases hsem : sem (nowD ps ρ1) with
    | none => rw [hsem] at O1; exact O1.elim
    | some r =>
      rw [hsem] at O1
      refine ⟨F1, nowD ps ρ1, r, G1.tr, G1.tb, ⟨by rw [hmd, List.length_map, hlen], by unfold nowD; rw [List.length_map, hlen], fun i d v h1 h2 h3 => ?_, fun i d v h1 h2 h3 => ?_, fun i j a h1 h2 h3 h4 => ?_⟩, hsem, ?_⟩
      · rw [hmd, List.getElem?_map] at h1
        unfold nowD at h2
        rw [List.getElem?_map] at h2
        cases hp : ps[i]? with
        | none => rw [hp] at h1; cases h1
        | some p =>
          rw [hp] at h1 h2
          have rb := ar.at hp h3
          obtain ⟨d0, b⟩ := p
          cases b with
          | none => cases h2; exact rb
          | some j => simp at h1
      · rw [hmd, List.getElem?_map] at h1
        unfold nowD at h2
        rw [List.getElem?_map] at h2
        cases hp : ps[i]? with
        | none => rw [hp] at h1; cases h1
        | some p =>
          rw [hp] at h1 h2
          have rb := ar.at hp h3
          obtain ⟨d0, b⟩ := p
          cases b with
          | none => simp at h1
          | some j =>
            have rb : σ[j]? = some (some v) := rb
            have q := List.all_eq_true.mp hr i (List.mem_range.mpr (List.getElem?_eq_some_iff.mp hp).1)
            rw [hp] at q
            simp only [Bool.and_eq_true, beq_iff_eq] at q
            obtain ⟨d', hd'⟩ := Option.isSome_iff_exists.mp q.2
            simp only [Option.map_some, hd', Option.getD_some, Option.some.injEq] at h2
            subst h2
            rcases slotD_own hd' with o | o
            · obtain ⟨a, e, nf, _, t⟩ := S1.own j _ o
              rw [rb] at e; cases e
              exact ⟨a, rfl, nf, t⟩
            · obtain ⟨a, e, nf, _, t⟩ := S1.ino j _ o
              rw [rb] at e; cases e
              exact ⟨a, rfl, nf, t⟩
      · have key : ∀ i, modes[i]? = some true → vs[i]? = some (.ref a) → ∃ l, posOf ps l = some i ∧ OwnAt σ ρ1 l a := fun i h1 h3 => by
          rw [hmd, List.getElem?_map] at h1
          cases hp : ps[i]? with
          | none => rw [hp] at h1; cases h1
          | some p =>
            rw [hp] at h1
            have rb := ar.at hp h3
            obtain ⟨d0, b⟩ := p
            cases b with
            | none => simp at h1
            | some l =>
              have q := List.all_eq_true.mp hr i (List.mem_range.mpr (List.getElem?_eq_some_iff.mp hp).1)
              rw [hp] at q
              simp only [Bool.and_eq_true, beq_iff_eq] at q
              obtain ⟨d', hd'⟩ := Option.isSome_iff_exists.mp q.2
              exact ⟨l, q.1, rb, d', slotD_own hd'⟩
        obtain ⟨l1, p1, o1⟩ := key i h1 h3
        obtain ⟨l2, p2, o2⟩ := key j h2 h4
        have := S1.dis l1 l2 a o1 o2
        subst this
        rw [p1] at p2
        exact Option.some.inj p2
      · cases r with
        | exc c =>
          intro F' H' P
          exact O1 F' H' P.fk (call_past G1 S1 ar hmd hr P).1
        | ret d fl outs =>
          intro F' H' v P gv ho
          obtain ⟨G2, S2⟩ := call_past G1 S1 ar hmd hr P
          have S3 := S2 outs ho
          refine O1 F' H' P.fk G2 S3 v ?_
          unfold GaveOk at gv
          unfold ResOk
          split at gv
          · rename_i hq
            rw [if_pos hq]
            obtain ⟨a, e, nf, hn, t⟩ := gv
            have h0 : Γ.H0 a = none := by
              cases z : Γ.H0 a with
              | none => rfl
              | some o => exact absurd (G1.th a (by rw [z]; simp)) hn
            refine ⟨a, e, nf, h0, fun i o => ?_, t⟩
            obtain ⟨e1, d', o'⟩ := o
            have : OwnAt σ ρ1 i a := by
              have at_ : (putOuts ps outs ρ1)[i]? = (ρ1[i]?).map fun s => match posOf ps i with
                  | some j => s.re (outs.getD j .none)
                  | none => s := by
                unfold putOuts
                rw [List.getElem?_mapIdx]
              rw [at_] at o'
              cases q : ρ1[i]? with
              | none => rw [q] at o'; simp at o'
              | some s0 =>
                rw [q] at o'
                refine ⟨e1, ?_⟩
                cases z : posOf ps i with
                | none => rw [z] at o'; exact ⟨d', by rw [q]; simpa using o'⟩
                | some j =>
                  rw [z] at o'
                  cases s0 <;> simp [Slot.re] at o' <;> simp [q]
            exact hn (S1.at_ this).2
          · rename_i hq
            rw [if_neg hq]
            exact gv
  · rw [if_neg hr] at O1
    exact O1.elim
end
end Ow

namespace Ow
open PySem PyProof.Rows PySem.Spec L2 LamX

section
variable {prog : Program} {w : World} {A : Around} {E : Value → Shared → Prop} {s : Shared}
/-- a list's walk ends while an exception is handled -/
theorem list_end_hot {wi wl x1 : Addr} {at_ : Nat} {els : Array Value} {Q : Option Value → Shared → Prop} (hot : HotX.HotAt A x1 s.heap) (apart : x1 ≠ wi) (gi : s.heap.IsListIter wi wl at_) (gl : s.heap.IsList wl els) (gx : els[at_]? = none)
    (back : ∀ h', Heap.ExtBut wi s.heap h' → Q none { s with heap := h' }) : wpAny (model prog w) A (pyNext (.ref wi)) Q E s := by
  obtain ⟨oi, ei, ci, di⟩ := id gi
  obtain ⟨ow, ew, _, nw, dw⟩ := gl
  obtain ⟨z0, z1, z2, z3, z4, z5⟩ := hot
  unfold pyNext
  refine wpAny_bind (wpAny_attempt (wpAny_callSpecial?_slot (name := Str.ofString "__next__") gi.typeIs slot_listiter_next
    (wpAny_call_entry slot_listiter_next gi.typeIs entry_listiter_next ?_ (args_listiter_next _))))
  refine wpAny_bind (m := field (.ref wi) 0) (wpAny_field ei di (x := .ref wl) rfl ?_)
  have there : ¬ (Value.ref wl == Value.none) = true := Bool.false_ne_true
  rw [if_neg there]
  refine wpAny_bind (m := field (.ref wi) 1) (wpAny_field ei di (x := .int at_ 0) rfl ?_)
  show wpAny _ _ (seqItems? (.ref wl) >>= _) _ _ s
  refine wpAny_bind (wpAny_seqItems ew dw ?_)
  simp only [Int.toNat_natCast, gx]
  refine wpAny_bind (wpAny_rule (wpAny_bind (wpAny_setField ei di (by simp) ?_)))
  show wpAny _ _ (newExc (.type "StopIteration") [] >>= _) _ _ _
  refine wpAny_bind ?_
  simp only [newExc, newTuple]
  refine wpAny_bind (wpAny_newObj_type ?_ (by size_fits))
  refine wpAny_bind (m := firstArgMember _ _) (wpAny_of_eq (a := Value.none) (by first | rfl | (simp only [firstArgMember]; rfl)) ?_)
  refine wpAny_newObj_type ?_ (by size_fits)
  have kept := Heap.get?_update_other s.heap (Obj.mapFields (·.setIfInBounds 0 .none)) (Ne.symm apart)
  refine HotX.raiseNew_hot ⟨z0, z1, z2, Heap.get?_push_of_some _ (Heap.get?_push_of_some _ (kept.trans z3)), z4, z5⟩ (Nat.ne_of_lt (Heap.lt_size (Heap.get?_push_of_some _ (kept.trans z3)))) (Heap.get?_push_size _ rfl) rfl (by first | (simp; done) | (simp; omega) | (simp only [Array.size_append]; simp; omega)) ?_
  refine wpAny_bind (wpAny_isInstance (b := true) ⟨_, Heap.get?_update_self _ (Heap.get?_push_size _ rfl) rfl, rfl⟩ isSubtype_stop (wpAny_pure (back _ fun b o' hb e => ?_)))
  have kept2 := Heap.get?_push_of_some { cls := .type "tuple", data := .seq #[] } ((Heap.get?_update_other s.heap (Obj.mapFields (·.setIfInBounds 0 .none)) (Ne.symm hb)).trans e)
  rw [Heap.get?_update_other _ _ (Nat.ne_of_gt (Heap.lt_size kept2))]
  exact Heap.get?_push_of_some _ kept2
/-- .. a tuple's -/
theorem tuple_end_hot {wi wl x1 : Addr} {at_ : Nat} {els : Array Value} {Q : Option Value → Shared → Prop} (hot : HotX.HotAt A x1 s.heap) (apart : x1 ≠ wi) (gi : IsTupIter s.heap wi wl at_) (gl : IsTup s.heap wl els) (gx : els[at_]? = none)
    (back : ∀ h', Heap.ExtBut wi s.heap h' → Q none { s with heap := h' }) : wpAny (model prog w) A (pyNext (.ref wi)) Q E s := by
  obtain ⟨oi, ei, ci, di⟩ := id gi
  obtain ⟨ow, ew, _, nw, dw⟩ := gl
  obtain ⟨z0, z1, z2, z3, z4, z5⟩ := hot
  unfold pyNext
  refine wpAny_bind (wpAny_attempt (wpAny_callSpecial?_slot (name := Str.ofString "__next__") gi.typeIs slot_tupleiter_next
    (wpAny_call_entry slot_tupleiter_next gi.typeIs entry_tupleiter_next ?_ (args_tupleiter_next _))))
  refine wpAny_bind (m := field (.ref wi) 0) (wpAny_field ei di (x := .ref wl) rfl ?_)
  have there : ¬ (Value.ref wl == Value.none) = true := Bool.false_ne_true
  rw [if_neg there]
  refine wpAny_bind (m := field (.ref wi) 1) (wpAny_field ei di (x := .int at_ 0) rfl ?_)
  show wpAny _ _ (seqItems? (.ref wl) >>= _) _ _ s
  refine wpAny_bind (wpAny_seqItems ew dw ?_)
  simp only [Int.toNat_natCast, gx]
  refine wpAny_bind (wpAny_rule (wpAny_bind (wpAny_setField ei di (by simp) ?_)))
  show wpAny _ _ (newExc (.type "StopIteration") [] >>= _) _ _ _
  refine wpAny_bind ?_
  simp only [newExc, newTuple]
  refine wpAny_bind (wpAny_newObj_type ?_ (by size_fits))
  refine wpAny_bind (m := firstArgMember _ _) (wpAny_of_eq (a := Value.none) (by first | rfl | (simp only [firstArgMember]; rfl)) ?_)
  refine wpAny_newObj_type ?_ (by size_fits)
  have kept := Heap.get?_update_other s.heap (Obj.mapFields (·.setIfInBounds 0 .none)) (Ne.symm apart)
  refine HotX.raiseNew_hot ⟨z0, z1, z2, Heap.get?_push_of_some _ (Heap.get?_push_of_some _ (kept.trans z3)), z4, z5⟩ (Nat.ne_of_lt (Heap.lt_size (Heap.get?_push_of_some _ (kept.trans z3)))) (Heap.get?_push_size _ rfl) rfl (by first | (simp; done) | (simp; omega) | (simp only [Array.size_append]; simp; omega)) ?_
  refine wpAny_bind (wpAny_isInstance (b := true) ⟨_, Heap.get?_update_self _ (Heap.get?_push_size _ rfl) rfl, rfl⟩ isSubtype_stop (wpAny_pure (back _ fun b o' hb e => ?_)))
  have kept2 := Heap.get?_push_of_some { cls := .type "tuple", data := .seq #[] } ((Heap.get?_update_other s.heap (Obj.mapFields (·.setIfInBounds 0 .none)) (Ne.symm hb)).trans e)
  rw [Heap.get?_update_other _ _ (Nat.ne_of_gt (Heap.lt_size kept2))]
  exact Heap.get?_push_of_some _ kept2
/-- a tuple's els, all at once -/
theorem items_hot {t x1 : Addr} {els : Array Value} {Q : List Value → Shared → Prop} (hot : HotX.HotAt A x1 s.heap) (gt : IsTup s.heap t els)
    (back : ∀ h', Heap.ExtBut s.heap.objs.size s.heap h' → Q els.toList { s with heap := h' }) : wpAny (model prog w) A (unpackItems (.ref t) els.size none) Q E s := by
  have low : t ≠ s.heap.objs.size := by obtain ⟨o, ho, _⟩ := gt; exact Nat.ne_of_lt (Heap.lt_size ho)
  obtain ⟨z0, z1, z2, z3, z4, z5⟩ := hot
  have apart : x1 ≠ s.heap.objs.size := Nat.ne_of_lt (Heap.lt_size z3)
  unfold unpackItems notIterableAtAll
  refine wpAny_bind (wpAny_bind (wpAny_specialOf gt.typeIs slot_tuple_iter.lookup (wpAny_pure ?_)))
  simp only [Bool.false_eq_true, if_false]
  refine wpAny_bind (wpAny_holding (iter_tuple gt (wpAny_bind (wpAny_holding (draw_tuple low els.size 0 _ _ ⟨_, Heap.get?_push_size _ rfl, rfl, rfl⟩ (gt.push _) (by omega) fun h₁ hit₁ hs₁ => ?_)))))
  have whole : List.take els.size (List.drop 0 els.toList) = els.toList := by
    simp [List.take_of_length_le]
  rw [whole, if_neg (by simp)]
  have g1 : h₁.get? x1 = some z1 := (hs₁.2 x1 apart).trans (Heap.get?_push_of_some _ z3)
  refine wpAny_bind (wpAny_holding (tuple_end_hot (x1 := x1) ⟨z0, z1, z2, g1, z4, z5⟩ apart hit₁ ((gt.push _).extBut hs₁.extBut low) (by simp) fun h₂ he₂ => ?_))
  simp only [Option.isSome_none, Bool.false_eq_true, if_false]
  exact wpAny_pure (back h₂ fun b o hb e => he₂ b o hb (hs₁.extBut b o hb (Heap.get?_push_of_some _ e)))
end
section
variable {X : Cx} {pos : Pos}
theorem pg_tupH {es : List Expr} {k : Nat} {t : TGs} {n : Nat} (hc : L2H.HotC X) (h : PGs X es t) (hn : (assignEach es X.env).length = n) (hst : (assignEach es X.env).findIdx? (·.1) = none) : PG X (.Tuple es k pos) (gTup X.K n t) := by
  refine ⟨fun pn s τ Hm v u Q I r hw => ?_⟩
  obtain ⟨a, xs, rfl, hq, hl, hw⟩ := hw
  cases r
  obtain ⟨vs1, rel, tt, room⟩ := I.tuple hq
  obtain ⟨x1, hot⟩ := hc.at I
  rw [assign_Tuple]
  refine wpAny_bind (wpAny_standAt ?_)
  unfold unpack
  rw [hst, show (assignEach es X.env).length = vs1.toArray.size by simp [hn, ← hl, rel.length]]
  refine wpAny_bind (wpAny_holding (items_hot hot tt fun h' hx => ?_))
  exact h.run pn _ τ Hm xs _ Q (I.kept (t' := s.toks) fun b o e => hx b o (Nat.ne_of_lt (Heap.lt_size e)) e) (by simpa using rel) hw
/-- the block's view, what is handled known -/
abbrev blkH (X : Cx) (s : Shared) (H : Hp) (scope : Scope) (cenv : Env) (fp : List Addr) : Cx := { X.blk s H scope cenv fp with pn := X.pn }
theorem inv_blkH {s s' : Shared} {H H' : Hp} {σ : L2.St} {scope : Scope} {cenv : Env} {fp : List Addr} (I : Inv (X.blk s H scope cenv fp) [] σ H' s') (h : ∀ p ∈ X.pn, s'.heap.get? p.1 = some p.2 ∧ H' p.1 = none ∧ p.1 ≠ cenv.locals ∧ p.1 ∉ (X.blk s H scope cenv fp).fs ∧ ∀ v, p.2.data ≠ .cell v) : Inv (blkH X s H scope cenv fp) [] σ H' s' :=
  ⟨⟨I.ok.mod, I.ok.kind, I.ok.glob, I.ok.blt, I.ok.above, I.ok.inj, I.ok.has, I.ok.cab, I.ok.hd, I.ok.frames, I.ok.stk, I.ok.exf, I.ok.bs, I.ok.bsz, I.ok.noex, I.ok.exfs, I.ok.funs, I.ok.frf⟩, I.os, I.bare, I.base, I.loc, I.cell, I.free, I.freeC, fun p hp => h p (by rw [List.append_nil] at hp; exact hp), I.hok, I.len⟩
/-- [elt for target in a list if ..] while an exception is handled: the block -/
theorem lcH {pins : List (Addr × Obj)} {s : Shared} {σ : L2.St} {H : Hp} {Q : VK} {elt tg iter : Expr} {ifs : List Expr} {scope : Scope} {own : List (Str × Nat)} {posn : Pos} {tl : TE} {g : TG} {tt : TT} {te : TE} {use : Option (Value → Sem Unit)} {Qf : Value → Shared → Prop}
    (hc : L2H.HotC X) (hN : X.N.Nodup) (I : Inv X pins σ H s) (hl : PE X iter tl) (ok : BlkOk X.N X.env.scope scope own)
    (hg : ∀ (s : Shared) (H : Hp) (C : Addr) (cl : List (Str × Addr)) (fp : List Addr), PG (blkH X s H scope (compEnvC scope cl C X.env) fp) tg g)
    (ht : ∀ (s : Shared) (H : Hp) (C : Addr) (cl : List (Str × Addr)) (fp : List Addr), PTs (blkH X s H scope (compEnvC scope cl C X.env) fp) ifs tt)
    (he : ∀ (s : Shared) (H : Hp) (C : Addr) (cl : List (Str × Addr)) (fp : List Addr), PE (blkH X s H scope (compEnvC scope cl C X.env) fp) elt te) (hs : ∀ x, foldedSetIterable iter X.env x = pure x)
    (h : tLc (iList X.K tl) g tt te (own.map (·.2)) σ H Q)
    (fin : ∀ D C s' m H', Inv X pins σ H' s' → Q (.ref D) H' → s'.heap.Ns C m → FpOk X pins H' C → compPost (model X.prog X.w) X.A X.xe use Qf (.ref D) C (.ok .next) s') :
    wpAny (model X.prog X.w) X.A (comprehension (.ListComp elt [⟨tg, iter, ifs, 0⟩] scope pos) scope X.env posn (newList []) false (eval iter X.env) use) Qf X.xe s := by
  have hfree : ∀ y ∈ scope.names, y.2 = .free → ∃ c, X.env.cells.lookup y.1 = some c := fun y hy e => (ok.free y hy e).elim (fun k => I.ok.has _ (.inl k)) fun k => I.ok.has _ (.inr k)
  refine wpAny_comprehension_free (use := use) rfl hs (closure_ok hfree) ok.kind (fun y hy e => by rw [ok.uniq y hy, e]) (thn (hl.run pins s σ H _ I h) fun v s1 ⟨x, H1, I1, r1, q1⟩ => ?_)
  obtain ⟨a, rfl, ⟨xs0, hq0⟩, q⟩ := q1
  cases r1
  obtain ⟨its0, rv0, p0, hz0⟩ := I1.list hq0
  refine wpAny_pyIter_list p0.isList (wpAny_newObj_type (newEnv_comp ?_) (by show 0 ≤ sizeLine; decide))
  -- the iterator at it, the new list at D
  generalize hit : s1.heap.objs.size = it
  generalize hh1 : s1.heap.push { cls := .type "list_iterator", data := .fields #[.ref a, .int 0 0] } = h1
  have eh1 : h1.objs.size = it + 1 := by rw [← hh1, Heap.size_push, hit]
  generalize hD : h1.objs.size = D
  have iN : H1 it = none := I1.hok.fresh (Nat.le_of_eq hit)
  have DN : H1 D = none := I1.hok.fresh (by rw [← hD, eh1, ← hit]; exact Nat.le_succ _)
  have itD : it ≠ D := by rw [← hD, eh1]; omega
  have st1 : h1.IsListIter it a 0 := by rw [← hh1, ← hit]; exact ⟨_, Heap.get?_push_size _ rfl, rfl, rfl⟩
  have I2 : Inv X pins σ H1 { s1 with heap := h1 } := I1.kept (t' := s1.toks) fun b o e => by rw [← hh1]; exact Heap.get?_push_of_some _ e
  have f1 : FpOk X pins H1 it := I1.fpOk (Nat.le_of_eq hit) iN
  obtain ⟨W, ⟨m0, w0⟩, turn⟩ := q D DN
  generalize hh3 : h1.push { cls := .type "list", data := .seq ([] : List Value).toArray } = h3
  have eh3 : h3.objs.size = D + 1 := by rw [← hh3, Heap.size_push, hD]
  have I3 : Inv X pins σ (upd H1 D (.lst [])) { s1 with heap := h3 } := by
    rw [← hh3]
    refine I2.laid (t' := s1.toks) (fun b o e => Heap.get?_push_of_some _ e) (Nat.le_of_eq hD) ⟨Nat.zero_le _, [], 0, .nil, ?_⟩
    rw [← hD]
    exact Heap.get?_push_size _ rfl
  have st3 : h3.IsListIter it a 0 := let ⟨o, e, r⟩ := st1; ⟨o, by rw [← hh3]; exact Heap.get?_push_of_some _ e, r⟩
  have f3 : FpOk X pins (upd H1 D (.lst [])) it := ⟨by rw [upd_ne itD]; exact iN, f1.2⟩
  have fL : ∀ b ∈ [it], FpOk X pins (upd H1 D (.lst [])) b ∧ b < ({ s1 with heap := h3 } : Shared).heap.objs.size := fun b hb => by
    obtain rfl : b = it := by simpa using hb
    refine ⟨f3, ?_⟩
    show b < h3.objs.size
    rw [eh3, ← hD, eh1]
    omega
  have I4 := block_start I3 ok hN fL
  have pg := hg { s1 with heap := h3 } (upd H1 D (.lst [])) h3.objs.size (cellsFrom (h3.objs.size + 1) scope.names (cloFrom X.env.cells scope.names [])) [it]
  have pt := ht { s1 with heap := h3 } (upd H1 D (.lst [])) h3.objs.size (cellsFrom (h3.objs.size + 1) scope.names (cloFrom X.env.cells scope.names [])) [it]
  have pe := he { s1 with heap := h3 } (upd H1 D (.lst [])) h3.objs.size (cellsFrom (h3.objs.size + 1) scope.names (cloFrom X.env.cells scope.names [])) [it]
  show codeAny _ _ (.compStart (.ListComp elt [⟨tg, iter, ifs, 0⟩] scope pos) 0 (.ref it) (.ref D) (compEnvC scope (cellsFrom (h3.objs.size + 1) scope.names (cloFrom X.env.cells scope.names [])) h3.objs.size X.env)) (compPost (model X.prog X.w) X.A X.xe use Qf (.ref D) h3.objs.size) { s1 with heap := pushCells (h3.push { cls := .type "dict", data := .dict #[] }) scope.names }
  generalize hce : compEnvC scope (cellsFrom (h3.objs.size + 1) scope.names (cloFrom X.env.cells scope.names [])) h3.objs.size X.env = ce at pg pt pe ⊢
  have cL : ce.locals = h3.objs.size := by subst hce; rfl
  have kp4 : ∀ b o, h3.get? b = some o → (pushCells (h3.push { cls := .type "dict", data := .dict #[] }) scope.names).get? b = some o := fun b o e => pushCells_keeps _ _ _ _ (Heap.get?_push_of_some _ e)
  have J4 : Inv (blkH X { s1 with heap := h3 } (upd H1 D (.lst [])) scope ce [it]) [] (L2.wipe σ (own.map (·.2))) (upd H1 D (.lst [])) { s1 with heap := pushCells (h3.push { cls := .type "dict", data := .dict #[] }) scope.names } := by
    refine inv_blkH (by rw [← hce]; exact I4) fun p hp => ?_
    obtain ⟨e1, e2, e3, e4, e5⟩ := I3.pin p (List.mem_append_left _ hp)
    refine ⟨kp4 _ _ e1, e2, ?_, fun z => ?_, e5⟩
    · rw [cL]; exact Nat.ne_of_lt (Heap.lt_size e1)
    · rcases List.mem_cons.mp (I3.stkSub _ z) with z | z
      · exact e3 z
      · exact e4 z
  have st4 : (pushCells (h3.push { cls := .type "dict", data := .dict #[] }) scope.names).IsListIter it a 0 := let ⟨o, e, r⟩ := st3; ⟨o, kp4 _ _ e, r⟩
  have n4 : (upd H1 D (.lst [])) it = none := f3.1
  generalize hs3 : ({ s1 with heap := h3 } : Shared) = s3 at I3 pg pt pe J4 ⊢
  have e3 : s3.heap.objs.size = h3.objs.size := by rw [← hs3]
  generalize hs4 : ({ s1 with heap := pushCells (h3.push { cls := .type "dict", data := .dict #[] }) scope.names } : Shared) = s4 at J4 ⊢
  have st4 : s4.heap.IsListIter it a 0 := by rw [← hs4]; exact st4
  generalize hH3 : upd H1 D (.lst []) = H3 at I3 pg pt pe w0 n4 J4 f3
  have hotC : L2H.HotC (blkH X s3 H3 scope ce [it]) := hc
  have stat : ∀ {σ' : L2.St} {H' : Hp} {s' : Shared}, Inv (blkH X s3 H3 scope ce [it]) [] σ' H' s' → H' it = none → FpOk (blkH X s3 H3 scope ce [it]) [] H' it := fun {σ' H' s'} I' hn =>
    ⟨hn, (I'.ok.exf it (by simp)).1, I'.ok.exfs it (by simp), .inl (by simp), fun x c e => (I'.ok.exf it (by simp)).2 x c e, fun p hp => f3.2.2.2.2.2 p (List.mem_append_left _ (by rw [List.append_nil] at hp; exact hp))⟩
  have loop : codeAny (model X.prog X.w) X.A (.compLoop (.ListComp elt [⟨tg, iter, ifs, 0⟩] scope pos) 0 (.ref it) (.ref D) ce) (compPost (model X.prog X.w) X.A X.xe use Qf (.ref D) h3.objs.size) s4 := by
    refine compLoop_any (fun n s' => ∃ i H', Inv (blkH X s3 H3 scope ce [it]) [] (L2.wipe σ (own.map (·.2))) H' s' ∧ s'.heap.IsListIter it a i ∧ H' it = none ∧ W i n H') ?_ m0 ⟨0, H3, J4, st4, n4, w0⟩
    rintro n sv ⟨i, Hv, Iv, tv, nv, wv⟩
    obtain ⟨g0, g1, g2, g3, g4, g5⟩ := stat Iv nv
    rcases turn i n Hv wv with ⟨⟨xs, hq, hx⟩, qq⟩ | ⟨⟨xs, x, hq, hx⟩, Nx, less, step⟩
    · obtain ⟨its, rel, p, hz⟩ := Iv.list hq
      obtain ⟨q1, ⟨hh, v1, d1, c1⟩, hq1⟩ := hotC
      have P1 := Iv.pin q1 (List.mem_append_left _ hq1)
      have hlen := rel.length
      refine list_end_hot (x1 := q1.1) ⟨hh, q1.2, v1, P1.1, d1, c1⟩ (g5 q1 (List.mem_append_left _ hq1)) tv p.isList (by simp; omega) fun h' eb => ?_
      have I6 := Iv.turned (h' := h') (t' := sv.toks) (fun b o hb e => eb b o hb e) g0 g1 g3 g4 g5
      have I7 : Inv X pins σ Hv { sv with heap := h' } := I3.call' (ch := [it]) I6.os I6.base I6.hok I6.bare fun b hb => by
        obtain rfl : b = it := by simpa using hb
        exact ⟨f3.2.2.2.1, f3.2.1, f3.2.2.2.2.1, f3.2.2.2.2.2⟩
      have nC : Hv h3.objs.size = none := by
        have z : Hv ce.locals = none := I6.free
        rw [cL] at z
        exact z
      obtain ⟨m, hn, _⟩ := I6.loc
      have hn : h'.Ns ce.locals m := hn
      rw [cL] at hn
      exact fin D h3.objs.size { sv with heap := h' } m Hv I7 qq hn (I3.fpOk (by rw [e3]; exact Nat.le_refl _) nC)
    · obtain ⟨its, rel, p, hz⟩ := Iv.list hq
      obtain ⟨u, gu, vu⟩ := rel.get hx
      refine wpAny_pyNext_list_item tv p.isList (x := u) (by simpa using gu) fun h' st' sb => ?_
      have I6 := Iv.turned (h' := h') (t' := sv.toks) (fun b o hb e => (sb.2 b hb).trans e) g0 g1 g3 g4 g5
      obtain ⟨o, e, c, d⟩ := id st'
      refine go_of (s := { sv with heap := h' }) e c d (by decide) ?_
      have I6' := I6.pins_of (pins' := [(it, o)]) fun q hqm => by
        obtain rfl : q = (it, o) := by simpa using hqm
        exact ⟨e, nv, g1, g2, fun v z => by have z : o.data = .cell v := z; rw [d] at z; cases z⟩
      refine thnF (pg.run _ _ _ Hv x u _ I6' vu (step x Hv ⟨rfl, fun ys hy => by rw [Iv.list_inj hy hq]; exact hx⟩)) fun _ sw ⟨σw, Hw, Iw, hw8, qw⟩ => ?_
      refine thnF (pt.run _ sw σw Hw _ Iw qw) fun b sx ⟨Hx, Ix, qx⟩ => ?_
      have again : ∀ {s' : Shared} {H' : Hp}, Inv (blkH X s3 H3 scope ce [it]) [(it, o)] σw H' s' → Nx H' → ∃ m, m < n ∧ ∃ i H', Inv (blkH X s3 H3 scope ce [it]) [] (L2.wipe σ (own.map (·.2))) H' s' ∧ s'.heap.IsListIter it a i ∧ H' it = none ∧ W i m H' := fun {s' H'} I' nx => by
        obtain ⟨m', hm, w'⟩ := less H' nx
        have P := I'.pin (it, o) (List.mem_append_right _ (by simp))
        have hl : (L2.wipe σ (own.map (·.2))).length = σw.length := by rw [← hw8, wipe_length]
        refine ⟨m', hm, i + 1, H', (I'.pins_of (pins' := []) fun q hq => absurd hq (by simp)).weak hl (fun j v e => ?_), ⟨o, P.1, c, d⟩, P.2.1, w'⟩
        rw [← hw8] at e
        exact (wipe_some e).1
      cases b with
      | false =>
        rw [if_neg Bool.false_ne_true] at qx ⊢
        exact again Ix qx
      | true =>
        simp only [if_true] at qx ⊢
        refine thnF (pe.run _ sx σw Hx _ Ix qx) fun z sy ⟨yv, Hy, Iy, ry, acc, dy, zy, nx⟩ => ?_
        exact app_ok (X := blkH X s3 H3 scope ce [it]) Iy dy zy ry fun s11 I11 => again I11 nx
  exact codeAny_compStart_list loop (wpAny_pyIter_listiter st4 loop)
/-- name = [..] on one line, while an exception is handled -/
theorem ps_setLcH {i : Nat} {y : Str} {py : Pos} {elt tg iter : Expr} {ifs : List Expr} {scope : Scope} {own : List (Str × Nat)} {spos : Pos} {tl : TE} {g : TG} {tt : TT} {te : TE} (hc : L2H.HotC X) (hN : X.N.Nodup) (hy : X.N[i]? = some y) (hyl : X.env.scope.names.lookup y = some .local)
    (hsw : swapsWith (.ListComp elt [⟨tg, iter, ifs, 0⟩] scope pos) (some (.Name y py)) spos.line X.env = pure true) (hl : PE X iter tl) (ok : BlkOk X.N X.env.scope scope own)
    (hg : ∀ (s : Shared) (H : Hp) (C : Addr) (cl : List (Str × Addr)) (fp : List Addr), PG (blkH X s H scope (compEnvC scope cl C X.env) fp) tg g)
    (ht : ∀ (s : Shared) (H : Hp) (C : Addr) (cl : List (Str × Addr)) (fp : List Addr), PTs (blkH X s H scope (compEnvC scope cl C X.env) fp) ifs tt)
    (he : ∀ (s : Shared) (H : Hp) (C : Addr) (cl : List (Str × Addr)) (fp : List Addr), PE (blkH X s H scope (compEnvC scope cl C X.env) fp) elt te) (hs : ∀ x, foldedSetIterable iter X.env x = pure x) :
    PS X (.Assign [.Name y py] (.ListComp elt [⟨tg, iter, ifs, 0⟩] scope pos) spos) (tAsg (tLc (iList X.K tl) g tt te (own.map (·.2))) (gName i)) := by
  refine ⟨fun pn s τ H D I h => ?_⟩
  rw [exec_Assign_Name_used _ _ _ _ hsw]
  refine wpAny_bind (wpAny_standAt (wpAny_bind ?_))
  show wpAny _ X.A (do let made ← comprehension (.ListComp elt [⟨tg, iter, ifs, 0⟩] scope pos) scope X.env (firstIterPos [⟨tg, iter, ifs, 0⟩] pos) (newList []) false (eval iter X.env) (some (assign (.Name y py) X.env))) _ _ s
  refine wpAny_bind (thn (lcH (Q := fun x H1 => gName i x τ H1 D.nx) (Qf := fun _ s' => SP X pn D .next s') hc hN I hl ok hg ht he hs h fun nl C s' m H' I' q hn f => ?_) fun _ s' hq => wpAny_pure (wpAny_pure hq))
  show wpAny _ _ (assign (.Name y py) X.env (.ref nl)) _ _ _
  refine wpAny_assign_Name (store_ok2 (v := V.ref nl) I' hN hy (.inl hyl) rfl (fun s2 I2 ⟨b, sb, hb⟩ => ?_) (.inr hyl))
  obtain ⟨p0, p1, p2, p3, p4, p5⟩ := f
  have bC : C ≠ b := by
    rcases hb with z | z
    · rw [z]; exact p1
    · exact fun e => p4 y b z e.symm
  exact ⟨m, hn.sameBut sb bC, fun h3 sb3 => ⟨_, H', I2.turned (t' := s2.toks) (fun b o hb e => (sb3.2 b hb).trans e) p0 p1 p3 p4 p5, q⟩⟩
end
end Ow

namespace Ow
open PySem PyProof.Rows PySem.Spec L2 LamX

/-! ### within an except suite -/
def iLst (f : EvO) : EvI := fun ρ => (f ρ).bind fun p ρ' => match p.1 with
  | .list ds => .ok (ds, [p]) ρ'
  | _ => .stuck
def eIsX (i : Nat) (b : Bool) : EvE := fun ρ => match ρ[i]? with
  | some .exn => .ok (.bool b, false) ρ
  | _ => .stuck
section
variable {Γ : Ctx} {X : Cx} {sc scope : Scope} {st : Str → Bool} {k : Nat} {W : WX} {as : List Nat} {pos : Pos}
theorem ilst_imp {f : EvO} (g : Gd Γ X sc st k) : ∀ σ H (R : It → Hp → Prop), tI Γ W (iLst f) σ H R → iList X.K (tO Γ W f) σ H R := fun σ H R ⟨F, ρ, G, S, O⟩ => by
  refine ⟨F, ρ, G, S, (Out.bind O).imp fun p ρ1 F1 H1 k1 G1 S1 O1 x hx sx => ?_⟩
  obtain ⟨d, b⟩ := p
  have hr := S1.read hx sx
  have bs : RepBs Γ F1 H1 σ [(d, b)] [x] := ⟨x, [], rfl, hx, rfl⟩
  have ss : stills [(d, b)] ρ1 = true := by simp only [stills, Bool.and_true]; exact sx
  cases d with
  | list ds =>
    obtain ⟨a, xs, rfl, l, z, r⟩ := rList hr
    exact ⟨a, rfl, ⟨xs, by rw [g.K]; exact l⟩, O1 F1 H1 Fk.refl G1 S1 _ _ (by show ds.length ≤ _; rw [r.length]; exact z) bs ss (by rw [g.K]; exact walkD_list)⟩
  | _ => exact O1.elim
theorem gd_blkH {s : Shared} {H : Hp} {C : Addr} {cl : List (Str × Addr)} {fp : List Addr} (g : Gd Γ X sc st k) : Gd Γ (blkH X s H scope (compEnvC scope cl C X.env) fp) (relS scope sc) (stOf scope) k :=
  let h := gd_blk (scope := scope) (s := s) (H := H) (C := C) (cl := cl) (fp := fp) g
  ⟨h.prog, h.w, h.K, h.mg, h.base, h.N, h.nd, h.scp, h.calm, h.room, h.hd, h.gd, h.st⟩
theorem dg_tupH {es : List Expr} {kk : Nat} {ts : List Tg} {n : Nat} (g : Gd Γ X sc st k) (hc : L2H.HotC X) (h : PGs X es (tGs Γ ts)) (hl : ts.length = n) (hn : (assignEach es X.env).length = n) (hst : (assignEach es X.env).findIdx? (·.1) = none) : PG X (.Tuple es kk pos) (tG Γ (.tup ts)) := by
  refine pg_imp (pg_tupH (n := n) hc h hn hst) fun v σ H Q h => ?_
  obtain ⟨F, ρ, d, ρ', G, S, r, hb, q⟩ := h
  cases d with
  | tuple ds =>
    simp only [bindT] at hb
    split at hb
    · rename_i hlen
      simp only [RepV] at r
      obtain ⟨a, xs, e, l, z, rr⟩ := r
      exact ⟨a, xs, e, by rw [g.K]; exact l, by rw [← rr.length, ← hlen]; exact hl, F, ρ, ds, ρ', G, S, rr, hb, q⟩
    · cases hb
  | _ => simp [bindT] at hb
theorem ds_asgCH {i : Nat} {x : Str} {p : Pos} {elt tg iter : Expr} {ifs : List Expr} {own : List (Str × Nat)} {cpos : Pos} {f : EvO} {t : Tg} {tt : EvT} {el : EvE} (g : Gd Γ X sc st k) (hc : L2H.HotC X) (hN : Γ.N[i]? = some x) (hx : sc.names.lookup x = some .local) (hk : sc.kind = .function) (hi : as.contains i = true)
    (hl : (p.line == cpos.line) = true) (ha : (scope.names.any fun (n, k) => n == x && (k == .local || k == .cell)) = false)
    (hit : PE X iter (tO Γ W f)) (ok : blkC Γ.N sc scope own = true) (hsl : t.slots.all (fun i => (own.map (·.2)).contains i) = true)
    (hg : ∀ p o X', GdT (Γ.apart p o) X' (relS scope sc) (stOf scope) k W0 → L2H.HotC X' → PG X' tg (tG (Γ.apart p o) t)) (ht : ∀ p o X', GdT (Γ.apart p o) X' (relS scope sc) (stOf scope) k W0 → L2H.HotC X' → PTs X' ifs (tT (Γ.apart p o) W0 tt))
    (he : ∀ p o X', GdT (Γ.apart p o) X' (relS scope sc) (stOf scope) k W0 → L2H.HotC X' → PE X' elt (tD (Γ.apart p o) W0 el)) (hs : ∀ x, foldedSetIterable iter X.env x = pure x) :
    PS X (.Assign [.Name x p] (.ListComp elt [⟨tg, iter, ifs, 0⟩] scope cpos) pos) (tS Γ W as (sAsg i (eComp (own.map (·.2)) (iLst f) t tt el))) := by
  have okb : BlkOk X.N X.env.scope scope own := by rw [g.N, g.scp]; exact blkOk_by ok
  have hcb : ∀ {s : Shared} {H : Hp} {ce : Env} {fp : List Addr}, L2H.HotC (blkH X s H scope ce fp) := fun {s H ce fp} => hc
  refine ps_imp (ps_setLcH (i := i) hc (by rw [g.N]; exact g.nd) (by rw [g.N]; exact hN) (by rw [g.scp]; exact hx) (sw_true (by rw [g.scp]; exact hk) (by rw [g.scp]; exact hx) hl ha) hit okb (g := gComp Γ t) (tt := ttComp Γ tt) (te := teComp Γ el)
    (fun s H C cl fp => pg_ex fun z => hg _ _ _ ⟨gd_apart (gd_blkH g) z.1 z.2, takesN0⟩ hcb) (fun s H C cl fp => pts_ex fun z => ht _ _ _ ⟨gd_apart (gd_blkH g) z.1 z.2, takesN0⟩ hcb) (fun s H C cl fp => pe_ex fun z => he _ _ _ ⟨gd_apart (gd_blkH g) z.1 z.2, takesN0⟩ hcb) hs) (asg_imp (fun σ H Q q => ?_) hi)
  exact ilst_imp g _ _ _ (comp_imp (fun i hi => by
      have := List.all_eq_true.mp hsl i hi
      simpa using this) σ H Q q)
/-- isinstance(e, x), e what is handled, b whether it is so -/
theorem de_isexc {i : Nat} {e x : Str} {a D C : Addr} {b : Bool} {p p1 p2 : Pos} (g : Gd Γ X sc st k) (hci : CallR X (.builtin "isinstance") (rIsE X.K D a)) (hxa : Γ.xa = some a) (hg : sc.names.lookup ("isinstance" : Str) = some .globalImplicit) (hm : Γ.mg ("isinstance" : Str) = none)
    (hN : Γ.N[i]? = some e) (hv : Vis sc e) (hd : (e == ("__debug__" : Str)) = false) (hcd : (e == ("__classdict__" : Str)) = false) (hgx : sc.names.lookup x = some .globalImplicit) (hmx : Γ.mg x = some (.ref C)) (hdx : (x == ("__debug__" : Str)) = false) (hk : PySem.W.kitOne Γ.K (.ref D) (.ref C) = some b)
    (hs1 : starEach (.Name e p1 :: [.Name x p2]) X.env = (false, eval (.Name e p1) X.env) :: starEach [.Name x p2] X.env) (hs2 : starEach (.Name x p2 :: []) X.env = (false, eval (.Name x p2) X.env) :: starEach [] X.env) (hpl : (backTo pos (starEach [.Name x p2] X.env)).any (·.1) = false) :
    PE X (.Call (.Name "isinstance" p) [.Name e p1, .Name x p2] [] pos) (tD Γ W (eIsX i b)) := by
  have G1 : ∀ {x : Str}, sc.names.lookup x = some .globalImplicit → Gl X x := fun {x} h => by show X.env.scope.names.lookup x = _; rw [g.scp]; exact h
  refine pe_imp (pe_callB hci (G1 hg) (by rw [g.mg]; exact hm) (by decide +kernel) (pa_cons (pe_var (i := i) (by rw [g.N]; exact hN) (by rw [g.scp]; exact hv) hd hcd) (pa_cons (pe_glob (v := .ref C) (G1 hgx) (by rw [g.mg]; exact hmx) rfl hdx) pa_nil hs2) hs1) (by decide) (by decide) hs1 hpl) fun σ H Q ⟨F, ρ, G, S, O⟩ => ?_
  simp only [eIsX] at O
  split at O
  · rename_i hs
    obtain ⟨a', ea, es⟩ := S.exn i hs
    rw [hxa] at ea
    cases ea
    exact ⟨.ref a, es, .ref C, .ref C, b, rfl, fun u r => r, by rw [g.K]; exact hk, O F H Fk.refl G S _ (resOk_plain (by simp only [RepV]))⟩
  · exact O.elim
end

/-! ### a lambda called in the def that got it -/
/-- the lambda's view (its error's context is told) -/
abbrev lamN (X : Cx) (A : Around) (outer : List Env) (s : Shared) (H : Hp) (E : XK) (scope : Scope) (f c' : Addr) : Cx :=
  { lamCx X A outer s H E scope f c' with xe := fun e s' => wpAny (model X.prog X.w) (A.deeper (lamEnv X scope s.heap.objs.size f c')) (leaving (lamEnv X scope s.heap.objs.size f c') e) (fun _ s'' => L2N.CX X.prog X.w outer H s E e s'') (fun e' s'' => L2N.CX X.prog X.w outer H s E e' s'') s' }
theorem inv_xe {X : Cx} {pins : List (Addr × Obj)} {σ : L2.St} {H : Hp} {s : Shared} {xe : Value → Shared → Prop} (I : Inv X pins σ H s) : Inv { X with xe := xe } pins σ H s :=
  ⟨⟨I.ok.mod, I.ok.kind, I.ok.glob, I.ok.blt, I.ok.above, I.ok.inj, I.ok.has, I.ok.cab, I.ok.hd, I.ok.frames, I.ok.stk, I.ok.exf, I.ok.bs, I.ok.bsz, I.ok.noex, I.ok.exfs, I.ok.funs, I.ok.frf⟩, I.os, I.bare, I.base, I.loc, I.cell, I.free, I.freeC, I.pin, I.hok, I.len⟩
section
variable {X : Cx} {pins : List (Addr × Obj)} {σ : L2.St} {H HZ : Hp} {s : Shared}
theorem pe_actN {Eg : XK} {Ng : List Str} {qg : Str} {sg : Scope} {g f c' : Addr} {cdg pm ctv : Value} {pars : Arguments} {bdy : Expr} {sco : Scope} {k i : Nat} {a : Str} {pn : List (Addr × Obj)} {xe : Value → Shared → Prop} {W : WX} {E : XK} {tb : TE} {p1 p2 : Pos}
    (I : Inv X pins σ H s) (L : LamS X.env.scope sco) (gf : s.heap.get? f = some (PySem.W.kla_obj "<lambda>" (X.env.qual ++ "<lambda>") pars bdy sco (cloFrom X.env.cells sco.names []) pm c' ctv)) (gfn : H f = none) (gfr : f ∉ frs X.stack)
    (hbind : bindArgs (PySem.W.kla_fn "<lambda>" (X.env.qual ++ "<lambda>") pars bdy sco (cloFrom X.env.cells sco.names []) pm (.ref c') ctv) ⟨[], []⟩ = pure [])
    (tk : L2N.Takes ((cxOf (L2N.CX X.prog X.w) X.prog X.w X.K X.mg X.base Ng qg sg g cdg X.A X.stack s H Eg).tr pn xe) W) (hr : Room (k + 1) (X.A.deeper (envOfC qg sg s.heap.objs.size g cdg)))
    (hbody : ∀ (A : Around) (outer : List Env) (s : Shared) (H : Hp), Room k (A.deeper (lamEnv X sco s.heap.objs.size f c')) → PE (lamN X A outer s H E sco f c') bdy tb)
    (hN : Ng[i]? = some a) (hv : Vis sg a) (hd : (a == ("__debug__" : Str)) = false) (hcd : (a == ("__classdict__" : Str)) = false) :
    PE ((cxOf (L2N.CX X.prog X.w) X.prog X.w X.K X.mg X.base Ng qg sg g cdg X.A X.stack s H Eg).tr pn xe) (.Call (.Name a p1) [] [] p2)
      (fun σZ HZ Q => (∀ cls d H', E cls d H' → W cls d σZ H') ∧ σZ[i]? = some (some (.ref f)) ∧ HZ c' = some (CodeO c' (X.env.qual ++ "<lambda>")) ∧ tb σ HZ Q) := by
  refine ⟨fun pinsZ sZ σZ HZ Q IZ ⟨hW, hs, gc, ht⟩ => ?_⟩
  refine wpAny_Call_Name_kw (thn ((pe_var (pos := p1) (i := i) hN hv hd hcd).run pinsZ sZ σZ HZ (fun v H1 => v = .ref f ∧ H1 = HZ) IZ ⟨.ref f, hs, rfl, rfl⟩) fun u s1 ⟨v, H1, I1, rel1, ev, eH⟩ => ?_)
  subst ev
  rw [eH] at I1
  have eu : u = Value.ref f := rel1
  subst eu
  have lamf := I1.base.keep f _ gf gfn gfr (fun z => nomatch (show f ∈ ([] : List Addr) from z))
  refine PySem.W.callWith_F0 ⟨_, _, _, _, lamf⟩ ?_
  obtain ⟨⟨ob, vls, t, goc, gdc, gvc⟩, _, _⟩ := I1.hok c' _ gc
  have kept : Un (frs X.stack) [] H HZ s.heap s1.heap := I1.base
  have runs : codeAny (model X.prog X.w) (X.A.deeper (envOfC qg sg s.heap.objs.size g cdg)) (.call (.ref f) ⟨[], []⟩) (CR (L2N.CX X.prog X.w) (envOfC qg sg s.heap.objs.size g cdg :: X.stack) X.prog X.w HZ s1 Q E) s1 := by
    refine PySem.W.kla_callFunE hr.depth lamf rfl L.co L.gen rfl ⟨c', ob, vls, t, rfl, goc, gdc, gvc⟩ ?_
    rw [hbind]
    refine wpAny_pure (wpAny_newFunctionEnv (fun y hy => (L.own y hy).2) (fun y hy => absurd hy (by simp)) (fun h₁ gns gsb => ⟨I1.nolimit.fresh _ gsb, ?_⟩) L.kind)
    show codeAny _ _ (.expr bdy (lamEnv X sco s1.heap.objs.size f c')) _ _
    have old : ∀ b o, s1.heap.get? b = some o → h₁.get? b = some o := fun b o e => gsb.extBut b o (Nat.ne_of_lt (Heap.lt_size e)) (Heap.get?_push_of_some _ e)
    have J := lam_start2 (E := E) (f := f) (c' := c') (tk := s1.toks + ([] : List (Str × Value)).length) I L I1.env0 hr.hd kept gns old
    refine PySem.W.kla_codeExpr (wpAny_mono ((hbody _ _ s1 HZ (hr.deeper _)).run [] _ _ HZ Q (inv_xe J) ht) (fun v s' ⟨w', H', J', rv, q⟩ => ⟨w', H', J'.os, J'.bare, J'.base, J'.hok, rv, q⟩) fun e s' hq => hq)
  refine wpAny_call (codeAny_mono runs ?_); intro r s' hq
  cases r with
  | error e => exact tk e s' (L2N.XE.of_call I1 hW hq)
  | ok fl =>
    cases fl with
    | ret u => exact I1.after hq
    | next => exact False.elim hq
    | brk => exact False.elim hq
    | cont => exact False.elim hq
end
end Ow

namespace Ow
open PySem PyProof.Rows PySem.Spec L2 LamX

section
variable {Γ : Ctx} {F F1 F2 : Addr → Prop} {H H1 H2 : Hp} {σ : L2.St} {ρ : AE}
theorem noIno {a : Addr} : ¬ inoA [] [] a := fun ⟨_, h, _⟩ => by simp at h
theorem Past.trans (a : Past Γ F H [] [] F1 H1) (b : Past Γ F1 H1 [] [] F2 H2) : Past Γ F H [] [] F2 H2 where
  fk := a.fk.trans b.fk
  tr := b.tr
  tb := b.tb
  fn := fun x f => (b.fn x f).elim (a.fn x) fun n => .inr fun z => n (a.th x z)
  kp := fun x o h _ n => b.kp x o (a.kp x o h noIno n) noIno n
  th := fun x h => b.th x (a.th x h)
theorem Past.ext (a : Past Γ F H [] [] F1 H1) (e : Ext H1 H2) : Past Γ F H [] [] F1 H2 where
  fk := a.fk.trans (Fk.ext a.tr e)
  tr := fun x f => (a.tr x f).ext e
  tb := a.tb.ext e
  fn := a.fn
  kp := fun x o h n1 n => e x o (a.kp x o h n1 n)
  th := fun x h => (a.th x h).ext e
theorem Past.froze {p : Addr} (a : Past Γ F H [] [] F1 H1) (h1 : ¬ NTo H p) (h2 : NTo H1 p) : Past Γ F H [] [] (fun b => F1 b ∨ b = p) H1 where
  fk := a.fk.trans (Fk.grow fun _ h => .inl h)
  tr := fun x f => f.elim (a.tr x) fun e => e ▸ h2
  tb := a.tb
  fn := fun x f => f.elim (a.fn x) fun e => .inr (e ▸ h1)
  kp := a.kp
  th := a.th
theorem past_extN (tr : ∀ a, F a → NTo H a) (e : ExtN H H1) (tb : Tabs Γ.T H1) : Past Γ F H [] [] F H1 where
  fk := ⟨fun _ h => h, fun a f => by
    obtain ⟨o, q, n⟩ := tr a f
    rw [q]; exact e a o q n, fun a xs h => e a _ h (fun _ z => HO.noConfusion z), fun a o u h => e a _ h (fun _ z => HO.noConfusion z)⟩
  tr := fun a f => let ⟨o, q, n⟩ := tr a f; ⟨o, e a o q n, n⟩
  tb := tb
  fn := fun _ f => .inl f
  kp := fun a o h _ n => e a o h n
  th := fun a ⟨o, q, n⟩ => ⟨o, e a o q n, n⟩
theorem putOuts_nil : putOuts [] [] ρ = ρ := by
  unfold putOuts
  apply List.ext_getElem?
  intro i
  rw [List.getElem?_mapIdx]
  cases ρ[i]? <;> rfl
theorem past_keep (G : GInv Γ F H) (S : RepS Γ F H σ ρ) (P : Past Γ F H [] [] F1 H1) : GInv Γ F1 H1 ∧ RepS Γ F1 H1 σ ρ := by
  obtain ⟨a, b⟩ := call_past (modes := []) (ps := []) (vs := []) G S rfl rfl rfl P
  refine ⟨a, ?_⟩
  have := b [] (fun i a h => by simp at h)
  rwa [putOuts_nil] at this
theorem args_nil : ArgsOk Γ F H [] [] [] := ⟨rfl, rfl, fun i d v h => by simp at h, fun i d v h => by simp at h, fun i j a h => by simp at h⟩
end
def maskA (ρ : AE) : AE := ρ.map fun s => match s with
  | .val d => .val d
  | _ => .non
theorem mask_rep {Γ : Ctx} {F : Addr → Prop} {H : Hp} {σ : L2.St} {ρ : AE} {N : List Str} {gb : Bool} (S : RepS Γ F H σ ρ) : RepS (Γ.enter N F (noT H) (inoAt [] []) gb) F H σ (maskA ρ) := by
  have key : ∀ (i : Nat) s, (maskA ρ)[i]? = some s → (∃ d, s = .val d ∧ ρ[i]? = some (.val d)) ∨ s = .non := fun i s h => by
    unfold maskA at h
    rw [List.getElem?_map] at h
    cases q : ρ[i]? with
    | none => rw [q] at h; cases h
    | some s0 =>
      rw [q] at h
      cases s0 with
      | val d => cases h; exact .inl ⟨d, rfl, rfl⟩
      | _ => cases h; exact .inr rfl
  refine ⟨by unfold maskA; rw [List.length_map]; exact S.len, fun i d h => ?_, fun i d h => ?_, fun i d h => ?_, fun i j a ⟨_, d, o⟩ _ => ?_, fun i h => ?_⟩
  · rcases key i _ h with ⟨d', e, h'⟩ | e
    · cases e; exact S.val i d h'
    · cases e
  · rcases key i _ h with ⟨d', e, h'⟩ | e <;> cases e
  · rcases key i _ h with ⟨d', e, h'⟩ | e <;> cases e
  · rcases o with o | o
    · rcases key i _ o with ⟨d', e, h'⟩ | e <;> cases e
    · rcases key i _ o with ⟨d', e, h'⟩ | e <;> cases e
  · rcases key i _ h with ⟨d', e, h'⟩ | e <;> cases e
def eTold (readD : D → Option D) (wordOf : Str → Option Str) (f : EvE) : EvE := fun ρ => match f (maskA ρ) with
  | .ok p _ => (match readD p.1 with
    | some r => .ok (.tuple [.int 0, r], false) ρ
    | none => .stuck)
  | .exc c => (match wordOf c with
    | some x => .ok (.tuple [.int 1, .str x], false) ρ
    | none => .stuck)
  | .stuck => .stuck
def readSem (readD : D → Option D) : Fun := fun ds => match ds with
  | [d] => (readD d).map fun r => .ret r (isMut r) [.none]
  | _ => none
def Ctx.inHot (Γ : Ctx) (N : List Str) (F0 : Addr → Prop) (H0 : Hp) (a : Addr) : Ctx := { Γ with N := N, F0 := F0, H0 := H0, ino := inoAt [] [], gb := false, hot := true, xa := some a }
/-- told(lambda: body) -/
theorem pe_told {Γ : Ctx} {X : Cx} {sc : Scope} {st : Str → Bool} {k kk kr : Nat} {W : WX} {f : EvE} {readD : D → Option D} {wordOf : Str → Option Str} {x a rd top e pr : Str} {fa fr c P : Addr} {fd fdr : FuncData} {pt : Arguments} {bt : List Stmt} {sct : Scope} {Ng : List Str}
    {params : Arguments} {body : Expr} {scope : Scope} {p lpos pos p1 p2 p3 p4 p5 p7 p8 p9 p10 p11 : Pos} {j0 k6 : Nat} {b₀ : Stmt} {suite : List Stmt} {ctop : Value} {as : List Nat} {hF : Str → StF}
    (g : GdT Γ X sc st k W) (hh : Γ.hot = false) (hkk : kk + 2 ≤ k) (Fd : FunD Γ.K x x pt bt sct [] [] fa fd) (Sg : FnScope Ng [a] sct) (hNg : Ng[0]? = some a) (hva : Vis sct a) (hg : sc.names.lookup x = some .globalImplicit) (hm : Γ.mg x = some (.ref fa)) (hb : Binds Γ.K fd [a] [])
    (TB : TabB Γ.base Γ.mg c P) (hcode : X.env.code = .ref c) (hmT : (P, X.env.qual ++ "<lambda>") ∈ Γ.T) (hu : ∀ p ∈ Γ.T, p.1 = P → p.2 = X.env.qual ++ "<lambda>") (L : LamS sc scope) (hdef : defaultsOf params X.env = ([], []))
    (hbind : ∀ (qn : Str) (cells : List (Str × Addr)) (v1 v2 v3 : Value), bindArgs (PySem.W.kla_fn "<lambda>" qn params body scope cells v1 v2 v3) ⟨[], []⟩ = pure [])
    (hbody : ∀ (F0 : Addr → Prop) (H0 : Hp) (ino : Nat → Option Addr) (X' : Cx) (W' : WX), GdT (Γ.enter Γ.N F0 H0 ino false) X' scope (fun _ => false) kk W' → PE X' body (tD (Γ.enter Γ.N F0 H0 ino false) W' f))
    (htext : bt = [.Try [.Return (some (.Tuple [.Constant (.int 0) j0 p1, .Call (.Name rd p2) [.Call (.Name a p3) [] [] p4] [] p5] k6 p7)) p8] [.ExceptHandler (some (.Name top p9)) (some e) (b₀ :: suite) p10] [] [] p11])
    (hread : FnG Γ false kr fr fdr [pr] [false] (readSem readD)) (hkr : kr ≤ kk + 1) (hgr : sct.names.lookup rd = some .globalImplicit) (hmr : Γ.mg rd = some (.ref fr)) (hkpr : PySem.W.keepIn Γ.K (.ref fr) = true) (hbr : Binds Γ.K fdr [pr] [])
    (he : Ng[1]? = some e) (hle : sct.names.lookup e = some .local) (htop : sct.names.lookup top = some .globalImplicit) (hmtop : Γ.mg top = some ctop) (hdtop : (top == ("__debug__" : Str)) = false) (hdr : (rd == ("__debug__" : Str)) = false) (hda : (a == ("__debug__" : Str)) = false) (hca : (a == ("__classdict__" : Str)) = false) (hdx : (x == ("__debug__" : Str)) = false)
    (hexm : ∀ c w, wordOf c = some w → PySem.W.exmOne Γ.K (Γ.cls c) ctop = some true) (hD : ∀ c w, wordOf c = some w → ∃ D, Γ.cls c = .ref D ∧ ExcC Γ.K D)
    (hsu : ∀ c w, wordOf c = some w → ∀ (F0 : Addr → Prop) (H0 : Hp) (X' : Cx) (aE D : Addr), Γ.cls c = .ref D → GdT (Γ.inHot Ng F0 H0 aE) X' sct (stD sct) (kk + 1) W0 → L2H.HotC X' → CallR X' (.builtin "isinstance") (rIsE X'.K D aE) → PSs X' (b₀ :: suite) (tS (Γ.inHot Ng F0 H0 aE) W0 as (hF c)))
    (hres : ∀ c w, wordOf c = some w → ∃ ρ', hF c ((List.replicate Ng.length Slot.non).set 1 .exn) = .ret (.tuple [.int 1, .str w]) false ρ') :
    PE X (.Call (.Name x p) [.Lambda params body scope lpos] [] pos) (tD Γ W (eTold readD wordOf f)) := by
  refine ⟨fun pins s σ H Q I ⟨F, ρ, G, S, O⟩ => ?_⟩
  have hkp := Fd.kp
  obtain ⟨oc, od, dV, kV, doc, pm, an, cdv, ct, osl, rfl, lk, hcd, _, _⟩ := Fd.ex
  have hgl : Gl X x := by show X.env.scope.names.lookup x = _; rw [g.scp]; exact hg
  have hr : Room (kk + 2) X.A := (g.rm hh).mono hkk
  refine wpAny_Call_Name_kw (ld_glob I hgl (by rw [g.mg]; exact hm) ?_ hdx)
  refine PySem.W.callWith_K (h₀ := X.base) I.ok.mod.kin (by rw [g.K]; exact hkp) ?_ (by rfl) (by rfl)
  change wpAny _ _ (spliced ((false, eval (.Lambda params body scope lpos) X.env) :: backTo pos (starEach [] X.env))) _ _ s
  have L' : LamS X.env.scope scope := by rw [g.scp]; exact L
  refine Calls.spliced_cons (lam_make2 I (by rw [g.base, g.mg]; exact TB) hcode hmT hu G.tb hdef (L'.has I.ok) fun fl c' pm' ctv H1 s' I1 eN T1 hf hfn hfr hco => ?_)
  apply Calls.spliced_nil
  refine ⟨I1.kIn, ?_⟩
  -- the end, from any state that the call may leave
  have PN := past_extN (Γ := Γ) G.tr eN T1
  have done : ∀ (d : D) F' H' v, Out Γ W (.ok (d, false) ρ) F H σ (fun p ρ' F' H' => ∀ v, ResOk Γ F' H' σ ρ' p v → Q v H') → Past Γ F H1 [] [] F' H' → Γ.RV F' H' d v → Q v H' := fun d F' H' v O' P r => by
    have PP := PN.trans P
    obtain ⟨G', S'⟩ := past_keep G S PP
    exact O' F' H' PP.fk G' S' v (resOk_plain r)
  have e0 := I1.env0
  have rc : codeAny (model X.prog X.w) X.A (.call (.ref fa) ⟨[.ref fl], []⟩) (CR (L2N.CX X.prog X.w) X.stack X.prog X.w H1 s' Q (fun _ _ _ => False)) s' := by
    refine run_ofS (N := Ng) (ps := [a]) (us := [.ref fl]) (vs := [.ref fl]) (by rw [g.K]; exact lk) (by rw [g.K]; exact hcd) Sg hr e0 (hb s' [.ref fl] (by rw [← g.K]; exact I1.kIn) rfl) (.cons rfl .nil) rfl fun hr' => ?_
    have G1 : GInv (Γ.enter Γ.N F (noT H1) (inoAt [] []) false) F H1 := start_inv args_nil PN.tr T1
    have S1 : RepS (Γ.enter Γ.N F (noT H1) (inoAt [] []) false) F H1 σ (maskA ρ) := mask_rep (past_keep G S PN).2
    have gt : ∀ (pn : List (Addr × Obj)) (xe : Value → Shared → Prop) (W2 : WX), L2N.Takes ((cxOf (L2N.CX X.prog X.w) X.prog X.w X.K X.mg X.base Ng x sct fa cdv X.A X.stack s' H1 (fun _ _ _ => False)).tr pn xe) W2 →
        GdT (Γ.enter Ng (fun _ => False) (fun _ => none) (inoAt [] []) false) ((cxOf (L2N.CX X.prog X.w) X.prog X.w X.K X.mg X.base Ng x sct fa cdv X.A X.stack s' H1 (fun _ _ _ => False)).tr pn xe) sct (stD sct) (kk + 1) W2 := fun pn xe W2 tk => {
      prog := g.prog
      w := g.w
      K := g.K
      mg := g.mg
      base := g.base
      N := rfl
      nd := Sg.nd
      scp := rfl
      calm := fun _ => rfl
      room := ⟨hr'.dp, hr'.un⟩
      hd := fun _ => hr'.hd
      gd := fun h => by cases h
      st := fun y hy => by
        unfold stD at hy
        simp only [Bool.or_eq_true, decide_eq_true_eq] at hy
        exact ⟨hy, .inl rfl⟩
      tk := tk }
    have gh : ∀ (aE : Addr) (pn : List (Addr × Obj)) (F0 : Addr → Prop) (H0 : Hp), GdT (Γ.inHot Ng F0 H0 aE) ((cxOf (L2N.CX X.prog X.w) X.prog X.w X.K X.mg X.base Ng x sct fa cdv X.A X.stack s' H1 (fun _ _ _ => False)).suite aE pn) sct (stD sct) (kk + 1) W0 := fun aE pn F0 H0 => {
      prog := g.prog
      w := g.w
      K := g.K
      mg := g.mg
      base := g.base
      N := rfl
      nd := Sg.nd
      scp := rfl
      calm := fun h => by cases h
      room := ⟨hr'.dp, hr'.un⟩
      hd := fun h => by cases h
      gd := fun h => by cases h
      st := fun y hy => by
        unfold stD at hy
        simp only [Bool.or_eq_true, decide_eq_true_eq] at hy
        exact ⟨hy, .inl rfl⟩
      tk := takesN0 }
    rw [htext]
    refine ⟨_, pss_one (L2N.ps_try_as (X := cxOf (L2N.CX X.prog X.w) X.prog X.w X.K X.mg X.base Ng x sct fa cdv X.A X.stack s' H1 (fun _ _ _ => False)) (c := ctop) (i := 1) (Wout := W0)
      (tb := fun W2 => tRet (tTup (tCons (tC (.int 0)) (tCons (tCallG (Γ.enter Ng (fun _ => False) (fun _ => none) (inoAt [] []) false) [false] (readSem readD) (WE W2) (tCons (fun σZ HZ Q => (∀ cls d H', W2 cls d (L2.start Ng [V.ref fl]) H' → W2 cls d σZ H') ∧ σZ[0]? = some (some (.ref fl)) ∧ HZ c' = some (CodeO c' (X.env.qual ++ "<lambda>")) ∧ tD (Γ.enter Γ.N F (noT H1) (inoAt [] []) false) (fun cls d _ H => W2 cls d (L2.start Ng [V.ref fl]) H) f σ HZ Q) tNil)) tNil))))
      (ts := fun aE cls d D σ' H' => ∃ z : Str × Str × (Addr → Prop) × Hp, wordOf z.1 = some z.2.1 ∧ cls = Γ.cls z.1 ∧ d = none ∧ tS (Γ.inHot Ng z.2.2.1 z.2.2.2 aE) W0 as (hF z.1) D σ' H')
      rfl rfl Sg.nd he hle ⟨htop, hdtop, .inl (by show X.mg top = _; rw [g.mg]; exact hmtop)⟩ takesN0 (fun W2 pn xe tk hp => ?tr) (fun aE oe cls d pn hz hfo => ?su)), ?go⟩
    case tr =>
      have act := pe_actN (k := kk) (E := fun cls d H => W2 cls d (L2.start Ng [V.ref fl]) H) (p1 := p3) (p2 := p4) I1 L' hf hfn hfr (hbind _ _ _ _ _) tk hr' (fun A outer s H hr2 => hbody F (noT H1) (inoAt [] []) _ _ {
          prog := g.prog
          w := g.w
          K := g.K
          mg := g.mg
          base := g.base
          N := g.N
          nd := g.nd
          scp := rfl
          calm := fun _ => rfl
          room := ⟨hr2.dp, hr2.un⟩
          hd := fun _ => hr2.hd
          gd := fun h => by cases h
          st := fun y hy => by cases hy
          tk := L2N.takes_of rfl rfl rfl rfl }) hNg hva hda hca
      exact pss_one (ps_ret (pe_tup (pa_cons pe_int (pa_cons (pe_callG (gt pn xe W2 tk) rfl ((hread.mono hkr).to (Γ' := Γ.enter Ng (fun _ => False) (fun _ => none) (inoAt [] []) false) ⟨rfl, rfl, rfl, rfl, rfl, rfl, rfl⟩) (fun h => by cases h) hgr hmr hkpr hbr (pa_cons act pa_nil) hdr rfl rfl) pa_nil))))
    case su =>
      refine ⟨fun pins s σ H D I ⟨z, h1, h2, h3, q⟩ => ?_⟩
      obtain ⟨Dc, hDc, hE⟩ := hD _ _ h1
      rw [h2, hDc, h3] at hz
      refine (hsu z.1 z.2.1 h1 z.2.2.1 z.2.2.2 _ aE Dc hDc (gh aE _ _ _) ?_ (call_isE (by show ExcC X.K Dc; rw [g.K]; exact hE) hz.zc hfo)).run pins s σ H D I q
      obtain ⟨vs, hv⟩ := hfo
      exact ⟨(aE, oe), ⟨rfl, vs, hv, hz.2.2 vs hv⟩, List.mem_cons_self⟩
    case go =>
      refine ⟨fun cls d H' h => h, start_at (by rfl), hco, F, maskA ρ, G1, S1, ?_⟩
      simp only [eTold] at O
      cases hfr' : f (maskA ρ) with
      | stuck => rw [hfr'] at O; exact O.elim
      | ok q ρ1 =>
        rw [hfr'] at O
        simp only at O
        cases hrd : readD q.1 with
        | none => rw [hrd] at O; exact O.elim
        | some r =>
          rw [hrd] at O
          simp only at O
          intro F2 H2 k2 G2 S2 v rv
          obtain ⟨F3, k3, G3, S3, r3⟩ := rv.froze G2 S2
          have P3 : Past Γ F H1 [] [] F3 H2 := past_of (modes := []) (vs := []) (k2.trans k3) G3
          refine ⟨F3, [q.1], .ret r (isMut r) [.none], G3.tr, G3.tb, ⟨rfl, rfl, fun i d w h1 h2 h3 => ?_, fun i d w h1 => ?_, fun i j b h1 => ?_⟩, by simp only [readSem, hrd]; rfl, ?_⟩
          · cases i with
            | zero => simp at h2 h3; subst h2; subst h3; exact r3
            | succ i => simp at h2
          · cases i <;> simp at h1
          · cases i <;> simp at h1
          · intro F4 H4 u P4 gv _
            have P4' : Past Γ F3 H2 [] [] F4 H4 := ⟨P4.fk, P4.tr, P4.tb, P4.fn, fun a o h _ n => P4.kp a o h (fun ⟨i, z, _⟩ => by cases i <;> simp at z) n, P4.th⟩
            refine ⟨by show 2 ≤ sizeLine; decide, fun pp hpp => ?_⟩
            obtain ⟨F5, P5, r5⟩ : ∃ F5, Past Γ F H1 [] [] F5 H4 ∧ Γ.RV F5 H4 r u := by
              unfold GaveOk at gv
              split at gv
              · obtain ⟨b, rfl, nf, nn, t⟩ := gv
                have P := P3.trans P4'
                exact ⟨_, P.froze (fun z => nn (P3.th b z)) t.some, (t.mono (Fk.grow fun _ h => .inl h) rfl).rep (.inr rfl)⟩
              · exact ⟨F4, P3.trans P4', gv⟩
            have ex : Ext H4 (upd H4 pp (.tup [.int 0, u])) := Ext.upd hpp
            refine done _ F5 _ _ O (P5.ext ex) ?_
            simp only [RepV]
            refine ⟨pp, _, rfl, .of upd_same, by show 2 ≤ sizeLine; decide, RepL.cons (by simp only [RepV]) (RepL.cons (RepV.mono (Fk.ext P5.tr ex) _ _ r5) RepL.nil)⟩
      | exc cc =>
        rw [hfr'] at O
        simp only at O
        cases hw : wordOf cc with
        | none => rw [hw] at O; exact O.elim
        | some wd =>
          rw [hw] at O
          simp only at O
          intro F2 H2 k2 G2
          have P2 : Past Γ F H1 [] [] F2 H2 := past_of (modes := []) (vs := []) k2 G2
          refine ⟨true, by show PySem.W.exmOne X.K _ _ = _; rw [g.K]; exact hexm _ _ hw, fun _ aE hn => ⟨(cc, wd, F2, noT H2), hw, rfl, rfl, F2, (List.replicate Ng.length Slot.non).set 1 .exn, ?_, ?_, ?_⟩, fun z => by cases z⟩
          · have G0 : GInv (Γ.enter Ng F2 (noT H2) (inoAt [] []) false) F2 H2 := start_inv args_nil P2.tr P2.tb
            exact ⟨G0.tr, G0.fn, G0.f0, G0.kp, G0.th, G0.io, G0.ni, G0.tb⟩
          · have hl1 : 1 < Ng.length := (List.getElem?_eq_some_iff.mp he).1
            have slen : (L2.start Ng [V.ref fl]).length = Ng.length := by
              unfold L2.start
              simp only [List.length_append, List.length_map, List.length_replicate, List.length_cons, List.length_nil]
              omega
            have at_ : ∀ (i : Nat) s, ((List.replicate Ng.length Slot.non).set 1 .exn)[i]? = some s → (i = 1 ∧ s = .exn) ∨ s = .non := fun i s h => by
              by_cases hi : i = 1
              · subst hi
                rw [List.getElem?_set_self (by rw [List.length_replicate]; exact hl1)] at h
                cases h; exact .inl ⟨rfl, rfl⟩
              · rw [List.getElem?_set_ne (Ne.symm hi), List.getElem?_replicate] at h
                split at h
                · cases h; exact .inr rfl
                · cases h
            refine ⟨by rw [List.length_set, List.length_set, List.length_replicate, slen], fun i d h => ?_, fun i d h => ?_, fun i d h => ?_, fun i j b ⟨_, d, o⟩ _ => ?_, fun i h => ?_⟩
            · rcases at_ i _ h with ⟨_, e⟩ | e <;> cases e
            · rcases at_ i _ h with ⟨_, e⟩ | e <;> cases e
            · rcases at_ i _ h with ⟨_, e⟩ | e <;> cases e
            · rcases o with o | o
              · rcases at_ i _ o with ⟨_, e⟩ | e <;> cases e
              · rcases at_ i _ o with ⟨_, e⟩ | e <;> cases e
            · rcases at_ i _ h with ⟨e, _⟩ | e
              · subst e
                exact ⟨aE, rfl, List.getElem?_set_self (by rw [slen]; exact hl1)⟩
              · cases e
          · obtain ⟨ρ', hρ⟩ := hres cc wd hw
            rw [hρ]
            intro F3 H3 σ3 v k3 G3 S3 rv
            have P3 : Past Γ F2 H2 [] [] F3 H3 := ⟨k3, G3.tr, G3.tb, fun a f => (G3.fn a f).imp id noT_none.mp, fun a o h hn ht => G3.kp a o (noT_of h ht) (fun i e => by
                have e' : inoAt [] [] i = some a := e
                have z := (inoAt_some e').1
                simp at z) ht, fun a h => G3.th a fun z => noT_none.mp z h⟩
            refine done _ F3 H3 v O (P2.trans P3) ?_
            unfold ResOk at rv
            rw [if_neg (by simp)] at rv
            exact rv
  refine wpAny_call (codeAny_mono rc ?_)
  intro r s2 hq
  cases r with
  | error e =>
    obtain ⟨_, _, _, _, _, _, _, _, _, _, _, _, z⟩ := hq
    exact z.elim
  | ok fl =>
    cases fl with
    | ret u => exact I1.after hq
    | next => exact False.elim hq
    | brk => exact False.elim hq
    | cont => exact False.elim hq
end Ow

namespace Ow
open PySem PyProof.Rows PySem.Spec L2 LamX

/-- the fixed part of a law's walk -/
def Ctx.top (P : Program) (w : World) (K : PySem.W.Frag) (mg : Str → Option Value) (base : Heap) (T : List (Addr × Str)) (cls : Str → Value) : Ctx :=
  { prog := P, w := w, K := K, mg := mg, base := base, N := [], F0 := fun _ => False, H0 := fun _ => none, ino := fun _ => none, T := T, cls := cls, gb := true, hot := false, xa := none }
section
variable {P : Program} {w : World} {K : PySem.W.Frag} {mg mb : Str → Option Value} {s₁ : Shared} {a : Addr} {vs : List Value} {ns : List Int} {ts : List Addr}
/-- the script, the tables -/
def lawH (K : PySem.W.Frag) (a : Addr) (vs : List Value) (ns : List Int) (ts : List Addr) : Hp := fun b =>
  if b ∈ ts then some (.tbl #[]) else if b = a ∧ (K.lookup a).isNone = true then some (.frz { cls := .type "list", data := .seq vs.toArray } (.lst (ns.map V.int))) else none
theorem lawH_cases {b : Addr} {u : HO} (h : lawH K a vs ns ts b = some u) : (b ∈ ts ∧ u = .tbl #[]) ∨ (b ∉ ts ∧ b = a ∧ K.lookup a = none ∧ u = .frz { cls := .type "list", data := .seq vs.toArray } (.lst (ns.map V.int))) := by
  unfold lawH at h
  split at h
  · rename_i hb
    cases h; exact .inl ⟨hb, rfl⟩
  · rename_i hb
    split at h
    · rename_i hq
      cases h
      exact .inr ⟨hb, hq.1, Option.isNone_iff_eq_none.mp hq.2, rfl⟩
    · cases h
theorem lawH_tab {b : Addr} (h : b ∈ ts) : lawH K a vs ns ts b = some (.tbl #[]) := by unfold lawH; rw [if_pos h]
theorem law_G {k : Nat} {fa : Addr} {cs : List (Addr × Addr)} {fd : FuncData} {x : Str} {T : List (Addr × Str)} {cls : Str → Value} {sem : Fun} {fl : Bool} {outs : List D}
    (kin : K.In s₁.heap) (nsg : s₁.heap.Ns mainGlobals mg) (nsb : s₁.heap.Ns builtinsNs mb) (nsm : ∀ x : Str, x ≠ "__name__" → mb x = bootBuiltins x) (lim : s₁.heap.NoLimit) (hg : s₁.gens = #[])
    (tabE : ∀ p ∈ cs, s₁.heap.get? p.2 = some { cls := .none, data := .fields #[] }) (nT : ∀ p ∈ cs, K.lookup p.2 = none) (CH : ∀ p ∈ cs, PySem.W.CodeHd s₁.heap p.1 p.2) (tabsT : ∀ p ∈ T, p.1 ∈ cs.map (·.2))
    (main : ∃ (bm : Addr) (ob : Obj), mg "__builtins__" = some (.ref bm) ∧ bm ≠ builtinsNs ∧ s₁.heap.get? bm = some ob ∧ ob.cls = .type "module" ∧ ob.dict = some builtinsNs ∧ ob.data = .plain)
    (lista : s₁.heap.get? a = some { cls := .type "list", data := .seq vs.toArray }) (whole : IntsAre vs ns) (few : ns.length ≤ sizeLine) (room : Room k callerA)
    (F : ∀ base : Heap, K.In base → base.Ns mainGlobals mg → (∀ p ∈ cs, TabB base mg p.1 p.2) → FnG (Ctx.top P w K mg base T cls) true k fa fd [x] [false] sem) (hbind : ∀ (s : Shared) (u : Value), BindsTo s fd ⟨[u], []⟩ [(x, u)])
    (hsem : sem [.list (ns.map PyData.int)] = some (.ret (.bool true) fl outs)) :
    codeAny (model P w) callerA (.call (.ref fa) ⟨[.ref a], []⟩) (fun fin z => fin = .ok (.ret (.bool true)) ∧ OldK s₁.heap z.heap ∧ z.os = s₁.os ∧ AllBare z.gens) s₁ := by
  have rel := vals_ints whole
  have lenV := whole.length
  generalize hts : cs.map (·.2) = ts at tabsT
  have mem : ∀ p ∈ cs, p.2 ∈ ts := fun p hp => by rw [← hts]; exact List.mem_map.mpr ⟨p, hp, rfl⟩
  have isT : ∀ b ∈ ts, s₁.heap.get? b = some { cls := .none, data := .fields #[] } := fun b nsb => by
    rw [← hts] at nsb
    obtain ⟨p, hp, e⟩ := List.mem_map.mp nsb
    rw [← e]; exact tabE p hp
  have aT : a ∉ ts := fun z => by
    have q := isT a z
    rw [lista] at q
    cases q
  generalize hH : lawH K a vs ns ts = H
  have casesH : ∀ {b u}, H b = some u → _ := fun {b u} h => lawH_cases (by rw [hH]; exact h : lawH K a vs ns ts b = some u)
  have nonT : ∀ {b : Addr} {o : Obj}, s₁.heap.get? b = some o → (∀ vs n, o.data ≠ .seq vs n) → o.data ≠ .fields #[] → H b = none := fun {b o} e h1 h2 => by
    cases q : H b with
    | none => rfl
    | some u =>
      rcases casesH q with ⟨z, _⟩ | ⟨_, z, _⟩
      · rw [isT b z] at e; cases e; exact absurd rfl h2
      · rw [z, lista] at e; cases e; exact absurd rfl (h1 _ _)
  have inB : ∀ {b : Addr} {o : Obj}, s₁.heap.get? b = some o → (∀ vs n, o.data ≠ .seq vs n) → o.data ≠ .fields #[] → (hidT s₁.heap H).get? b = some o := fun {b o} e h1 h2 => hidT_get e (nonT e h1 h2)
  have nsB : ∀ {b : Addr} {m : Str → Option Value}, s₁.heap.Ns b m → (hidT s₁.heap H).Ns b m := fun {b m} ⟨o, es, ep, e, d, r⟩ => ⟨o, es, ep, inB e (fun vs n z => by rw [d] at z; cases z) (fun z => by rw [d] at z; cases z), d, r⟩
  have KB : K.In (hidT s₁.heap H) := fun b o e => hidT_get (kin b o e) (by
    cases q : H b with
    | none => rfl
    | some u =>
      rcases casesH q with ⟨z, _⟩ | ⟨_, z, n, _⟩
      · rw [← hts] at z
        obtain ⟨p, hp, ep⟩ := List.mem_map.mp z
        rw [← ep, nT p hp] at e; cases e
      · rw [z, n] at e; cases e)
  have tabs0 : ∀ p ∈ cs, TabB (hidT s₁.heap H) mg p.1 p.2 := fun p hp => by
    refine ⟨?_, ?_, fun z => ?_⟩
    · obtain ⟨o, u5, file, tf, flags, tg, inn, text, t4, e1, r1, r2, r3, r4, r5, r6, r7, r8, hne⟩ := CH p hp
      refine ⟨o, u5, file, tf, flags, tg, inn, text, t4, inB e1 (fun vs n z => ?_) (fun z => ?_), r1, r2, r3, r4, r5, r6, r7, r8, hne⟩
      · rw [r2] at z; cases z
      · rw [r2] at z
        cases z
        simp at r3
    · obtain ⟨bm, ob, b1, b2, b3, b4, b5, b6⟩ := main
      refine ⟨bm, ob, b1, b2, fun q => ?_, fun q => ?_, inB b3 (fun vs n z => ?_) (fun z => ?_), b4, b5, b6⟩
      · obtain ⟨o, es, ep, e, hd, _⟩ := nsg
        rw [q, e] at b3
        cases b3
        rw [hd] at b6; cases b6
      · rw [q, tabE p hp] at b3
        cases b3
        cases b6
      · rw [b6] at z; cases z
      · rw [b6] at z; cases z
    · obtain ⟨o, es, ep, e, hd, _⟩ := nsg
      rw [z, tabE p hp] at e
      cases e
      cases hd
  have hok : HOk P w H s₁.heap := fun b u q => by
    rcases casesH q with ⟨z, e⟩ | ⟨_, z, n, e⟩
    · subst e; exact isT b z
    · subst e; subst z
      exact ⟨lista, by rw [List.length_map]; exact few, vs, _, rel, lista⟩
  have e0 : Env0 P w K mg (hidT s₁.heap H) callerA [] s₁ H := ⟨rfl, ⟨KB, nsB nsg, ⟨mb, nsB nsb, nsm⟩, let ⟨mc, h1, h2⟩ := lim; ⟨mc, nsB h1, h2⟩⟩, fun b o e => of_hidT e, Nat.le_of_eq (hidT_size _ _), trivial, fun b nsb => absurd (show b ∈ ([] : List Addr) from nsb) (by simp), hok, .of_eq hg⟩
  have tabs : Tabs T H := fun p hp => TabS.nil (by rw [← hH]; exact lawH_tab (tabsT p hp))
  have lst : LstR K (fun _ => False) H a (ns.map V.int) := by
    cases hk : K.lookup a with
    | some o =>
      have e := kin a o hk
      rw [lista] at e
      cases e
      exact .inr (.inr ⟨_, vs.toArray, _, hk, rfl, rfl, rfl, by rw [List.size_toArray, lenV]; exact few, by simpa using rel⟩)
    | none =>
      refine .inr (.inl ⟨{ cls := .type "list", data := .seq vs.toArray }, ?_⟩)
      rw [← hH]
      unfold lawH
      rw [if_neg aT, if_pos ⟨rfl, by rw [hk]; rfl⟩]
  have repI : ∀ l : List Int, RepL P w K (fun _ => False) H (l.map PyData.int) (l.map V.int) := fun l => by
    induction l with
    | nil => exact RepL.nil
    | cons i l ih => exact RepL.cons (by simp only [RepV]) ih
  have sp : SpG (Ctx.top P w K mg (hidT s₁.heap H) T cls) [false] sem [.ref a] H (fun v _ => v = .bl true) (fun _ _ _ => False) := by
    refine ⟨fun _ => False, [.list (ns.map PyData.int)], _, fun _ h => h.elim, tabs, ⟨rfl, rfl, fun i d v h1 h2 h3 => ?_, fun i d v h1 => ?_, fun i j b h1 => ?_⟩, hsem, ?_⟩
    · cases i with
      | zero =>
        simp at h2 h3
        subst h2; subst h3
        simp only [RepV]
        exact ⟨a, _, rfl, lst, by rw [List.length_map]; exact few, repI ns⟩
      | succ i => simp at h2
    · cases i <;> simp at h1
    · cases i <;> simp at h1
    · intro F' H' v _ gv _
      unfold GaveOk at gv
      rw [if_neg (by simp [isMut])] at gv
      simpa only [RepV] using gv
  refine codeAny_mono ((F _ KB (nsB nsg) tabs0).run callerA [] s₁ H ⟨[.ref a], []⟩ [.ref a] [.ref a] _ _ room (fun _ => rfl) e0 (hbind s₁ (.ref a)) (.cons rfl .nil) sp) fun r s' h => ?_
  cases r with
  | error e =>
    rcases h with ⟨_, _, _, _, _, _, _, _, _, _, _, _, z⟩
    exact z.elim
  | ok f =>
    cases f with
    | next => exact False.elim h
    | brk => exact False.elim h
    | cont => exact False.elim h
    | ret u =>
      obtain ⟨v, H', oss, bar, grew, kept, rr, q⟩ := h
      have q' : v = .bl true := q
      subst q'
      have eu : u = Value.bool true := rr
      subst eu
      have grown : ∀ b ∈ ts, ∃ more : Array Value, s'.heap.get? b = some { cls := .none, data := .fields more } := fun b nsb => by
        obtain ⟨more, z⟩ := grew.tbls b #[] (by rw [← hH]; exact lawH_tab nsb)
        exact ⟨_, kept b _ z⟩
      have old : ∀ b o, b ∉ ts → s₁.heap.get? b = some o → s'.heap.get? b = some o := fun b o nb e => by
        cases q : H b with
        | none => exact grew.keep b o e q (fun z => absurd (show b ∈ ([] : List Addr) from z) List.not_mem_nil) (by simp)
        | some u =>
          rcases casesH q with ⟨z, _⟩ | ⟨_, z, n, eu⟩
          · exact absurd z nb
          · subst eu
            obtain ⟨e2, _⟩ := kept b _ (grew.frzs b _ _ q)
            rw [z, lista] at e
            cases e
            exact e2
      refine ⟨rfl, ⟨fun b o e => ?_, fun b o e => ?_⟩, oss, bar⟩
      · by_cases nsb : b ∈ ts
        · obtain ⟨more, more_⟩ := grown b nsb
          have hb2 := nsb
          rw [← hts] at hb2
          obtain ⟨p, hp, ep⟩ := List.mem_map.mp hb2
          subst ep
          rw [tabE p hp] at e
          cases e
          exact .inr (.inl ⟨((CH p hp).tab (tabE p hp)).isCodeTable, rfl, #[], more, rfl, by rw [Array.empty_append]; exact more_⟩)
        · exact .inl (old b o nsb e)
      · by_cases nsb : b ∈ ts
        · obtain ⟨more, more_⟩ := grown b nsb
          exact ⟨_, more_⟩
        · exact ⟨o, old b o nsb e⟩
end
/-- what a law's walk is to give -/
def LawG (l : PySem.W.OpenLaw) (w : World) (K : PySem.W.Frag) (k n : Nat) (x : Str) (mg : Str → Option Value) (fa : Addr) (h : Heap) : Prop :=
  ∃ (fd : FuncData) (cs : List (Addr × Addr)) (T : List (Addr × Str)) (cls : Str → Value) (sem : Fun), (∀ p ∈ cs, h.get? p.2 = some { cls := .none, data := .fields #[] }) ∧ (∀ p ∈ cs, K.lookup p.2 = none) ∧ (∀ p ∈ cs, PySem.W.CodeHd h p.1 p.2) ∧ (∀ p ∈ T, p.1 ∈ cs.map (·.2)) ∧ (∀ (s : Shared) (u : Value), BindsTo s fd ⟨[u], []⟩ [(x, u)]) ∧
    (∀ ns : List Int, ns.length ≤ n → (∀ z ∈ ns, Builtin.Int.intBits z ≤ 1048576) → ∃ fl outs, sem [.list (ns.map PyData.int)] = some (.ret (.bool true) fl outs)) ∧
    ∀ base : Heap, K.In base → base.Ns mainGlobals mg → (∀ p ∈ cs, TabB base mg p.1 p.2) → FnG (Ctx.top l.prog w K mg base T cls) true k fa fd [x] [false] sem
theorem walk_G {l : PySem.W.OpenLaw} {n k : Nat} {q : Program} {loose : List Str} {XP : (Str → Option Value) → Heap → Prop} {YP : World → Heap → Prop} {d : DefRec} {x : Str} (hn : l.most = some n) (hn2 : n ≤ sizeLine) (hdf : d.params.defaults = []) (hr : Room k callerA)
    (F : ∀ (w : World) (mg : Str → Option Value) (fa : Addr) (h : Heap), YP w h → h.Ns mainGlobals mg → mg d.name = some (.ref fa) → ∃ K : PySem.W.Frag, K.In h ∧ LawG l w K k n x mg fa h) : PySem.W.WalkO q loose XP YP l.row.toRowW d [] (fun f vs => PySem.call f vs) := by
  refine Att.attach_callB hn hdf ?_
  intro w s₀ s₁ mg mb fa o pm cd doc a vs ns G Y ho hd hcd hmg hobj hints hlen hbits hg
  obtain ⟨K, KX, fd, cs, T, cls, sem, hT, nT, C, hTT, hb, hs, hF⟩ := F w mg fa _ Y G.T.g hmg
  obtain ⟨fl, outs, hsem⟩ := hs ns hlen hbits
  exact law_G KX G.T.g G.T.b G.T.builtins G.T.nolimit hg hT nT C hTT G.T.bmain hobj hints (Nat.le_trans hlen hn2) hr hF hb hsem
end Ow

namespace Ow
open PySem PyProof.Rows PySem.Spec L2 LamX

/-- a def of the text, by its name -/
structure FnAt (Γ : Ctx) (gb : Bool) (k : Nat) (x : Str) (ps : List Str) (modes : List Bool) (sem : Fun) : Prop where
  ex : ∃ (fa : Addr) (fd : FuncData), FnG Γ gb k fa fd ps modes sem ∧ Γ.mg x = some (.ref fa) ∧ PySem.W.keepIn Γ.K (.ref fa) = true ∧ Binds Γ.K fd ps []
theorem FnAt.to {Γ Γ' : Ctx} {gb : Bool} {k : Nat} {x : Str} {ps : List Str} {modes : List Bool} {sem : Fun} (h : FnAt Γ gb k x ps modes sem) (l : Like Γ Γ') : FnAt Γ' gb k x ps modes sem := by
  obtain ⟨fa, fd, a, b, c, d⟩ := h.ex
  exact ⟨fa, fd, a.to l, by rw [l.mg]; exact b, by rw [l.K]; exact c, by rw [l.K]; exact d⟩
theorem FnAt.mono {Γ : Ctx} {gb : Bool} {j k : Nat} {x : Str} {ps : List Str} {modes : List Bool} {sem : Fun} (h : FnAt Γ gb j x ps modes sem) (hk : j ≤ k) : FnAt Γ gb k x ps modes sem := by
  obtain ⟨fa, fd, a, b⟩ := h.ex
  exact ⟨fa, fd, a.mono hk, b⟩
theorem FnAt.imp {Γ : Ctx} {gb : Bool} {k : Nat} {x : Str} {ps : List Str} {modes : List Bool} {sem sem' : Fun} (h : FnAt Γ gb k x ps modes sem) (hs : ∀ ds r, sem' ds = some r → sem ds = some r) : FnAt Γ gb k x ps modes sem' := by
  obtain ⟨fa, fd, a, b⟩ := h.ex
  exact ⟨fa, fd, a.imp hs, b⟩
/-- a class of errors, by its name -/
structure ErrAt (Γ : Ctx) (x : Str) : Prop where
  ex : ∃ C : Addr, Γ.cls x = .ref C ∧ Γ.mg x = some (.ref C) ∧ PySem.W.excIn Γ.K C He.veBase "ValueError.__new__" = true ∧ PySem.W.keepIn Γ.K (.ref C) = true ∧ PySem.W.subIn Γ.K (.ref C) (.type "BaseException") = some true ∧ PySem.W.typeIn Γ.K (.ref C) = some (.type "type")
theorem ErrAt.to {Γ Γ' : Ctx} {x : Str} (h : ErrAt Γ x) (l : Like Γ Γ') : ErrAt Γ' x := by
  obtain ⟨C, h1, h2, h3, h4, h5, h6⟩ := h.ex
  exact ⟨C, by rw [l.cls]; exact h1, by rw [l.mg]; exact h2, by rw [l.K]; exact h3, by rw [l.K]; exact h4, by rw [l.K]; exact h5, by rw [l.K]; exact h6⟩
section
variable {Γ : Ctx} {X : Cx} {sc : Scope} {st : Str → Bool} {k : Nat} {W : WX} {as : List Nat}
theorem de_callA {gb : Bool} {pn : List Str} {modes : List Bool} {sem : Fun} {x : Str} {p pos : Pos} {e : Expr} {es : List Expr} {as : List EvA} (g : GdT Γ X sc st k W) (hh : Γ.hot = false) (Fn : FnAt Γ gb k x pn modes sem) (hgb : gb = true → Γ.gb = true) (hg : sc.names.lookup x = some .globalImplicit)
    (hmo : as.map EvA.mode = modes) (ha : PA X (e :: es) (tAs Γ W as)) (hdb : (x == ("__debug__" : Str)) = false) (he : starEach (e :: es) X.env = (false, eval e X.env) :: starEach es X.env) (hpl : (backTo pos (starEach es X.env)).any (·.1) = false) :
    PE X (.Call (.Name x p) (e :: es) [] pos) (tD Γ W (eCall sem as)) := by
  obtain ⟨fa, fd, a, b, c, d⟩ := Fn.ex
  exact de_call g hh a hgb hg b c d hmo ha hdb he hpl
theorem de_blt {id : String} {x : Str} {op : List D → Option (D × Bool)} {e : Expr} {es : List Expr} {p pos : Pos} {fs : List EvO} (g : Gd Γ X sc st k) (hc : CallR X (.builtin id) (rOfN Γ op)) (hg : sc.names.lookup x = some .globalImplicit) (hm : Γ.mg x = none) (hv : bootBuiltins x = some (.builtin id)) (ha : PA X (e :: es) (tOs Γ W fs))
    (hn : x ≠ "__name__") (hdb : (x == ("__debug__" : Str)) = false) (he : starEach (e :: es) X.env = (false, eval e X.env) :: starEach es X.env) (hpl : (backTo pos (starEach es X.env)).any (·.1) = false) : PE X (.Call (.Name x p) (e :: es) [] pos) (tD Γ W (eOps op fs)) :=
  pe_imp (pe_callB hc (by show X.env.scope.names.lookup x = _; rw [g.scp]; exact hg) (by rw [g.mg]; exact hm) hv ha hn hdb he hpl) (de_ops opN_of)
theorem de_bty {T : String} {x : Str} {op : List D → Option (D × Bool)} {e : Expr} {es : List Expr} {p pos : Pos} {fs : List EvO} (g : Gd Γ X sc st k) (hc : CallR X (.type T) (rOfN Γ op)) (hg : sc.names.lookup x = some .globalImplicit) (hm : Γ.mg x = none) (hv : bootBuiltins x = some (.type T)) (ha : PA X (e :: es) (tOs Γ W fs))
    (hn : x ≠ "__name__") (hdb : (x == ("__debug__" : Str)) = false) (he : starEach (e :: es) X.env = (false, eval e X.env) :: starEach es X.env) (hpl : (backTo pos (starEach es X.env)).any (·.1) = false) : PE X (.Call (.Name x p) (e :: es) [] pos) (tD Γ W (eOps op fs)) :=
  pe_imp (pe_callTy hc (by show X.env.scope.names.lookup x = _; rw [g.scp]; exact hg) (by rw [g.mg]; exact hm) hv ha hn hdb he hpl) (de_ops opN_of)
/-- a global whole number -/
theorem de_gint {x : Str} {i : Int} {pos : Pos} (g : Gd Γ X sc st k) (hg : sc.names.lookup x = some .globalImplicit) (hm : ∃ t, Γ.mg x = some (.int i t)) (hd : (x == ("__debug__" : Str)) = false) : PE X (.Name x pos) (tD Γ W (eCon (.int i))) := by
  obtain ⟨t, h⟩ := hm
  exact de_glob (u := .int i) g hg h ⟨t, rfl⟩ (fun F H => by simp only [RepV]) hd
theorem ds_raiseA {x m : Str} {j : Nat} {p p2 pos rpos : Pos} (g : GdS Γ X sc st k W) (hh : Γ.hot = false) (Er : ErrAt Γ x) (hg : sc.names.lookup x = some .globalImplicit) (hdb : (x == ("__debug__" : Str)) = false) : PS X (.Raise (some (.Call (.Name x p) [.Constant (.str m) j p2] [] pos)) none rpos) (tS Γ W as (sRaise x)) := by
  obtain ⟨C, h1, h2, h3, h4, h5, h6⟩ := Er.ex
  refine ds_raise g hh (L2N.pmk_own PySem.F.excBase_ValueError (by rw [g.K]; exact h3) (by rw [g.mg]; exact h2) (by rw [g.K]; exact h4) (raises_own (by rw [g.K]; exact h5) (by rw [g.K]; exact h6)) (by show X.env.scope.names.lookup x = _; rw [g.scp]; exact hg) hdb) fun σ H Q q => ?_
  rw [h1] at q
  exact q
theorem dw_and1 {a : Expr} {pos : Pos} {f : EvT} (h : PT X a (tT Γ W f)) : PW X (.BoolOp .And [a] pos) (tT Γ W f) := pw_and1 h
theorem dw_or1 {a : Expr} {pos : Pos} {f : EvT} (h : PT X a (tT Γ W f)) : PW X (.BoolOp .Or [a] pos) (tT Γ W f) := pw_or1 h
theorem de_and1 {a : Expr} {pos : Pos} {f : EvE} (h : PE X a (tD Γ W f)) (he : eval (.BoolOp .And [a] pos) X.env = eval a X.env) : PE X (.BoolOp .And [a] pos) (tD Γ W f) := ⟨fun pins s σ H Q I q => by rw [he]; exact h.run pins s σ H Q I q⟩
theorem de_or1 {a : Expr} {pos : Pos} {f : EvE} (h : PE X a (tD Γ W f)) (he : eval (.BoolOp .Or [a] pos) X.env = eval a X.env) : PE X (.BoolOp .Or [a] pos) (tD Γ W f) := ⟨fun pins s σ H Q I q => by rw [he]; exact h.run pins s σ H Q I q⟩
/-- the test of no clause, of one -/
theorem dts_nil : PTs X [] (tT Γ W tTrue) := ⟨fun pins s σ H Q I ⟨F, ρ, G, S, O⟩ => pts_nil.run pins s σ H Q I (O F H Fk.refl G S)⟩
/-- the def, once and for all -/
theorem fnAt_of {Γ : Ctx} {x : Str} {stm : Stmt} {fa : Addr} {fd : FuncData} {N ps : List Str} {k n : Nat} {gb : Bool} {modes : List Bool} {f : StF} {as : List Nat} (Fd : FunD Γ.K x x (defArgs stm) (defBody stm) (defScope stm) [] [] fa fd) (S : FnScope N ps (defScope stm)) (hm : Γ.mg x = some (.ref fa)) (hb : Binds Γ.K fd ps []) (hn : N.length = n)
    (hmo : modes.length = ps.length)
    (hbody : ∀ (F0 : Addr → Prop) (H0 : Hp) (ino : Nat → Option Addr) (X : Cx) (W : WX), GdS (Γ.enter N F0 H0 ino gb) X (defScope stm) (stD (defScope stm)) k W → X.env.qual = x ++ ".<locals>." → X.env.code = fd.code → PSs X (defBody stm) (tS (Γ.enter N F0 H0 ino gb) W as f)) : FnAt Γ gb (k + 1) x ps modes (runF f n modes) := by
  subst hn
  exact ⟨fa, fd, FnG.of Fd S hmo hbody, hm, Fd.kp, hb⟩
end
end Ow

namespace Ow
open PySem PyProof.Rows PySem.Spec L2
/-! ### a tuple, backwards -/
section
variable {prog : Program} {w : World} {A : Around} {E : Value → Shared → Prop} {s : Shared}
theorem back_places (n : Nat) : Builtin.Slice.slicePlaces ((n : Int) - 1) (-1) (-1) = n := by
  simp only [Builtin.Slice.slicePlaces]
  rw [if_neg (by decide)]
  split
  · rw [show (-(-1) : Int) = 1 by decide, Int.ediv_one]; omega
  · omega
theorem fm_congr {α β : Type} {f g : α → Option β} : ∀ {l : List α}, (∀ a ∈ l, f a = g a) → l.filterMap f = l.filterMap g
  | [], _ => rfl
  | a :: l, h => by
    rw [List.filterMap_cons, List.filterMap_cons, h a (by simp), fm_congr fun b hb => h b (List.mem_cons_of_mem _ hb)]
theorem back_pick (xs : Array Value) : ((List.range xs.size).filterMap fun (k : Nat) => xs[((xs.size : Int) - 1 + (k : Int) * (-1)).toNat]?) = xs.toList.reverse := by
  have e : ∀ k ∈ List.range xs.size, xs[((xs.size : Int) - 1 + (k : Int) * (-1)).toNat]? = xs[xs.size - 1 - k]? := fun k hk => by
    have := List.mem_range.mp hk
    congr 1
    omega
  have e2 : ((List.range xs.size).filterMap fun (k : Nat) => xs[((xs.size : Int) - 1 + (k : Int) * (-1)).toNat]?) = ((List.range xs.size).map fun k => xs.size - 1 - k).filterMap fun i => xs[i]? := by
    rw [List.filterMap_map]
    exact fm_congr e
  rw [e2, PySem.W.krv_range, List.filterMap_reverse, PySem.W.krv_all]
theorem back_applied {sl : Addr} {u : Tok} {n : Nat} (ss : s.heap.IsSliceOf sl .none .none (.int (-1) u)) {R : Int × Int × Nat → Shared → Prop} (hR : R ((n : Int) - 1, -1, n) s) : wpAny (model prog w) A (Builtin.Slice.sliceApplied (.ref sl) (pure (n : Int))) R E s := by
  obtain ⟨o, g, gc, gd⟩ := ss
  unfold Builtin.Slice.sliceApplied; unfold Builtin.Slice.sliceFields
  refine wpAny_bind (wpAny_bind (wpAny_field g gd (x := .none) rfl (wpAny_bind (wpAny_field g gd (x := .none) rfl (wpAny_bind (wpAny_field g gd (x := .int (-1) u) rfl (wpAny_pure ?_)))))))
  refine wpAny_bind (slicePart_int ?_)
  show wpAny _ _ (if ((-1 : Int) == 0) = true then _ else _) _ _ s
  rw [if_neg (by decide)]
  refine wpAny_bind (slicePart_none (wpAny_bind (slicePart_none (wpAny_bind (wpAny_pure ?_)))))
  show wpAny _ _ (pure ((n : Int) - 1, (-1 : Int), Builtin.Slice.slicePlaces ((n : Int) - 1) (-1) (-1))) _ _ s
  rw [back_places]
  exact wpAny_pure hR
theorem back_item {t sl : Addr} {xs : Array Value} {d : Value} {Q : Value → Shared → Prop} (tt : IsTup s.heap t xs) (ss : s.heap.IsSliceOf sl .none .none d) (pd : IsPart d (some (-1))) (hz : xs.size ≤ sizeLine)
    (h : Q (.ref s.heap.objs.size) { s with heap := s.heap.push { cls := .type "tuple", data := .seq xs.toList.reverse.toArray } }) : wpAny (model prog w) A (getItem (.ref t) (.ref sl)) Q E s := by
  obtain ⟨o, g, gc, gd⟩ := id ss
  have k : s.TypeIs (.ref sl) "slice" := ⟨o, g, gc⟩
  have fit : sizeOk (.seq xs.toList.reverse.toArray) := by
    show xs.toList.reverse.toArray.size ≤ sizeLine
    simpa using hz
  cases pd with
  | int i u =>
    unfold getItem
    try with_reducible refine wpAny_holding ?_
    first | refine wpAny_bind (wpAny_pure ?_) | skip
    refine wpAny_bind (wpAny_sequenceKey tt.typeIs (by decide) (wpAny_bind (wpAny_callSpecial?_slot (name := Str.ofString "__getitem__") tt.typeIs slot_tuple_getitem (wpAny_call_entry slot_tuple_getitem tt.typeIs PyProof.Rows.entry_tuple_getitem ?_ (PyProof.Rows.args_tuple_getitem _ _)))))
    show wpAny _ _ (Builtin.Tuple.tupleItemsOf (.ref t) >>= _) _ _ s
    refine wpAny_bind (tupleItemsOf_ tt (wpAny_bind (wpAny_typeOf k ?_)))
    rw [if_pos (by decide)]
    refine wpAny_bind (back_applied ss ?_)
    show wpAny _ _ (if ((((xs.size : Int) - 1) == 0 && (-1 : Int) == 1 && xs.size == xs.size) = true) then _ else _) _ _ s
    rw [if_neg (by simp), back_pick]
    first
      | exact wpAny_bind (m := Builtin.Tuple.tupleExact _) (wpAny_newObj_type (wpAny_pure ⟨_, rfl, wpAny_pure h⟩) fit)
      | exact wpAny_bind (m := Builtin.Tuple.tupleExact _) (wpAny_newObj_type (wpAny_bind (wpAny_pure (wpAny_pure ⟨_, rfl, wpAny_pure h⟩))) fit)
      | exact wpAny_bind (wpAny_bind (m := Builtin.Tuple.tupleExact _) (wpAny_newObj_type (wpAny_pure (wpAny_pure ⟨_, rfl, wpAny_pure h⟩)) fit))
      | exact wpAny_bind (wpAny_bind (m := Builtin.Tuple.tupleExact _) (wpAny_newObj_type (wpAny_pure ⟨_, rfl, wpAny_pure h⟩) fit))
end
section
variable {X : Cx}
def tRevT (K : PySem.W.Frag) (te : TE) : TE := fun σ H Q => te σ H fun x H1 => ∃ b xs, x = .ref b ∧ SqT K H1 b xs ∧ ∀ p, H1 p = none → Q (.ref p) (upd H1 p (.tup xs.reverse))
theorem pe_revT {c : Expr} {te : TE} {m : Nat} {q1 q2 q3 q4 : Pos} (hc : PE X c te) : PE X (.Subscript c (.Slice none none (some (.UnaryOp .USub (.Constant (.int 1) m q1) q2)) q3) q4) (tRevT X.K te) := ⟨fun pins s σ H Q I h => by
  refine Subscript_ (thn (hc.run pins s σ H _ I h) fun v sa ⟨x, Ha, Ia, ra, b, xs, ex, hx, q⟩ => ?_)
  subst ex
  cases ra
  have minus : PO X (some (.UnaryOp .USub (.Constant (.int 1) m q1) q2)) (tPart (tUn (rU fun i => .int (-i)) (tC (.int 1)))) := po_some (pe_un un_neg pe_int)
  refine wpAny_Slice (thn (po_none.run pins sa σ Ha (fun o Hb => o = none ∧ Hb = Ha) Ia ⟨rfl, rfl⟩) fun vl sb ⟨l, Hb, Ib, pl, el, eb⟩ => thn (po_none.run pins sb σ Hb (fun o Hc => o = none ∧ Hc = Hb) Ib ⟨rfl, rfl⟩) fun vu sc ⟨u, Hc, Ic, pu, eu, ec⟩ =>
    thn (minus.run pins sc σ Hc (fun o Hd => o = some (-1) ∧ Hd = Hc) Ic ⟨1, rfl, -1, rfl, rfl, rfl⟩) fun vd sd ⟨o, Hd, Id, pd, eo, ed⟩ => ?_)
  subst el eb eu ec eo ed
  cases pl
  cases pu
  have Ie : Inv X pins σ Hd { sd with heap := sd.heap.push { cls := .type "slice", data := .fields #[.none, .none, vd] } } := Id.kept (t' := sd.toks) fun _ _ z => Heap.get?_push_of_some _ z
  obtain ⟨its, r, tt, hz⟩ := Ie.tuple hx
  show wpAny (model X.prog X.w) X.A (subscriptTail c (.Slice none none (some (.UnaryOp .USub (.Constant (.int 1) m q1) q2)) q3) (.ref b) (.ref sd.heap.objs.size)) (EP X pins σ Q) X.xe { sd with heap := sd.heap.push { cls := .type "slice", data := .fields #[.none, .none, vd] } }
  refine tail_any (ops := [.ref b, .ref sd.heap.objs.size]) tt.typeIs slot_tuple_getitem.lookup ?_ (by with_unfolding_all rfl)
  refine back_item tt (Heap.IsSliceOf.new _ .none .none vd) pd (by rw [List.size_toArray, ← r.length]; exact hz) ⟨.ref _, _, Ie.laid (t' := sd.toks) (o := .tup xs.reverse) (fun _ _ z => Heap.get?_push_of_some _ z) (Nat.le_refl _) ?_, rfl, q _ (Ie.hok.fresh (Nat.le_refl _))⟩
  exact ⟨by rw [List.length_reverse]; exact hz, _, r.reverse, IsTup.new _ _⟩⟩
end
end Ow

namespace Ow
open PySem PyProof.Rows PySem.Spec L2 LamX

/-! ### slices -/
def cutD {α : Type} (xs : List α) (lo hi : Option Int) : List α := (xs.drop (HT.sIx xs.length 0 lo)).take (HT.sIx xs.length xs.length hi - HT.sIx xs.length 0 lo)
def evPart : Option EvO → AE → Res (Option Int)
  | none, ρ => .ok none ρ
  | some f, ρ => (f ρ).bind fun q ρ' => match q.1 with
    | .int i => .ok (some i) ρ'
    | _ => .stuck
def eSlice (f : EvO) (lo hi : Option EvO) : EvE := fun ρ => (f ρ).bind fun p ρ1 => (evPart lo ρ1).bind fun l ρ2 => (evPart hi ρ2).bind fun h ρ3 => if still p.2 p.1 ρ3 then (match p.1 with
  | .list ds => .ok (.list (cutD ds l h), true) ρ3
  | .tuple ds => .ok (.tuple (cutD ds l h), false) ρ3
  | _ => .stuck) else .stuck
def dRev : D → Option (D × Bool)
  | .list ds => some (.list ds.reverse, true)
  | .tuple ds => some (.tuple ds.reverse, false)
  | _ => none
def strsOf : List D → Option (List Str)
  | [] => some []
  | .str x :: ds => (strsOf ds).map (x :: ·)
  | _ :: _ => none
def dJoin (a : Str) (d : D) : Option (D × Bool) := match d with
  | .list ds => (strsOf ds).bind fun ys => if (ys.map (·.length)).sum + ys.length * a.length ≤ 16777216 then some (.str (Txt.join a ys), false) else none
  | .tuple ds => (strsOf ds).bind fun ys => if (ys.map (·.length)).sum + ys.length * a.length ≤ 16777216 then some (.str (Txt.join a ys), false) else none
  | _ => none
@[irreducible] def rgOk (a b : Int) : Bool := decide (-(2 ^ 62) ≤ a) && decide (a < 2 ^ 62) && decide (-(2 ^ 62) ≤ b) && decide (b < 2 ^ 62) && decide ((b - a).toNat ≤ 2 ^ 24)
def rgD (a b : Int) : List D := (List.range (b - a).toNat).map fun i => .int (a + (i : Nat))
def eRg (mk : List D → D) (fl : Bool) (f f2 : EvO) : EvE := fun ρ => (f ρ).bind fun p ρ1 => (f2 ρ1).bind fun q ρ2 => match p.1, q.1 with
  | .int a, .int b => if rgOk a b then .ok (mk (rgD a b), fl) ρ2 else .stuck
  | _, _ => .stuck
def eRg1 (mk : List D → D) (fl : Bool) (f : EvO) : EvE := fun ρ => (f ρ).bind fun q ρ2 => match q.1 with
  | .int b => if rgOk 0 b then .ok (mk (rgD 0 b), fl) ρ2 else .stuck
  | _ => .stuck
section
variable {Γ : Ctx} {X : Cx} {sc : Scope} {st : Str → Bool} {k : Nat} {W : WX} {F F' : Addr → Prop} {H H' : Hp} {σ : L2.St} {ρ : AE} {e : Expr} {pos : Pos}
theorem RepL.reverse {P : Program} {w : World} {K : PySem.W.Frag} : ∀ {ds : List D} {vs : List V}, RepL P w K F H ds vs → RepL P w K F H ds.reverse vs.reverse
  | [], vs, h => by simp only [RepL] at h; subst h; exact RepL.nil
  | d :: ds, vs, h => by
    simp only [RepL] at h
    obtain ⟨v, vs', e, r1, r⟩ := h
    subst e
    rw [List.reverse_cons, List.reverse_cons]
    exact RepL.append (RepL.reverse r) (RepL.cons r1 RepL.nil)
theorem RepL.cut {ds : List D} {vs : List V} {lo hi : Option Int} (h : Γ.RL F H ds vs) : Γ.RL F H (cutD ds lo hi) (cutV vs lo hi) := by
  unfold cutD cutV
  rw [h.length]
  exact RepL.take _ (RepL.drop _ h)
def tPs (Γ : Ctx) (W : WX) (f : Option EvO) : TO := fun σ H Q => ∃ F ρ, GInv Γ F H ∧ RepS Γ F H σ ρ ∧ Out Γ W (evPart f ρ) F H σ fun o ρ' F' H' => Q o H'
theorem dp_none : PO X none (tPs Γ W none) := ⟨fun pins s σ H Q I ⟨F, ρ, G, S, O⟩ => po_none.run pins s σ H Q I (O F H Fk.refl G S)⟩
theorem dp_some {f : EvO} (h : PE X e (tO Γ W f)) : PO X (some e) (tPs Γ W (some f)) := ⟨fun pins s σ H Q I ⟨F, ρ, G, S, O⟩ => (po_some h).run pins s σ H Q I (by
  refine ⟨F, ρ, G, S, (Out.bind O).imp fun p ρ1 F1 H1 k1 G1 S1 O1 v rv sv => ?_⟩
  have rd := S1.read rv sv
  split at O1
  · rename_i i hi
    rw [hi] at rd
    exact ⟨i, rInt rd, O1 F1 H1 Fk.refl G1 S1⟩
  · exact O1.elim)⟩
theorem de_slice {f : EvO} {lo hi : Option Expr} {flo fhi : Option EvO} {p2 : Pos} (g : Gd Γ X sc st k) (he : PE X e (tO Γ W f)) (hl : PO X lo (tPs Γ W flo)) (hu : PO X hi (tPs Γ W fhi)) : PE X (.Subscript e (.Slice lo hi none p2) pos) (tD Γ W (eSlice f flo fhi)) := by
  refine pe_imp (pe_slice (SlR.or sl_list sl_tupA) he hl hu) fun σ H Q ⟨F, ρ, G, S, O⟩ => ?_
  refine ⟨F, ρ, G, S, (Out.bind O).imp fun p ρ1 F1 H1 k1 G1 S1 O1 x hx sx => ?_⟩
  refine ⟨F1, ρ1, G1, S1, (Out.bind O1).imp fun l ρ2 F2 H2 k2 G2 S2 O2 => ?_⟩
  refine ⟨F2, ρ2, G2, S2, (Out.bind O2).imp fun h ρ3 F3 H3 k3 G3 S3 O3 => ?_⟩
  by_cases hs : still p.2 p.1 ρ3 = true
  · rw [if_pos hs] at O3
    have rd := S3.read ((hx.mono k2).mono k3) hs
    split at O3
    · rename_i ds hp
      rw [hp] at rd
      obtain ⟨a, xs, rfl, l1, z, r⟩ := rList rd
      refine .inl ⟨a, xs, rfl, by rw [g.K]; exact l1, fun p hpn => ?_⟩
      obtain ⟨q1, q2, q3, q4⟩ := (Alc.newList G3.tr hpn (Nat.le_trans (cutV_length xs l h) z) r.cut).res G3 S3
      exact O3 F3 _ q1 q2 q3 _ q4
    · rename_i ds hp
      rw [hp] at rd
      obtain ⟨a, xs, rfl, l1, z, r⟩ := rTup rd
      refine .inr ⟨a, xs, rfl, by rw [g.K]; exact l1, fun hw => ?_, fun _ p hpn => ?_⟩
      · have ec : cutV xs l h = xs := by
          unfold cutV
          rw [hw.1, hw.2, List.drop_zero, Nat.sub_zero, List.take_length]
        refine O3 F3 H3 Fk.refl G3 S3 _ (resOk_plain ?_)
        have rc := r.cut (lo := l) (hi := h)
        rw [ec] at rc
        simp only [RepV]
        exact ⟨a, xs, rfl, l1, z, rc⟩
      · obtain ⟨q1, q2, q3, q4⟩ := (Alc.newTup (b := false) G3.tr hpn (Nat.le_trans (cutV_length xs l h) z) r.cut).res G3 S3
        exact O3 F3 _ q1 q2 q3 _ q4
    · exact O3.elim
  · rw [if_neg hs] at O3
    exact O3.elim
theorem Out.imp' {α : Type} {r : Res α} {k k' : α → AE → (Addr → Prop) → Hp → Prop} (h : Out Γ W r F H σ k) (i : ∀ a ρ' F' H', r = .ok a ρ' → Fk F H F' H' → GInv Γ F' H' → RepS Γ F' H' σ ρ' → k a ρ' F' H' → k' a ρ' F' H') : Out Γ W r F H σ k' := by
  cases r with
  | ok a ρ' => exact fun F' H' q1 q2 q3 => i a ρ' F' H' rfl q1 q2 q3 (h F' H' q1 q2 q3)
  | _ => exact h
theorem de_rev {f : EvO} {kk : Nat} {p1 p2 p3 : Pos} (g : Gd Γ X sc st k) (he : PE X e (tO Γ W f)) : PE X (.Subscript e (.Slice none none (some (.UnaryOp .USub (.Constant (.int 1) kk p1) p2)) p3) pos) (tD Γ W (eUn dRev f)) := by
  refine ⟨fun pins s σ H Q I ⟨F, ρ, G, S, O⟩ => ?_⟩
  have tup : (∃ ds b ρ1, f ρ = .ok (.tuple ds, b) ρ1) ∨ ¬ ∃ ds b ρ1, f ρ = .ok (.tuple ds, b) ρ1 := Classical.em _
  rcases tup with ⟨ds0, b0, ρ0, e0⟩ | no
  · refine (pe_revT he).run pins s σ H Q I ⟨F, ρ, G, S, (Out.bind O).imp' fun p ρ1 F1 H1 ep k1 G1 S1 O1 x hx sx => ?_⟩
    have rd := S1.read hx sx
    rw [e0] at ep
    cases ep
    obtain ⟨a, xs, rfl, l1, z, r⟩ := rTup rd
    refine ⟨a, xs, rfl, by rw [g.K]; exact l1, fun p hpn => ?_⟩
    obtain ⟨q1, q2, q3, q4⟩ := (Alc.newTup (b := false) G1.tr hpn (by rw [List.length_reverse]; exact z) (RepL.reverse r)).res G1 S1
    exact O1 F1 _ q1 q2 q3 _ q4
  · refine (pe_revL he).run pins s σ H Q I ⟨F, ρ, G, S, (Out.bind O).imp' fun p ρ1 F1 H1 ep k1 G1 S1 O1 x hx sx => ?_⟩
    have rd := S1.read hx sx
    obtain ⟨d, b⟩ := p
    cases d with
    | list ds =>
      obtain ⟨a, xs, rfl, l1, z, r⟩ := rList rd
      refine ⟨a, xs, rfl, by rw [g.K]; exact l1, fun p hpn => ?_⟩
      obtain ⟨q1, q2, q3, q4⟩ := (Alc.newList G1.tr hpn (by rw [List.length_reverse]; exact z) (RepL.reverse r)).res G1 S1
      exact O1 F1 _ q1 q2 q3 _ q4
    | tuple ds => exact absurd ⟨ds, b, ρ1, ep⟩ no
    | _ => exact O1.elim
/-! ### texts joined -/
theorem strs_rep {P : Program} {w : World} {K : PySem.W.Frag} : ∀ {ds : List D} {vs : List V} {ys : List Str}, RepL P w K F H ds vs → strsOf ds = some ys → vs = ys.map V.str
  | [], vs, ys, h, e => by simp only [RepL] at h; simp only [strsOf] at e; cases e; subst h; rfl
  | d :: ds, vs, ys, h, e => by
    simp only [RepL] at h
    obtain ⟨v, vs', ev, r1, r⟩ := h
    subst ev
    cases d with
    | str x =>
      simp only [strsOf] at e
      obtain ⟨zs, ez, rfl⟩ := Option.map_eq_some_iff.mp e
      simp only [RepV] at r1
      rw [r1, strs_rep r ez]; rfl
    | _ => simp [strsOf] at e
theorem de_join {e : Expr} {h : EvO} {a : Str} {j : Nat} {ap p1 : Pos} (g : Gd Γ X sc st k) (he : PE X e (tO Γ W h)) (hs : starEach [e] X.env = [(false, eval e X.env)]) (hbase : attributeBase (.Constant (.str a) j p1) "join" X.env (eval (.Constant (.str a) j p1) X.env) = eval (.Constant (.str a) j p1) X.env) (hline : (ap.endLine == pos.line) = true) :
    PE X (.Call (.Attribute (.Constant (.str a) j p1) "join" ap) [e] [] pos) (tD Γ W (eUn (dJoin a) h)) := by
  refine pe_imp (pe_join (pe_str (x := a)) he hs hbase hline) fun σ H Q ⟨F, ρ, G, S, O⟩ => ⟨⟨a, rfl⟩, F, ρ, G, S, (Out.bind O).imp fun p ρ1 F1 H1 k1 G1 S1 O1 x hx sx => ?_⟩
  have rd := S1.read hx sx
  obtain ⟨d, b⟩ := p
  cases d with
  | list ds =>
    obtain ⟨q, xs, rfl, l1, z, r⟩ := rList rd
    simp only [dJoin] at O1
    cases hy : strsOf ds with
    | none => rw [hy] at O1; exact O1.elim
    | some ys =>
      rw [hy] at O1
      simp only [Option.bind_some] at O1
      by_cases hz : (ys.map (·.length)).sum + ys.length * a.length ≤ 16777216
      · rw [if_pos hz] at O1
        exact ⟨a, q, ys, rfl, rfl, .inl (by rw [g.K, ← strs_rep r hy]; exact l1), hz, O1 F1 H1 Fk.refl G1 S1 _ (resOk_plain (by simp only [RepV]))⟩
      · rw [if_neg hz] at O1; exact O1.elim
  | tuple ds =>
    obtain ⟨q, xs, rfl, l1, z, r⟩ := rTup rd
    simp only [dJoin] at O1
    cases hy : strsOf ds with
    | none => rw [hy] at O1; exact O1.elim
    | some ys =>
      rw [hy] at O1
      simp only [Option.bind_some] at O1
      by_cases hz : (ys.map (·.length)).sum + ys.length * a.length ≤ 16777216
      · rw [if_pos hz] at O1
        exact ⟨a, q, ys, rfl, rfl, .inr (by rw [g.K, ← strs_rep r hy]; exact l1), hz, O1 F1 H1 Fk.refl G1 S1 _ (resOk_plain (by simp only [RepV]))⟩
      · rw [if_neg hz] at O1; exact O1.elim
  | _ => exact O1.elim
/-! ### list(range(..)), tuple(range(..)) -/
theorem rgD_rep {a b : Int} : Γ.RL F H (rgD a b) (rgV a b) := by
  unfold rgD rgV
  generalize List.range (b - a).toNat = l
  induction l with
  | nil => exact RepL.nil
  | cons i l ih => exact RepL.cons (by simp only [RepV]) ih
theorem rgOk_iff {a b : Int} (h : rgOk a b = true) : RgOk a b ∧ (rgV a b).length ≤ sizeLine := by
  unfold rgOk at h
  simp only [Bool.and_eq_true, decide_eq_true_eq] at h
  obtain ⟨⟨⟨⟨h1, h2⟩, h3⟩, h4⟩, h5⟩ := h
  refine ⟨⟨h1, h2, h3, h4, h5⟩, ?_⟩
  rw [rgV_length, sizeLine_eq]
  omega
theorem de_lstRg1 {e : Expr} {f : EvO} {p p2 pos2 : Pos} (g : Gd Γ X sc st k) (hh : Γ.hot = false) (hg : sc.names.lookup ("list" : Str) = some .globalImplicit) (hm : Γ.mg ("list" : Str) = none) (hg2 : sc.names.lookup ("range" : Str) = some .globalImplicit) (hm2 : Γ.mg ("range" : Str) = none) (he : PE X e (tO Γ W f))
    (na : starEach [e] X.env = (false, eval e X.env) :: starEach [] X.env) (nb : starEach [.Call (.Name "range" p2) [e] [] pos2] X.env = (false, eval (.Call (.Name "range" p2) [e] [] pos2) X.env) :: starEach [] X.env) : PE X (.Call (.Name "list" p) [.Call (.Name "range" p2) [e] [] pos2] [] pos) (tD Γ W (eRg1 .list true f)) := by
  have G1 : ∀ {x : Str}, sc.names.lookup x = some .globalImplicit → Gl X x := fun {x} h => by show X.env.scope.names.lookup x = _; rw [g.scp]; exact h
  refine pe_imp (pe_listRg (g.calm hh) (G1 hg) (by rw [g.mg]; exact hm) (prg_1 (G1 hg2) (by rw [g.mg]; exact hm2) he na) nb) fun σ H Q ⟨F, ρ, G, S, O⟩ => ⟨F, ρ, G, S, (Out.bind O).imp fun q ρ1 F1 H1 k1 G1 S1 O1 x hx sx => ?_⟩
  have rd := S1.read hx sx
  split at O1
  · rename_i b hb
    rw [hb] at rd
    split at O1
    · rename_i hk
      obtain ⟨r1, r2⟩ := rgOk_iff hk
      refine ⟨b, rInt rd, r1, fun p hp => ?_⟩
      obtain ⟨q1, q2, q3, q4⟩ := (Alc.newList G1.tr hp r2 rgD_rep).res G1 S1
      exact O1 F1 _ q1 q2 q3 _ q4
    · exact O1.elim
  · exact O1.elim
theorem de_tupRg1 {e : Expr} {f : EvO} {p p2 pos2 : Pos} (g : Gd Γ X sc st k) (hh : Γ.hot = false) (hg : sc.names.lookup ("tuple" : Str) = some .globalImplicit) (hm : Γ.mg ("tuple" : Str) = none) (hg2 : sc.names.lookup ("range" : Str) = some .globalImplicit) (hm2 : Γ.mg ("range" : Str) = none) (he : PE X e (tO Γ W f))
    (na : starEach [e] X.env = (false, eval e X.env) :: starEach [] X.env) (nb : starEach [.Call (.Name "range" p2) [e] [] pos2] X.env = (false, eval (.Call (.Name "range" p2) [e] [] pos2) X.env) :: starEach [] X.env) : PE X (.Call (.Name "tuple" p) [.Call (.Name "range" p2) [e] [] pos2] [] pos) (tD Γ W (eRg1 .tuple false f)) := by
  have G1 : ∀ {x : Str}, sc.names.lookup x = some .globalImplicit → Gl X x := fun {x} h => by show X.env.scope.names.lookup x = _; rw [g.scp]; exact h
  refine pe_imp (pe_tupRg (g.calm hh) (G1 hg) (by rw [g.mg]; exact hm) (prg_1 (G1 hg2) (by rw [g.mg]; exact hm2) he na) nb) fun σ H Q ⟨F, ρ, G, S, O⟩ => ⟨F, ρ, G, S, (Out.bind O).imp fun q ρ1 F1 H1 k1 G1 S1 O1 x hx sx => ?_⟩
  have rd := S1.read hx sx
  split at O1
  · rename_i b hb
    rw [hb] at rd
    split at O1
    · rename_i hk
      obtain ⟨r1, r2⟩ := rgOk_iff hk
      refine ⟨b, rInt rd, r1, fun p hp => ?_⟩
      obtain ⟨q1, q2, q3, q4⟩ := (Alc.newTup (b := false) G1.tr hp r2 rgD_rep).res G1 S1
      exact O1 F1 _ q1 q2 q3 _ q4
    · exact O1.elim
  · exact O1.elim
theorem de_lstRg2 {e e2 : Expr} {f f2 : EvO} {p p2 pos2 : Pos} (g : Gd Γ X sc st k) (hh : Γ.hot = false) (hg : sc.names.lookup ("list" : Str) = some .globalImplicit) (hm : Γ.mg ("list" : Str) = none) (hg2 : sc.names.lookup ("range" : Str) = some .globalImplicit) (hm2 : Γ.mg ("range" : Str) = none) (he : PE X e (tO Γ W f)) (he2 : PE X e2 (tO Γ W f2))
    (na : starEach [e, e2] X.env = (false, eval e X.env) :: starEach [e2] X.env) (na2 : starEach [e2] X.env = (false, eval e2 X.env) :: starEach [] X.env) (np : (backTo pos2 (starEach [e2] X.env)).any (·.1) = false) (nb : starEach [.Call (.Name "range" p2) [e, e2] [] pos2] X.env = (false, eval (.Call (.Name "range" p2) [e, e2] [] pos2) X.env) :: starEach [] X.env) : PE X (.Call (.Name "list" p) [.Call (.Name "range" p2) [e, e2] [] pos2] [] pos) (tD Γ W (eRg .list true f f2)) := by
  have G1 : ∀ {x : Str}, sc.names.lookup x = some .globalImplicit → Gl X x := fun {x} h => by show X.env.scope.names.lookup x = _; rw [g.scp]; exact h
  refine pe_imp (pe_listRg (g.calm hh) (G1 hg) (by rw [g.mg]; exact hm) (prg_2 (G1 hg2) (by rw [g.mg]; exact hm2) he he2 na na2 np) nb) fun σ H Q ⟨F, ρ, G, S, O⟩ => ⟨F, ρ, G, S, (Out.bind O).imp fun q ρ1 F1 H1 k1 G1 S1 O1 x hx sx => ⟨F1, ρ1, G1, S1, (Out.bind O1).imp fun q2 ρ2 F2 H2 k2 G2 S2 O2 y hy sy => ?_⟩⟩
  have ry := S2.read hy sy
  split at O2
  · rename_i a b ha hb
    have rx : x = .int a := by
      obtain ⟨d, bb⟩ := q
      dsimp only at ha
      subst ha
      cases bb with
      | none => exact rInt (RepR.of (show Γ.RV F1 H1 (.int a) x from hx))
      | some i => exact rInt (S1.read hx sx)
    rw [hb] at ry
    split at O2
    · rename_i hk
      obtain ⟨r1, r2⟩ := rgOk_iff hk
      refine ⟨a, b, rx, rInt ry, r1, fun p hp => ?_⟩
      obtain ⟨q1, q2, q3, q4⟩ := (Alc.newList G2.tr hp r2 rgD_rep).res G2 S2
      exact O2 F2 _ q1 q2 q3 _ q4
    · exact O2.elim
  · exact O2.elim
end
end Ow

namespace Ow
open PySem PyProof.Rows PySem.Spec L2 LamX

/-- x, y = [..], e: the list is x's own -/
def sParO (i j : Nat) (f g : EvE) : StF := fun ρ => (f ρ).sb fun p ρ1 => match p with
  | (.list ds, true) => (g ρ1).sb fun q ρ2 => if isNoIno ρ2[i]? && isNoIno ρ2[j]? then .nx ((ρ2.set i (.own (.list ds))).set j (.val q.1)) else .stuck
  | _ => .stuck
section
variable {Γ : Ctx} {X : Cx} {sc : Scope} {st : Str → Bool} {k : Nat} {W : WX} {as : List Nat} {pos : Pos}
theorem ds_parO {i j : Nat} {x y : Str} {a b : Expr} {px py pt : Pos} {kt k2 pt2} {f f2 : EvE} (g : Gd Γ X sc st k) (hh : Γ.hot = false) (hi : Γ.N[i]? = some x) (hj : Γ.N[j]? = some y) (hij : i ≠ j) (hx : sc.names.lookup x = some .local) (hy : sc.names.lookup y = some .local) (hia : as.contains i = true) (hja : as.contains j = true)
    (ha : PE X a (tD Γ W f)) (hb : ∀ p o, Gd (Γ.apart p o) X sc st k → PE X b (tD (Γ.apart p o) W f2)) (hs1 : starEach [a, b] X.env = [(false, eval a X.env), (false, eval b X.env)]) (hs2 : starEach [b] X.env = [(false, eval b X.env)])
    (hw : swappedStores [.Tuple [.Name x px, .Name y py] kt pt] (.Tuple [a, b] k2 pt2) X.env = pure (some [x, y])) (hs : swapsWithSole [.Tuple [.Name x px, .Name y py] kt pt] (.Tuple [a, b] k2 pt2) pos.line X.env = pure false) :
    PS X (.Assign [.Tuple [.Name x px, .Name y py] kt pt] (.Tuple [a, b] k2 pt2) pos) (tS Γ W as (sParO i j f f2)) := by
  refine ps_imp (ps_par (i := i) (j := j) (g.calm hh) (by rw [g.N]; exact g.nd) (by rw [g.N]; exact hi) (by rw [g.N]; exact hj) hij (by rw [g.scp]; exact hx) (by rw [g.scp]; exact hy) (pa_cons ha (pa_cons (pe_ex fun (z : Addr × HO) => hb z.1 z.2 (gd_apart g z.1 z.2)) pa_nil hs2) (by rw [hs1, hs2])) hw hs) fun E σ H ⟨F, ρ, G, S, O⟩ => ?_
  refine ⟨F, ρ, G, S, (OutS.sb O).imp fun p ρ1 F1 H1 k1 G1 S1 O1 v r => ?_⟩
  obtain ⟨d, fl⟩ := p
  cases d with
  | list ds =>
    cases fl with
    | false => exact O1.elim
    | true =>
      unfold ResOk at r
      rw [if_pos (by rfl)] at r
      obtain ⟨c, rfl, nf, h0, no, xs, hc, hz, rl⟩ := r
      have hnt : ∀ ps, (HO.lst xs) ≠ .tbl ps := fun ps e => HO.noConfusion e
      have nf0 : ¬ Γ.F0 c := fun f => nf (G1.f0 c f)
      have hic : ∀ i, Γ.ino i ≠ some c := fun i e => G1.io i c e h0
      refine ⟨(c, .lst xs), F1, ρ1, G1.into hc h0 nf hnt, S1.into no, ?_⟩
      have O1 : OutS Γ W as ((f2 ρ1).sb fun q ρ2 => if isNoIno ρ2[i]? && isNoIno ρ2[j]? then .nx ((ρ2.set i (.own (.list ds))).set j (.val q.1)) else .stuck) F1 H1 σ E := O1
      cases hf : f2 ρ1 with
      | stuck => rw [hf] at O1; exact O1.elim
      | exc e =>
        rw [hf] at O1
        intro F2 H2 k2 G2
        exact O1 F2 H2 σ k2 (G2.outof h0 nf0 hic hnt).1
      | ok q ρ2 =>
        rw [hf] at O1
        intro F2 H2 k2 G2 S2 u ru
        obtain ⟨F3, k3, G3, S3, r3⟩ := ru.froze G2 S2
        obtain ⟨G4, nf4, hc4⟩ := G3.outof h0 nf0 hic hnt
        obtain ⟨S4, no4⟩ := S3.outof hic
        refine ⟨_, _, rfl, ?_⟩
        have O1 : OutS Γ W as (if isNoIno ρ2[i]? && isNoIno ρ2[j]? then .nx ((ρ2.set i (.own (.list ds))).set j (.val q.1)) else .stuck) F1 H1 σ E := O1
        by_cases hn : (isNoIno ρ2[i]? && isNoIno ρ2[j]?) = true
        · rw [if_pos hn] at O1
          simp only [Bool.and_eq_true] at hn
          have rp : ResOk Γ F3 H2 σ ρ2 (.list ds, true) (.ref c) := by
            unfold ResOk
            rw [if_pos (by rfl)]
            exact ⟨c, rfl, nf4, h0, no4, xs, hc4, hz, RepL.mono (k2.trans k3) _ _ rl⟩
          have T1 := S4.storeRes hn.1 rp
          have hn2 : isNoIno (ρ2.set i (slotOf (.list ds, true)))[j]? = true := by rw [get_set_ne (Ne.symm hij)]; exact hn.2
          have T2 := T1.storeRes (p := (q.1, false)) hn2 (resOk_plain r3)
          refine O1 F3 H2 _ (k2.trans k3) G4 T2 fun l hl => ?_
          rw [List.getElem?_set_ne (fun e => hl (by rw [← e]; simpa using hja)), List.getElem?_set_ne (fun e => hl (by rw [← e]; simpa using hia))]
        · rw [if_neg hn] at O1
          exact O1.elim
  | _ => exact O1.elim
theorem sp_two {x y : Str} {a b : Expr} {px py pt : Pos} {kt k2 : Nat} {pt2 : Pos} (g : Gd Γ X sc st k) (hk : sc.kind = .function) (hx : sc.names.lookup x = some .local) (hy : sc.names.lookup y = some .local) (hne : (x == y) = false) (hl : (py.line == px.line) = true) (h1 : ([a, b].any fun | .Starred .. => true | _ => false) = false)
    (h2 : ([a, b].all (foldedForSure 8)) = false) (h3 : ([a, b].all (constantsAlone 8)) = false) : swappedStores [.Tuple [.Name x px, .Name y py] kt pt] (.Tuple [a, b] k2 pt2) X.env = pure (some [x, y]) := by
  have hb : X.env.blockKind = .function := by unfold Env.blockKind; rw [g.scp, hk]; rfl
  have kx : X.env.kindOf x = some .local := by show X.env.scope.names.lookup x = _; rw [g.scp]; exact hx
  have ky : X.env.kindOf y = some .local := by show X.env.scope.names.lookup y = _; rw [g.scp]; exact hy
  have hl' : py.line = px.line := by simpa using hl
  have hne' : x ≠ y := fun e => by rw [e] at hne; simp at hne
  unfold swappedStores
  simp only [hb, h1, h2, h3]
  have he : List.eraseDups [x, y] = [x, y] := by
    have hyx : (y == x) = false := beq_eq_false_iff_ne.mpr (Ne.symm hne')
    simp [List.eraseDups, List.eraseDupsBy, List.eraseDupsBy.loop, hyx]
  simp [kx, ky, Expr.pos, hl', List.filterMap, he]
  intro h
  simp only [List.any_cons, List.any_nil, Bool.or_false, Bool.or_eq_false_iff] at h1
  rcases h with h | h
  · exact absurd (h.symm.trans h1.1) (by decide)
  · exact absurd (h.symm.trans h1.2) (by decide)
theorem sp_sub2 {o i o2 i2 : Expr} {p1 p2 pt pt2 : Pos} {kt k2 : Nat} {a b : Expr} {env : Env} : swappedStores [.Tuple [.Subscript o i p1, .Subscript o2 i2 p2] kt pt] (.Tuple [a, b] k2 pt2) env = pure none := by
  unfold swappedStores
  by_cases hb : (env.blockKind != .function) = true
  · simp [hb]
  · simp [hb]
end
end Ow

namespace Ow
open PySem PyProof.Rows PySem.Spec L2 LamX

/-! ### the order of the data: the same list, whatever stood first -/
def dedupe : List D → List D
  | [] => []
  | x :: xs => if x ∈ dedupe xs then dedupe xs else x :: dedupe xs
theorem dedupe_mem {x : D} : ∀ {l : List D}, x ∈ dedupe l ↔ x ∈ l
  | [] => by simp [dedupe]
  | y :: l => by
    simp only [dedupe]
    split
    · rename_i h
      rw [dedupe_mem (l := l), List.mem_cons]
      constructor
      · exact .inr
      · rintro (e | e)
        · subst e; exact dedupe_mem.mp h
        · exact e
    · rw [List.mem_cons, List.mem_cons, dedupe_mem (l := l)]
theorem dedupe_nodup : ∀ l : List D, (dedupe l).Nodup
  | [] => by simp [dedupe]
  | y :: l => by
    simp only [dedupe]
    split
    · exact dedupe_nodup l
    · rename_i h
      exact List.nodup_cons.mpr ⟨h, dedupe_nodup l⟩
theorem sortD_pw (l : List D) : (sortD l).Pairwise fun a b => PySem.W.dataLe false id a b = true := by
  unfold sortD
  have T := PySem.W.sortLe_total (PyProof.Rows.listOrd PyProof.Rows.itemOrd) false (fun d : D => PySem.W.keyToks (id d))
  exact List.pairwise_mergeSort (fun a b c h1 h2 => T.trans a b c h1 h2) (fun a b => by rw [Bool.or_eq_true]; exact T.total a b) l
/-- two of these of one rank are one -/
def Anti (l : List D) : Prop := ∀ a ∈ l, ∀ b ∈ l, PySem.W.dataLe false id a b = true → PySem.W.dataLe false id b a = true → a = b
theorem sortD_of {l m : List D} (ha : Anti l) (p : m.Perm l) (s : m.Pairwise fun a b => PySem.W.dataLe false id a b = true) : m = sortD l := by
  have pl : (sortD l).Perm l := by unfold sortD; exact List.mergeSort_perm _ _
  exact List.Perm.eq_of_pairwise (fun a b h1 h2 => ha a (p.mem_iff.mp h1) b (pl.mem_iff.mp h2)) s (sortD_pw l) (p.trans pl.symm)
theorem le_toks {a b : D} (h1 : PySem.W.dataLe false id a b = true) (h2 : PySem.W.dataLe false id b a = true) : PySem.W.keyToks a = PySem.W.keyToks b := by
  have e1 : (PyProof.Rows.listOrd PyProof.Rows.itemOrd).blt (PySem.W.keyToks b) (PySem.W.keyToks a) = false := by simpa [PySem.W.dataLe, PySem.W.sortLe] using h1
  have e2 : (PyProof.Rows.listOrd PyProof.Rows.itemOrd).blt (PySem.W.keyToks a) (PySem.W.keyToks b) = false := by simpa [PySem.W.dataLe, PySem.W.sortLe] using h2
  exact (PyProof.Rows.listOrd PyProof.Rows.itemOrd).total _ _ e2 e1
theorem toks_ints : ∀ {k l : List Int}, PySem.W.keyToksAll (k.map PyData.int) = PySem.W.keyToksAll (l.map PyData.int) → k = l
  | [], [], _ => rfl
  | [], i :: l, h => by simp [PySem.W.keyToksAll] at h
  | i :: k, [], h => by simp [PySem.W.keyToksAll] at h
  | i :: k, j :: l, h => by
    simp only [List.map_cons, PySem.W.keyToksAll, PySem.W.keyToks, List.cons_append, List.nil_append, List.cons.injEq, Sum.inl.injEq, true_and] at h
    rw [h.1, toks_ints h.2]
def encT (k : List Int) : D := .tuple (k.map PyData.int)
theorem encT_inj {k l : List Int} (h : encT k = encT l) : k = l := by
  unfold encT at h
  have e : k.map PyData.int = l.map PyData.int := PyData.tuple.inj h
  exact toks_ints (by rw [e])
theorem anti_tups (ks : List (List Int)) : Anti (ks.map encT) := fun a ha b hb h1 h2 => by
  obtain ⟨k, _, rfl⟩ := List.mem_map.mp ha
  obtain ⟨l, _, rfl⟩ := List.mem_map.mp hb
  have e := le_toks h1 h2
  unfold encT at e ⊢
  simp only [PySem.W.keyToks] at e
  rw [toks_ints e]
theorem anti_ints (ns : List Int) : Anti (ns.map PyData.int) := fun a ha b hb h1 h2 => by
  obtain ⟨k, _, rfl⟩ := List.mem_map.mp ha
  obtain ⟨l, _, rfl⟩ := List.mem_map.mp hb
  have e := le_toks h1 h2
  simp only [PySem.W.keyToks, List.cons.injEq, Sum.inl.injEq, and_true] at e
  rw [e]
/-! ### sorted(set(..)) -/
def itsOf : List D → Option (List (List Int))
  | [] => some []
  | .tuple xs :: ds => (intsOf xs).bind fun k => (itsOf ds).map (k :: ·)
  | _ :: _ => none
theorem itsOf_eq : ∀ {ds : List D} {ks : List (List Int)}, itsOf ds = some ks → ds = ks.map encT
  | [], ks, h => by simp only [itsOf] at h; cases h; rfl
  | d :: ds, ks, h => by
    cases d with
    | tuple xs =>
      simp only [itsOf] at h
      obtain ⟨k, hk, h⟩ := Option.bind_eq_some_iff.mp h
      obtain ⟨ls, hl, rfl⟩ := Option.map_eq_some_iff.mp h
      rw [List.map_cons, ← itsOf_eq hl, intsOf_eq hk]; rfl
    | _ => simp [itsOf] at h
def dSortSet : D → Option (D × Bool)
  | .list ds => match itsOf ds with
    | some ks => if ds.length < 64 ∧ ks.all (fun k => !k.isEmpty) = true then some (.list (sortD (dedupe ds)), true) else none
    | none => none
  | .tuple ds => match intsOf ds with
    | some ns => if ds.length < 64 then some (.list (sortD (dedupe ds)), true) else none
    | none => match itsOf ds with
      | some ks => if ds.length < 64 ∧ ks.all (fun k => !k.isEmpty) = true then some (.list (sortD (dedupe ds)), true) else none
      | none => none
  | _ => none
section
variable {α β : Type} {f : α → β}
theorem perm_map {vs us : List β} (p : vs.Perm us) : ∀ L : List α, us = L.map f → ∃ L1 : List α, L1.Perm L ∧ vs = L1.map f := by
  induction p with
  | nil => intro L h; exact ⟨L, .refl _, h⟩
  | cons x p ih =>
    intro L h
    cases L with
    | nil => cases h
    | cons y L =>
      obtain ⟨e1, e2⟩ := List.cons.inj h
      obtain ⟨L1, q1, q2⟩ := ih L e2
      exact ⟨y :: L1, q1.cons y, by rw [List.map_cons, q2, e1]⟩
  | swap x y l =>
    intro L h
    cases L with
    | nil => cases h
    | cons a L =>
      cases L with
      | nil => cases h
      | cons b L =>
        obtain ⟨e1, e2⟩ := List.cons.inj h
        obtain ⟨e3, e4⟩ := List.cons.inj e2
        exact ⟨b :: a :: L, .swap a b L, by rw [List.map_cons, List.map_cons, e1, e3, e4]⟩
  | trans p q ih1 ih2 =>
    intro L h
    obtain ⟨L1, a1, a2⟩ := ih2 L h
    obtain ⟨L2, b1, b2⟩ := ih1 L1 a2
    exact ⟨L2, b1.trans a1, b2⟩
end
theorem nodup_inj {α β : Type} {f : α → β} (inj : ∀ a b, f a = f b → a = b) {l : List α} (h : l.Nodup) : (l.map f).Nodup := List.pairwise_map.mpr (List.Pairwise.imp (fun ne e => ne (inj _ _ e)) h)
theorem each_ref : ∀ L : List (Addr × List Int), PySem.W.EachIs (fun v (p : Addr × List Int) => v = Value.ref p.1) (L.map fun p => Value.ref p.1) L
  | [] => .nil
  | _ :: L => .cons rfl (each_ref L)
theorem each_ref_of : ∀ {out : List Value} {L : List (Addr × List Int)}, PySem.W.EachIs (fun v (p : Addr × List Int) => v = Value.ref p.1) out L → out = L.map fun p => Value.ref p.1
  | _, _, .nil => rfl
  | _, _, .cons h t => by rw [h, each_ref_of t]; rfl
theorem reads_isT {P : Program} {w : World} {h : Heap} {k : List Int} {b : Addr} (x : L2.IsT P w h k b) : Reads h (.ref b) (encT k) [] := by
  obtain ⟨o, items, n, h1, h2, h3, it⟩ := x
  refine .tuple h1 h2 h3 ?_
  have i := L2.ints_of_items it
  have go : ∀ {vs : List Value} {k : List Int}, IntsAre vs k → ReadsAll h vs (k.map PyData.int) [] := fun {vs k} i => by
    induction i with
    | nil => exact .nil
    | cons n t _ ih => exact .cons (.int _ _) ih
  exact go i
theorem alike_tups (ks : List (List Int)) : PySem.W.AllAlike (ks.map encT) := fun a ha b hb => by
  obtain ⟨k, _, rfl⟩ := List.mem_map.mp ha
  obtain ⟨l, _, rfl⟩ := List.mem_map.mp hb
  have key : ∀ k l : List Int, PySem.W.alikeAll (k.map PyData.int) (l.map PyData.int) = true := by
    intro k
    induction k with
    | nil => intro l; cases l <;> rfl
    | cons i k ih =>
      intro l
      cases l with
      | nil => rfl
      | cons j l =>
        show (PySem.W.alike (.int i) (.int j) && PySem.W.alikeAll (k.map PyData.int) (l.map PyData.int)) = true
        rw [ih l]; rfl
  exact key k l
section
variable {P : Program} {w : World} {A : Around} {E : Value → Shared → Prop} {s : Shared}
/-- sorted of a set of tuples of ints -/
theorem sorted_tups {a : Addr} {L : List (Addr × List Int)} {es : Array (Int × Value)} {ep : Nat} {t : SetTable} {Q : Value → Shared → Prop} (R : SetTR P w s.heap a L es ep t) (calm0 : A.handled = none) (hne : ∀ p ∈ L, p.2 ≠ []) (hu : A.units + 8 < cLine)
    (hQ : ∀ s' p (c : Nat) (L' : List (Addr × List Int)), (∀ b so, s.heap.get? b = some so → s'.heap.get? b = some so) → s'.gens = s.gens → s'.os = s.os → s.heap.objs.size ≤ p →
      s'.heap.get? p = some (seqObj "list" (L'.map fun qq => Value.ref qq.1).toArray c) → L'.Perm L → L'.Pairwise (fun qq r => PySem.W.dataLe false id (encT qq.2) (encT r.2) = true) → Q (.ref p) s') :
    wpAny (model P w) A (call (.builtin ("sorted")) [.ref a]) Q E s := by
  obtain ⟨so, sg, sx, sd⟩ := R.ob
  have sz := R.size
  have few := R.few
  refine Calls.call_function_entry kind_sorted plain_sorted entry_sorted (args_sorted1 _) ?_
  unfold Builtin.«sorted»
  refine wpAny_bind (m := checkCount "sorted" 1 1 _) (wpAny_pure ?_)
  refine wpAny_bind (collect_set (A := A.in1) calm0 ⟨so, sg, sx.1, sd⟩ R.fits (by unfold scanBound; omega) R.tab.ris R.led fun s1 vs k1 hz g1 o1 pm => ?_)
  have rowsE : es.toList.map (·.2) = L.map fun qq => Value.ref qq.1 := by
    rw [R.rows]
    unfold rowsOf
    rw [List.map_map] <;> rfl
  obtain ⟨L1, p1, rfl⟩ := perm_map pm L rowsE
  have hvl : L1.length < 64 := by rw [p1.length_eq]; exact few
  refine wpAny_bind (wpAny_newList ?_ (by rw [List.length_map, sizeLine_eq]; omega))
  have hoL : (s1.heap.push (seqObj "list" (L1.map fun qq => Value.ref qq.1).toArray 0)).get? s1.heap.objs.size = some (seqObj "list" (L1.map fun qq => Value.ref qq.1).toArray 0) := Heap.get?_push_size _ rfl
  have er : PySem.W.EachIs (fun v (p : Addr × List Int) => ∃ as, Reads (s1.heap.push (seqObj "list" (L1.map fun qq => Value.ref qq.1).toArray 0)) v (encT p.2) as ∧ s1.heap.objs.size ∉ as) (L1.map fun qq => Value.ref qq.1) L1 := by
    have go : ∀ M : List (Addr × List Int), (∀ p ∈ M, p ∈ L) → PySem.W.EachIs (fun v (p : Addr × List Int) => ∃ as, Reads (s1.heap.push (seqObj "list" (L1.map fun qq => Value.ref qq.1).toArray 0)) v (encT p.2) as ∧ s1.heap.objs.size ∉ as) (M.map fun qq => Value.ref qq.1) M := fun M => by
      induction M with
      | nil => intro _; exact .nil
      | cons p M ih =>
        intro hM
        exact .cons ⟨[], reads_isT (P := P) (w := w) (isT_keep (R.tup p (hM p List.mem_cons_self)) fun b u e => Heap.get?_push_of_some _ (k1 b u e)), by simp⟩ (ih fun qq hq => hM qq (List.mem_cons_of_mem _ hq))
    exact go L1 fun p hp => p1.mem_iff.mp hp
  refine wpAny_bind (wpAny_holding (PySem.W.list_sort_data (enc := fun p : Addr × List Int => encT p.2) (s := { s1 with heap := s1.heap.push (seqObj "list" (L1.map fun qq => Value.ref qq.1).toArray 0) }) hoL (each_ref L1) er (by
      have := alike_tups (L1.map (·.2)); rw [List.map_map] at this; exact this) (.inl fun d sd => ?_) (by rw [sizeLine_eq]; omega) (fun b hb => ?_) fun out hl eo => ?_))
  · obtain ⟨p, hp, rfl⟩ := List.mem_map.mp sd
    have h0 := hne p (p1.mem_iff.mp hp)
    cases hk : p.2 with
    | nil => exact absurd hk h0
    | cons i k => exact ⟨_, _, rfl⟩
  · show A.in1.units + 1 + (encT b.2).depth < cLine
    have sd : (encT b.2).depth ≤ 2 := by
      unfold encT
      simp only [PyData.depth]
      have go : ∀ k : List Int, PyData.depthAll (k.map PyData.int) ≤ 1 := fun k => by
        induction k with
        | nil => simp [PyData.depthAll]
        | cons i k ih => simp only [List.map_cons, PyData.depthAll, PyData.depth]; omega
      have := go b.2
      omega
    have e1 : A.in1.units = A.units + 1 := rfl
    omega
  · obtain ⟨c, hc⟩ := sortedHeap_at (vs := L1.map fun qq => Value.ref qq.1) (out := out.toArray) hoL
    have eo' := each_ref_of eo
    have pL : (L1.mergeSort (PySem.W.dataLe false fun p : Addr × List Int => encT p.2)).Perm L := (List.mergeSort_perm _ _).trans p1
    have T := PySem.W.sortLe_total (PyProof.Rows.listOrd PyProof.Rows.itemOrd) false (fun p : Addr × List Int => PySem.W.keyToks (encT p.2))
    have pw : (L1.mergeSort (PySem.W.dataLe false fun p : Addr × List Int => encT p.2)).Pairwise fun a b => PySem.W.dataLe false (fun p : Addr × List Int => encT p.2) a b = true := List.pairwise_mergeSort (fun a b c h1 h2 => T.trans a b c h1 h2) (fun a b => by rw [Bool.or_eq_true]; exact T.total a b) L1
    rw [eo'] at hc
    refine wpAny_pure ⟨_, rfl, hQ _ s1.heap.objs.size c _ (fun b u e => ?_) g1 o1 hz (by rw [eo']; exact hc) pL pw⟩
    have qq := k1 b u e
    have below := Heap.lt_size qq
    show (sortedHeap (s1.heap.push (seqObj "list" (L1.map fun qq => Value.ref qq.1).toArray 0)) s1.heap.objs.size (L1.map fun qq => Value.ref qq.1) out.toArray).get? b = some u
    rw [sortedHeap_old (Nat.ne_of_lt below) (by rw [size_push']; exact Nat.lt_succ_of_lt below)]
    exact Heap.get?_push_of_some _ qq
end
/-- a set as it is made -/
abbrev newSetO (w : World) : Obj := { cls := .type "set", dict := none, data := .set #[] 0 (.fresh 0 0 (!w.params.followText "set-order")) }
section
variable {P : Program} {w : World} {A : Around} {E : Value → Shared → Prop} {s : Shared}
/-- set(t), t a tuple of tuples of ints -/
theorem call_set_tupT {tu : Addr} {els : Array Value} (ks : List (Addr × List Int)) {Q : Value → Shared → Prop} (calm0 : A.handled = none) (gl : s.heap.IsTuple tu els) (gits : els.toList = ks.map fun p => Value.ref p.1) (hk : ∀ p ∈ ks, L2.IsT P w s.heap p.2 p.1) (hfew : ks.length < 64) (hu : A.units + 3 < cLine)
    (h : ∀ (hp2 : Heap) (tk : Nat) L es ep t, SetTR P w hp2 s.heap.objs.size L es ep t → Got ks ks.length L → (∀ b o, s.heap.get? b = some o → hp2.get? b = some o) → Q (.ref s.heap.objs.size) { s with heap := hp2, toks := tk }) : wpAny (model P w) A (call (.type "set") [.ref tu]) Q E s := by
  have isz : els.size = ks.length := by rw [← Array.length_toList, gits, List.length_map]
  obtain ⟨mc, mt, mro⟩ := PySem.F.called_set.mro
  have mk1 := PySem.F.called_set.made
  have sb1 := PySem.F.called_set.sub
  refine wpAny_call (codeAny_of_tree ?_)
  show wpAny _ _ (callAny (.type "set") _) _ _ _
  refine wpAny_pure ⟨Code.quiet_builtin _ (by decide +kernel), ?_⟩
  refine codeAny_builtin PySem.F.entry_type_call ?_
  rw [Around.under_plain (weight_type_call_type "set" [.ref tu] []) rfl]
  have n1 := PySem.F.called_set.notType
  have n2 := PySem.F.called_set.canCreate
  have n3 := PySem.F.typeCall_set_1 (.ref tu)
  repeat (any_goals (first | assumption | wp_step))

  refine codeAny_mono (code_set_led1 (.ref tu) (E := E) (Q₁ := fun obj s₁ => obj = .ref s.heap.objs.size ∧ s₁ = { s with heap := s.heap.push (newSetO w) }) ⟨rfl, rfl⟩) fun r s₁ hr => ?_
  cases r with
  | error e => exact hr
  | ok fl =>
    cases fl with
    | ret obj =>
      obtain ⟨rfl, rfl⟩ := hr
      have gS : (s.heap.push (newSetO w)).get? s.heap.objs.size = some (newSetO w) := Heap.get?_push_size _ rfl
      have tS : Shared.TypeIs { s with heap := s.heap.push (newSetO w) } (.ref s.heap.objs.size) "set" := ⟨_, gS, rfl⟩
      have i1 := PySem.F.called_set.init.lookup
      have i2 := PySem.F.called_set.init.bind (.ref s.heap.objs.size)
      repeat (any_goals (first | assumption | wp_step))

      refine codeAny_mono (codeAny_call_builtin (R := wants (fun r s₂ => r = .none ∧ ∃ hp2 tk L es ep t, s₂ = { s with heap := hp2, toks := tk } ∧ SetTR P w hp2 s.heap.objs.size L es ep t ∧ Got ks ks.length L ∧ (∀ b o, s.heap.get? b = some o → hp2.get? b = some o)) E) PySem.F.called_set.init.plain PySem.F.entry_set_init (check_set_init_1 tS ?_)) fun r₂ s₂ hr₂ => ?_
      · obtain ⟨ow, ew, cw, nw, dw⟩ := gl
        obtain ⟨wc, wd, wa, ws⟩ := ow
        simp only at cw dw
        subst cw; subst dw
        have hol' : (s.heap.push (newSetO w)).get? tu = some { cls := .type "tuple", dict := wd, data := .seq els nw, slots := ws } := Heap.get?_push_of_some _ ew
        have f1 := PySem.F.sub_tuple_set
        have f2 := PySem.F.sub_tuple_frozenset
        have f3 : (Value.type "tuple" == Value.type "dict") = false := by decide
        have tl1 : (s.heap.push (newSetO w)).IsTuple tu els := ⟨_, hol', rfl, nw, rfl⟩
        unfold Builtin.«set.__init__»; unfold noKeywords Builtin.Frozenset.updateFrom
        generalize hPI : pyIter = PI
        wp_walk
        subst hPI

        refine wpAny_pyIter_tuple tl1 (wpAny_bind (wpAny_runValue ?_))
        have lt1 : tu < s.heap.objs.size := Heap.lt_size ew
        have calm3 : A.in1.in1.in1.handled = none := by simp [calm0]
        have z1 : (s.heap.push (newSetO w)).objs.size = s.heap.objs.size + 1 := Heap.size_push ..
        have ne1 : tu ≠ (s.heap.push (newSetO w)).objs.size := by rw [z1]; exact Nat.ne_of_lt (Nat.lt_succ_of_lt lt1)
        have ne2 : s.heap.objs.size ∉ [(s.heap.push (newSetO w)).objs.size, tu] := by
          rw [z1]
          intro q
          rcases List.mem_cons.mp q with q | q
          · exact absurd q (Nat.ne_of_lt (Nat.lt_succ_self _))
          · exact absurd (List.mem_singleton.mp q) (Nat.ne_of_gt lt1)
        have at_ : ∀ (i : Nat) (v : Value), els[i]? = some v → ∃ p, ks[i]? = some p ∧ v = .ref p.1 := fun i v gv => by
          have q : els.toList[i]? = some v := by rw [Array.getElem?_toList]; exact gv
          rw [gits, List.getElem?_map] at q
          obtain ⟨p, e1, e2⟩ := Option.map_eq_some_iff.mp q
          exact ⟨p, e1, e2.symm⟩
        have gone : ∀ b, s.heap.objs.size ≤ b → s.heap.get? b = none := fun b hb => by
          cases q : s.heap.get? b with
          | none => rfl
          | some o => exact absurd (Heap.lt_size q) (Nat.not_lt.mpr hb)
        refine set_update_tups ((Walks.tuple calm3 _ tu ne1 els).toS) s.heap.objs.size ne2 ks isz hfew at_ s.heap hk (gone _ (Nat.le_refl _)) (fun b hb => gone b (by rw [List.mem_singleton.mp hb, z1]; exact Nat.le_succ _)) hu (els.size - 0) 0 _ (by omega) (Nat.zero_le _)
          ⟨⟨_, Heap.get?_push_size _ rfl, rfl, rfl⟩, (tl1.push _)⟩ (fun b o e => Heap.get?_push_of_some _ (Heap.get?_push_of_some _ e)) ⟨[], #[], 0, _, setTR_fresh (Heap.get?_push_of_some _ gS), Got.zero ks⟩ fun s' L es ep t hm hS' g' kp' => ?_
        obtain ⟨hp2, gg2, dr2, tk2, os2⟩ := s'
        obtain rfl : gg2 = s.gens := hm.gens
        obtain rfl : dr2 = s.drawn := hm.drawn
        obtain rfl : os2 = s.os := hm.os
        show wpAny _ _ _ _ _ _
        refine wpAny_pure ?_
        show wpAny _ _ (ret Value.none) _ _ _
        rw [isz] at g'
        exact wpAny_pure ⟨rfl, hp2, tk2, L, es, ep, t, rfl, hS', g', kp'⟩

      · cases r₂ with
        | error e => exact hr₂
        | ok fl₂ =>
          cases fl₂ with
          | ret r =>
            obtain ⟨rfl, hp2, tk, L, es, ep, t, rfl, hS', g', kp'⟩ := hr₂
            repeat (any_goals (first | assumption | wp_step))
            exact h _ _ _ _ _ _ hS' g' kp'
          | _ => exact hr₂.elim
    | _ => exact hr.elim
end
section
variable {Γ : Ctx} {X : Cx} {sc : Scope} {st : Str → Bool} {k : Nat} {W : WX} {F : Addr → Prop} {H : Hp}
/-- the tuples of a list, told apart -/
theorem its_rep {ds : List D} {ks : List (List Int)} {xs : List V} (h : Γ.RL F H ds xs) (e : itsOf ds = some ks) : ∃ L : List (Addr × List Int), xs = L.map (fun p => V.ref p.1) ∧ L.map (·.2) = ks ∧ ∀ p ∈ L, SqT Γ.K H p.1 (p.2.map V.int) ∧ p.2.length ≤ sizeLine := by
  induction ds generalizing ks xs with
  | nil =>
    simp only [RepL] at h
    simp only [itsOf] at e
    cases e; subst h
    exact ⟨[], rfl, rfl, fun p hp => absurd hp (by simp)⟩
  | cons d ds ih =>
    simp only [RepL] at h
    obtain ⟨v, vs, rfl, r1, r⟩ := h
    cases d with
    | tuple ys =>
      simp only [itsOf] at e
      obtain ⟨k, hk, e⟩ := Option.bind_eq_some_iff.mp e
      obtain ⟨ls, hl, rfl⟩ := Option.map_eq_some_iff.mp e
      obtain ⟨L, q1, q2, q3⟩ := ih r hl
      simp only [RepV] at r1
      obtain ⟨a, zs, rfl, l1, z, rz⟩ := r1
      rw [intsOf_eq hk] at rz
      rw [rep_ints rz] at l1
      have zk : k.length ≤ sizeLine := by rw [rep_ints rz, List.length_map] at z; exact z
      refine ⟨(a, k) :: L, by rw [List.map_cons, q1], by rw [List.map_cons, q2], fun p hp => ?_⟩
      rcases List.mem_cons.mp hp with (e | e)
      · subst e; exact ⟨l1, zk⟩
      · exact q3 p e
    | _ => simp [itsOf] at e
def tSortSet (Γ : Ctx) (te : TE) : TE := fun σ H Q => te σ H fun x H1 => ∃ F d p, (∀ a, F a → NTo H1 a) ∧ RepR Γ F H1 d x ∧ dSortSet d = some p ∧ ∀ v H', Alc Γ F H1 p v H' → Q v H'
theorem pe_sortSet {a : Expr} {ta : TE} {p p2 q pos : Pos} (g : Gd Γ X sc st k) (hh : Γ.hot = false) (hg : sc.names.lookup ("sorted" : Str) = some .globalImplicit) (hm : Γ.mg ("sorted" : Str) = none) (hg2 : sc.names.lookup ("set" : Str) = some .globalImplicit) (hm2 : Γ.mg ("set" : Str) = none) (ha : PE X a ta)
    (na : starEach [a] X.env = (false, eval a X.env) :: starEach [] X.env) (nb : starEach [.Call (.Name "set" p2) [a] [] q] X.env = (false, eval (.Call (.Name "set" p2) [a] [] q) X.env) :: starEach [] X.env) : PE X (.Call (.Name "sorted" p) [.Call (.Name "set" p2) [a] [] q] [] pos) (tSortSet Γ ta) := by
  have G1 : ∀ {x : Str}, sc.names.lookup x = some .globalImplicit → Gl X x := fun {x} h => by show X.env.scope.names.lookup x = _; rw [g.scp]; exact h
  refine ⟨fun pins s σ H Q I h => ?_⟩
  refine Call_ (ld_blt I (G1 hg) (by rw [g.mg]; exact hm) (show bootBuiltins ("sorted" : Str) = some (.builtin "sorted") by decide +kernel) ?_)
  refine PyProof.Rows.callWith_builtin1 (PyProof.Rows.args_cons ?_ nb) nb rfl
  refine Call_ (ld_blt I (G1 hg2) (by rw [g.mg]; exact hm2) PyProof.Rows.boot_set ?_)
  refine PyProof.Rows.callWith_type1 (PyProof.Rows.args_cons (thn (ha.run pins s σ H _ I h) fun v s1 ⟨x, H1, I1, r1, F, d, pp, tr, rd, hd, hQ⟩ => PyProof.Rows.args_nil ?_) na) na rfl
  have hun := g.room.un
  have hcalm := I1.ok.hd (g.calm hh)
  cases d with
  | list ds =>
    simp only [dSortSet] at hd
    split at hd
    · rename_i ks hks
      split at hd
      · rename_i hc
        cases hd
        obtain ⟨l, xs, rfl, l1, z, rl⟩ := rList rd
        obtain ⟨L, q1, q2, q3⟩ := its_rep rl hks
        rw [← g.K] at l1
        cases r1
        obtain ⟨its, rv, pl, hz⟩ := I1.list l1
        have hlen : L.length < 64 := by rw [← List.length_map (f := fun p : Addr × List Int => V.ref p.1), ← q1, ← rl.length]; exact hc.1
        refine call_set_tups (P := X.prog) (w := X.w) L hcalm pl.isList (by rw [q1] at rv; simpa using refs_of_vals rv) (fun p hp => I1.isT (by rw [g.K]; exact (q3 p hp).1)) hlen (by omega) fun h' tk M es ep t R gt kp => ?_
        refine PyProof.Rows.args_nil ?_; have I2 : Inv X pins σ H1 { s1 with heap := h', toks := tk } := I1.kept kp
        have subM : ∀ p ∈ M, p ∈ L := fun p hp => List.mem_of_mem_take (gt.sub p hp)
        have neM : ∀ p ∈ M, p.2 ≠ [] := fun p hp e => by
          have h1 : p.2 ∈ ks := by rw [← q2]; exact List.mem_map.mpr ⟨p, subM p hp, rfl⟩
          have := List.all_eq_true.mp hc.2 _ h1
          rw [e] at this
          simp at this
        refine sorted_tups (P := X.prog) (w := X.w) R (I2.ok.hd (g.calm hh)) neM (by omega) fun s' a' c L' k2 gg oo hp hget pL pw => ?_
        have hn : H1 a' = none := I2.hok.fresh hp
        have hfew : L'.length < 64 := by rw [pL.length_eq]; exact R.few
        have hl2 : (L'.map fun q => V.ref q.1).length ≤ sizeLine := by rw [List.length_map, sizeLine_eq]; omega
        have J : Inv X pins σ (upd H1 a' (.lst (L'.map fun q => V.ref q.1))) { s1 with heap := s'.heap, gens := s'.gens, drawn := s'.drawn, toks := s'.toks } :=
          Inv.call (s := { s1 with heap := h', toks := tk }) I2 (ch := []) (Un.laid k2 hp hn) (I2.hok.laid k2 hp ⟨hl2, _, c, vals_of_refs L', hget⟩) (by rw [gg]; exact I2.bare) (fun _ z => nomatch z)
        have e : s' = { s1 with heap := s'.heap, gens := s'.gens, drawn := s'.drawn, toks := s'.toks } := by
          cases s'
          cases s1
          cases oo
          rfl
        rw [e]
        refine ⟨.ref a', _, J, rfl, hQ _ _ ?_⟩
        -- the data
        have memM : ∀ p ∈ L', p ∈ L := fun p hp => subM p (pL.mem_iff.mp hp)
        have eD : L'.map (fun p => encT p.2) = sortD (dedupe ds) := by
          have dse : ds = ks.map encT := itsOf_eq hks
          refine sortD_of (fun a ha b hb h1 h2 => ?_) ?_ ?_
          · rw [dedupe_mem, dse] at ha hb
            exact anti_tups ks a ha b hb h1 h2
          · have nd1 : (L'.map fun p => encT p.2).Nodup := by
              have := (pL.map (·.2)).nodup_iff.mpr R.nd
              have e2 : (L'.map fun p => encT p.2) = (L'.map (·.2)).map encT := by rw [List.map_map]; rfl
              rw [e2]
              exact nodup_inj (fun _ _ h => encT_inj h) this
            refine (List.perm_ext_iff_of_nodup nd1 (dedupe_nodup ds)).mpr fun a => ?_
            rw [dedupe_mem, dse, ← q2, List.map_map]
            constructor
            · intro h
              obtain ⟨p, hp, rfl⟩ := List.mem_map.mp h
              exact List.mem_map.mpr ⟨p, memM p hp, rfl⟩
            · intro h
              obtain ⟨p, hp, rfl⟩ := List.mem_map.mp h
              have h3 := gt.all p (by rw [List.take_length]; exact hp)
              obtain ⟨p', hp', e'⟩ := List.mem_map.mp h3
              exact List.mem_map.mpr ⟨p', pL.mem_iff.mpr hp', by show encT p'.2 = encT p.2; rw [e']⟩
          · exact List.pairwise_map.mpr pw
        rw [← eD]
        refine .newList tr hn hl2 ?_
        have go : ∀ M : List (Addr × List Int), (∀ p ∈ M, p ∈ L) → Γ.RL F H1 (M.map fun p => encT p.2) (M.map fun q => V.ref q.1) := fun M => by
          induction M with
          | nil => intro _; exact RepL.nil
          | cons p M ih =>
            intro hM
            refine RepL.cons ?_ (ih fun q hq => hM q (List.mem_cons_of_mem _ hq))
            have hp := hM p List.mem_cons_self
            unfold encT
            simp only [RepV]
            refine ⟨p.1, _, rfl, (q3 p hp).1, by rw [List.length_map]; exact (q3 p hp).2, ?_⟩
            · have gi : ∀ k : List Int, RepL Γ.prog Γ.w Γ.K F H1 (k.map PyData.int) (k.map V.int) := fun k => by
                induction k with
                | nil => exact RepL.nil
                | cons i k ih => exact RepL.cons (by simp only [RepV]) ih
              exact gi p.2
        exact go L' memM
      · cases hd
    · cases hd
  | tuple ds =>
    simp only [dSortSet] at hd
    split at hd
    · rename_i ns hns
      split at hd
      · rename_i hc
        cases hd
        obtain ⟨l, xs, rfl, l1, z, rl⟩ := rTup rd
        rw [intsOf_eq hns] at rl
        rw [rep_ints rl, ← g.K] at l1
        have dse := intsOf_eq hns
        have hlen : ns.length < 64 := by rw [dse, List.length_map] at hc; exact hc
        cases r1
        obtain ⟨its, rv, pl, hz⟩ := I1.tuple l1
        refine call_set_tupI (P := X.prog) (w := X.w) ns hcalm (show s1.heap.IsTuple l its.toArray from pl) (by simpa using rv.ints) (by unfold scanBound; omega) fun h' tk c R hcn kp => ?_
        refine PyProof.Rows.args_nil ?_; have I2 : Inv X pins σ H1 { s1 with heap := h', toks := tk } := I1.kept kp
        refine sorted_set (P := X.prog) (w := X.w) R (I2.ok.hd (g.calm hh)) (by omega) fun s' a' out c2 ms k2 gg oo hp hget hints hpw hmem hln => ?_
        have hn : H1 a' = none := I2.hok.fresh hp
        have hl2 : (ms.map V.int).length ≤ sizeLine := by rw [List.length_map, hln, sizeLine_eq]; omega
        have J : Inv X pins σ (upd H1 a' (.lst (ms.map V.int))) { s1 with heap := s'.heap, gens := s'.gens, drawn := s'.drawn, toks := s'.toks } :=
          Inv.call (s := { s1 with heap := h', toks := tk }) I2 (ch := []) (Un.laid k2 hp hn) (I2.hok.laid k2 hp ⟨hl2, out.toList, c2, vals_of_ints hints, hget⟩) (by rw [gg]; exact I2.bare) (fun _ z => nomatch z)
        have e : s' = { s1 with heap := s'.heap, gens := s'.gens, drawn := s'.drawn, toks := s'.toks } := by
          cases s'
          cases s1
          cases oo
          rfl
        rw [e]
        refine ⟨.ref a', _, J, rfl, hQ _ _ ?_⟩
        have eD : ms.map PyData.int = sortD (dedupe ds) := by
          refine sortD_of (fun a ha b hb h1 h2 => ?_) ?_ ?_
          · rw [dedupe_mem, dse] at ha hb
            exact anti_ints ns a ha b hb h1 h2
          · have nd1 : (ms.map PyData.int).Nodup := nodup_inj (fun _ _ h => PyData.int.inj h) (hpw.imp fun h => Int.ne_of_lt h)
            refine (List.perm_ext_iff_of_nodup nd1 (dedupe_nodup ds)).mpr fun a => ?_
            rw [dedupe_mem, dse]
            constructor
            · intro h
              obtain ⟨i, hi, rfl⟩ := List.mem_map.mp h
              exact List.mem_map.mpr ⟨i, by have := (hmem i).mp hi; simpa using this, rfl⟩
            · intro h
              obtain ⟨i, hi, rfl⟩ := List.mem_map.mp h
              exact List.mem_map.mpr ⟨i, (hmem i).mpr (by simpa using hi), rfl⟩
          · refine List.pairwise_map.mpr (hpw.imp fun {i j} h => ?_)
            simp [PySem.W.dataLe, PySem.W.sortLe, PySem.W.keyToks, PyProof.Rows.lexLt, PyProof.Rows.itemOrd, PyProof.Rows.itemLt]
            omega
        rw [← eD]
        refine .newList tr hn hl2 ?_
        have gi : ∀ k : List Int, RepL Γ.prog Γ.w Γ.K F H1 (k.map PyData.int) (k.map V.int) := fun k => by
          induction k with
          | nil => exact RepL.nil
          | cons i k ih => exact RepL.cons (by simp only [RepV]) ih
        exact gi ms
      · cases hd
    · split at hd
      · rename_i ks hks
        split at hd
        · rename_i hc
          cases hd
          obtain ⟨l, xs, rfl, l1, z, rl⟩ := rTup rd
          obtain ⟨L, q1, q2, q3⟩ := its_rep rl hks
          rw [← g.K] at l1
          cases r1
          obtain ⟨its, rv, pl, hz⟩ := I1.tuple l1
          have hlen : L.length < 64 := by rw [← List.length_map (f := fun p : Addr × List Int => V.ref p.1), ← q1, ← rl.length]; exact hc.1
          refine call_set_tupT (P := X.prog) (w := X.w) L hcalm (show s1.heap.IsTuple l its.toArray from pl) (by rw [q1] at rv; simpa using refs_of_vals rv) (fun p hp => I1.isT (by rw [g.K]; exact (q3 p hp).1)) hlen (by omega) fun h' tk M es ep t R gt kp => ?_
          refine PyProof.Rows.args_nil ?_
          have I2 : Inv X pins σ H1 { s1 with heap := h', toks := tk } := I1.kept kp
          have subM : ∀ p ∈ M, p ∈ L := fun p hp => List.mem_of_mem_take (gt.sub p hp)
          have neM : ∀ p ∈ M, p.2 ≠ [] := fun p hp e => by
            have h1 : p.2 ∈ ks := by rw [← q2]; exact List.mem_map.mpr ⟨p, subM p hp, rfl⟩
            have := List.all_eq_true.mp hc.2 _ h1
            rw [e] at this
            simp at this
          refine sorted_tups (P := X.prog) (w := X.w) R (I2.ok.hd (g.calm hh)) neM (by omega) fun s' a' c L' k2 gg oo hp hget pL pw => ?_
          have hn : H1 a' = none := I2.hok.fresh hp
          have hfew : L'.length < 64 := by rw [pL.length_eq]; exact R.few
          have hl2 : (L'.map fun q => V.ref q.1).length ≤ sizeLine := by rw [List.length_map, sizeLine_eq]; omega
          have J : Inv X pins σ (upd H1 a' (.lst (L'.map fun q => V.ref q.1))) { s1 with heap := s'.heap, gens := s'.gens, drawn := s'.drawn, toks := s'.toks } :=
            Inv.call (s := { s1 with heap := h', toks := tk }) I2 (ch := []) (Un.laid k2 hp hn) (I2.hok.laid k2 hp ⟨hl2, _, c, vals_of_refs L', hget⟩) (by rw [gg]; exact I2.bare) (fun _ z => nomatch z)
          have e : s' = { s1 with heap := s'.heap, gens := s'.gens, drawn := s'.drawn, toks := s'.toks } := by
            cases s'
            cases s1
            cases oo
            rfl
          rw [e]
          refine ⟨.ref a', _, J, rfl, hQ _ _ ?_⟩
          -- the data
          have memM : ∀ p ∈ L', p ∈ L := fun p hp => subM p (pL.mem_iff.mp hp)
          have eD : L'.map (fun p => encT p.2) = sortD (dedupe ds) := by
            have dse : ds = ks.map encT := itsOf_eq hks
            refine sortD_of (fun a ha b hb h1 h2 => ?_) ?_ ?_
            · rw [dedupe_mem, dse] at ha hb
              exact anti_tups ks a ha b hb h1 h2
            · have nd1 : (L'.map fun p => encT p.2).Nodup := by
                have := (pL.map (·.2)).nodup_iff.mpr R.nd
                have e2 : (L'.map fun p => encT p.2) = (L'.map (·.2)).map encT := by rw [List.map_map]; rfl
                rw [e2]
                exact nodup_inj (fun _ _ h => encT_inj h) this
              refine (List.perm_ext_iff_of_nodup nd1 (dedupe_nodup ds)).mpr fun a => ?_
              rw [dedupe_mem, dse, ← q2, List.map_map]
              constructor
              · intro h
                obtain ⟨p, hp, rfl⟩ := List.mem_map.mp h
                exact List.mem_map.mpr ⟨p, memM p hp, rfl⟩
              · intro h
                obtain ⟨p, hp, rfl⟩ := List.mem_map.mp h
                have h3 := gt.all p (by rw [List.take_length]; exact hp)
                obtain ⟨p', hp', e'⟩ := List.mem_map.mp h3
                exact List.mem_map.mpr ⟨p', pL.mem_iff.mpr hp', by show encT p'.2 = encT p.2; rw [e']⟩
            · exact List.pairwise_map.mpr pw
          rw [← eD]
          refine .newList tr hn hl2 ?_
          have go : ∀ M : List (Addr × List Int), (∀ p ∈ M, p ∈ L) → Γ.RL F H1 (M.map fun p => encT p.2) (M.map fun q => V.ref q.1) := fun M => by
            induction M with
            | nil => intro _; exact RepL.nil
            | cons p M ih =>
              intro hM
              refine RepL.cons ?_ (ih fun q hq => hM q (List.mem_cons_of_mem _ hq))
              have hp := hM p List.mem_cons_self
              unfold encT
              simp only [RepV]
              refine ⟨p.1, _, rfl, (q3 p hp).1, by rw [List.length_map]; exact (q3 p hp).2, ?_⟩
              · have gi : ∀ k : List Int, RepL Γ.prog Γ.w Γ.K F H1 (k.map PyData.int) (k.map V.int) := fun k => by
                  induction k with
                  | nil => exact RepL.nil
                  | cons i k ih => exact RepL.cons (by simp only [RepV]) ih
                exact gi p.2
          exact go L' memM
        · cases hd
      · cases hd
  | _ => cases hd
theorem de_sortSet {a : Expr} {f : EvO} {p p2 q pos : Pos} (g : Gd Γ X sc st k) (hh : Γ.hot = false) (hg : sc.names.lookup ("sorted" : Str) = some .globalImplicit) (hm : Γ.mg ("sorted" : Str) = none) (hg2 : sc.names.lookup ("set" : Str) = some .globalImplicit) (hm2 : Γ.mg ("set" : Str) = none) (ha : PE X a (tO Γ W f))
    (na : starEach [a] X.env = (false, eval a X.env) :: starEach [] X.env) (nb : starEach [.Call (.Name "set" p2) [a] [] q] X.env = (false, eval (.Call (.Name "set" p2) [a] [] q) X.env) :: starEach [] X.env) : PE X (.Call (.Name "sorted" p) [.Call (.Name "set" p2) [a] [] q] [] pos) (tD Γ W (eUn dSortSet f)) := by
  refine pe_imp (pe_sortSet g hh hg hm hg2 hm2 ha na nb) fun σ H Q ⟨F, ρ, G, S, O⟩ => ⟨F, ρ, G, S, (Out.bind O).imp fun pp ρ1 F1 H1 k1 G1 S1 O1 x hx sx => ?_⟩
  cases hd : dSortSet pp.1 with
  | none => rw [hd] at O1; exact O1.elim
  | some r =>
    rw [hd] at O1
    refine ⟨F1, pp.1, r, G1.tr, S1.read hx sx, hd, fun v H2 A => ?_⟩
    obtain ⟨q1, q2, q3, q4⟩ := A.res G1 S1
    exact O1 F1 H2 q1 q2 q3 v q4
end
end Ow

namespace Ow
open PySem PyProof.Rows PySem.Spec L2 LamX

/-- a def's code object, as the head tells it -/
theorem fund_code {K : PySem.W.Frag} {x qual : Str} {params : Arguments} {body : List Stmt} {scope : Scope} {dvs : List V} {kws : List (Str × V)} {p : Str × Option Str} {fd : FuncData} (Fd : FunD K x qual params body scope dvs kws (He.fAd K p) fd) : fd.code = .ref (He.codeOf K p) := by
  obtain ⟨oc, od, dV, kV, doc, pm, an, cdv, ct, osl, rfl, lk, hcd, _, _⟩ := Fd.ex
  obtain ⟨c, rfl⟩ := He.codeIn_ref hcd
  rw [He.codeOf_eq lk rfl] <;> rfl
/-- name = [..], the name a cell: no swap -/
theorem sw_cell {Γ : Ctx} {X : Cx} {sc : Scope} {st : Str → Bool} {k : Nat} {elt : Expr} {gs : List Comprehension} {scope : Scope} {pos py : Pos} {y : Str} {l : Nat} (g : Gd Γ X sc st k) (hy : sc.names.lookup y = some .cell) : swapsWith (.ListComp elt gs scope pos) (some (.Name y py)) l X.env = pure false := by
  have ky : X.env.kindOf y = some .cell := by show X.env.scope.names.lookup y = _; rw [g.scp]; exact hy
  have e : (X.env.kindOf y == some .local) = false := by rw [ky]; rfl
  unfold swapsWith
  simp only [e, Bool.and_false, Bool.false_and]
/-- a def of which nothing is told -/
theorem FnAt.none {Γ : Ctx} {x : Str} {stm : Stmt} {fa : Addr} {fd : FuncData} {ps : List Str} {k : Nat} {gb : Bool} {modes : List Bool} (Fd : FunD Γ.K x x (defArgs stm) (defBody stm) (defScope stm) [] [] fa fd) (hm : Γ.mg x = some (.ref fa)) (hb : Binds Γ.K fd ps []) (hmo : modes.length = ps.length) : FnAt Γ gb k x ps modes (fun _ => Option.none) :=
  ⟨fa, fd, ⟨hmo, fun A outer s H args us vs Q E _ _ _ _ _ ⟨F, ds, r, _, _, _, h, _⟩ => by cases h⟩, hm, Fd.kp, hb⟩
theorem fnG_of {Γ : Ctx} {x : Str} {stm : Stmt} {fa : Addr} {fd : FuncData} {N ps : List Str} {k n : Nat} {gb : Bool} {modes : List Bool} {f : StF} {as : List Nat} (Fd : FunD Γ.K x x (defArgs stm) (defBody stm) (defScope stm) [] [] fa fd) (S : FnScope N ps (defScope stm)) (hn : N.length = n) (hmo : modes.length = ps.length)
    (hbody : ∀ (F0 : Addr → Prop) (H0 : Hp) (ino : Nat → Option Addr) (X : Cx) (W : WX), GdS (Γ.enter N F0 H0 ino gb) X (defScope stm) (stD (defScope stm)) k W → X.env.qual = x ++ ".<locals>." → X.env.code = fd.code → PSs X (defBody stm) (tS (Γ.enter N F0 H0 ino gb) W as f)) : FnG Γ gb (k + 1) fa fd ps modes (runF f n modes) := by
  subst hn
  exact FnG.of Fd S hmo hbody
/-- what is read of a thing that was told: a plain thing, as it is -/
def readD : D → Option D
  | .none => some .none
  | _ => Option.none
/-- the classes of errors, told apart -/
structure Kinds (Γ : Ctx) (top : Str) (cs : List Str) : Prop where
  top : ∃ C, Γ.mg top = some (.ref C) ∧ ∀ c ∈ cs, PySem.W.exmOne Γ.K (Γ.cls c) (.ref C) = some true
  ex : ∀ c ∈ cs, ∃ C, Γ.cls c = .ref C ∧ Γ.mg c = some (.ref C) ∧ ExcC Γ.K C
  kit : ∀ c ∈ cs, ∀ c' ∈ cs, PySem.W.kitOne Γ.K (Γ.cls c) (Γ.cls c') = some (decide (c = c'))
/-- the facts of the classes, asked of the written part -/
def excCB (K : PySem.W.Frag) (D : Addr) : Bool := He.eqO (PySem.W.findIn K (.ref D) "__getattribute__") (some (some (.builtin "BaseException.__getattribute__"))) && He.eqO (PySem.W.findIn K (.ref D) "__getattr__") (some none) && decide (PySem.W.subIn K (.ref D) (.type "BaseException") = some true) && PySem.W.hasDictIn K D &&
  He.eqO (PySem.W.findIn K (.ref D) "__class__") (some (some (.builtin "object.__class__"))) && He.eqO (PySem.W.specialIn K (.builtin "object.__class__") "__get__") (some (some (.builtin "getset_descriptor.__get__"))) && decide (PySem.W.takesIn K (.builtin "object.__class__") = some true) && decide (PySem.W.mroIn K D (.type "object") = some true)
theorem excCB_ok {K : PySem.W.Frag} {D : Addr} (h : excCB K D = true) : ExcC K D := by
  unfold excCB at h
  simp only [Bool.and_eq_true, decide_eq_true_eq, and_assoc] at h
  obtain ⟨h1, h2, h3, h4, h5, h6, h7, h8⟩ := h
  exact ⟨He.eqO_ok h1, He.eqO_ok h2, h3, h4, He.eqO_ok h5, He.eqO_ok h6, h7, h8⟩
def kindsB (top : Str) (cs : List Str) (K : PySem.W.Frag) : Bool := cs.all fun c => decide (PySem.W.exmOne K (.ref (He.ga K c)) (.ref (He.ga K top)) = some true) && excCB K (He.ga K c) && cs.all fun c' => decide (PySem.W.kitOne K (.ref (He.ga K c)) (.ref (He.ga K c')) = some (decide (c = c')))
theorem kinds_ok {Γ : Ctx} {top : Str} {cs : List Str} (h : kindsB top cs Γ.K = true) (hc : ∀ c, Γ.cls c = .ref (He.ga Γ.K c)) (ht : Γ.mg top = some (.ref (He.ga Γ.K top))) (hm : ∀ c ∈ cs, Γ.mg c = some (.ref (He.ga Γ.K c))) : Kinds Γ top cs := by
  have q : ∀ c ∈ cs, PySem.W.exmOne Γ.K (.ref (He.ga Γ.K c)) (.ref (He.ga Γ.K top)) = some true ∧ excCB Γ.K (He.ga Γ.K c) = true ∧ ∀ c' ∈ cs, PySem.W.kitOne Γ.K (.ref (He.ga Γ.K c)) (.ref (He.ga Γ.K c')) = some (decide (c = c')) := fun c hcs => by
    have z := List.all_eq_true.mp h c hcs
    simp only [Bool.and_eq_true, decide_eq_true_eq] at z
    refine ⟨z.1.1, z.1.2, fun c' h' => ?_⟩
    have y := List.all_eq_true.mp z.2 c' h'
    exact of_decide_eq_true y
  exact ⟨⟨_, ht, fun c hcs => by rw [hc]; exact (q c hcs).1⟩, fun c hcs => ⟨_, hc c, hm c hcs, excCB_ok (q c hcs).2.1⟩, fun c h1 c' h2 => by rw [hc, hc]; exact (q c h1).2.2 c' h2⟩
/-- told(lambda: body), wherever it stands -/
structure ToldAt (Γ : Ctx) (x : Str) (kr : Nat) (readD : D → Option D) (wordOf : Str → Option Str) : Prop where
  rule : ∀ {N : List Str} {F0 : Addr → Prop} {H0 : Hp} {ino : Nat → Option Addr} {gb : Bool} {X : Cx} {sc : Scope} {st : Str → Bool} {k kk : Nat} {W : WX} {f : EvE} {params : Arguments} {body : Expr} {scope : Scope} {p lpos pos : Pos} {c P : Addr}, GdT (Γ.enter N F0 H0 ino gb) X sc st k W → kk + 2 ≤ k → kr ≤ kk + 1 → sc.names.lookup x = some .globalImplicit →
    TabB Γ.base Γ.mg c P → X.env.code = .ref c → (P, X.env.qual ++ "<lambda>") ∈ Γ.T → (∀ p ∈ Γ.T, p.1 = P → p.2 = X.env.qual ++ "<lambda>") → LamS sc scope → defaultsOf params X.env = ([], []) →
    (∀ (q : Str) (cl : List (Str × Addr)) (pm cv ctv : Value), bindArgs (PySem.W.kla_fn "<lambda>" q params body scope cl pm cv ctv) ⟨[], []⟩ = pure []) →
    (∀ (F0 : Addr → Prop) (H0 : Hp) (ino : Nat → Option Addr) (X' : Cx) (W' : WX), GdT (Γ.enter N F0 H0 ino false) X' scope (fun _ => false) kk W' → PE X' body (tD (Γ.enter N F0 H0 ino false) W' f)) →
    PE X (.Call (.Name x p) [.Lambda params body scope lpos] [] pos) (tD (Γ.enter N F0 H0 ino gb) W (eTold readD wordOf f))
/-! ### the words of the told errors -/
def toldCs : List Str := ["BadSchema", "BadKind", "BadTable", "BadPaper", "BadState", "NotAgreeing", "OutOfRange"]
def toldWord (c : Str) : Option Str := [(("BadSchema" : Str), ("schema" : Str)), ("BadKind", "kind"), ("BadTable", "table"), ("BadPaper", "paper"), ("BadState", "state"), ("NotAgreeing", "agree"), ("OutOfRange", "range")].lookup c
def eW (x : Str) (b : Bool) : EvE := eTup [eCon (.str x), eIsX 1 b]
def toldH (c : Str) : StF := sSeq (sAsg 2 (eLst [eW "schema" (decide (c = "BadSchema")), eW "kind" (decide (c = "BadKind")), eW "table" (decide (c = "BadTable")), eW "paper" (decide (c = "BadPaper"))]))
  (sSeq (sAsg 2 (eBin dAdd (oVar 2) (oOf (eLst [eW "state" (decide (c = "BadState")), eW "agree" (decide (c = "NotAgreeing")), eW "range" (decide (c = "OutOfRange"))]))))
  (sSeq (sAsg 3 (eComp [4, 5] (iLst (oVar 2)) (.tup [.name 4, .name 5]) (tVal (eVar 5)) (eVar 4)))
  (sRet (eTup [eCon (.int 1), eIte (tVal (eBin dEq (oOf (eOps dLen [oVar 3])) (oOf (eCon (.int 1))))) (eBin dIx (oVar 3) (oOf (eCon (.int 0)))) (eCon (.str "wrong"))]))))
theorem word_cases {c w : Str} (h : toldWord c = some w) : (c, w) ∈ ([(("BadSchema" : Str), ("schema" : Str)), ("BadKind", "kind"), ("BadTable", "table"), ("BadPaper", "paper"), ("BadState", "state"), ("NotAgreeing", "agree"), ("OutOfRange", "range")] : List (Str × Str)) := PySem.mem_of_lookup h
theorem word_in {c w : Str} (h : toldWord c = some w) : c ∈ toldCs := by
  have q := word_cases h
  simp only [List.mem_cons, Prod.mk.injEq, List.not_mem_nil, or_false] at q
  unfold toldCs
  simp only [List.mem_cons, List.not_mem_nil, or_false]
  rcases q with ⟨rfl, _⟩ | ⟨rfl, _⟩ | ⟨rfl, _⟩ | ⟨rfl, _⟩ | ⟨rfl, _⟩ | ⟨rfl, _⟩ | ⟨rfl, _⟩ <;> simp
theorem toldH_res {c w : Str} (h : toldWord c = some w) : ∃ ρ', toldH c ((List.replicate 6 Slot.non).set 1 .exn) = .ret (.tuple [.int 1, .str w]) false ρ' := by
  have q := word_cases h
  simp only [List.mem_cons, Prod.mk.injEq, List.not_mem_nil, or_false] at q
  rcases q with ⟨rfl, rfl⟩ | ⟨rfl, rfl⟩ | ⟨rfl, rfl⟩ | ⟨rfl, rfl⟩ | ⟨rfl, rfl⟩ | ⟨rfl, rfl⟩ | ⟨rfl, rfl⟩ <;> exact ⟨_, rfl⟩
end Ow

namespace Ow
open PySem PySem.Spec PyProof.Rows
/-! ### what the combinators answer: ends that are wanted -/
def Sat {α : Type} (r : Res α) (P : α → AE → Prop) : Prop := match r with
  | .ok a ρ => P a ρ
  | _ => False
structure Wp where
  nx : AE → Prop
  rt : D → Bool → AE → Prop
  ex : Str → Prop
def Wp.next (P : AE → Prop) (w : Wp) : Wp := ⟨P, w.rt, w.ex⟩
def SSat (r : SR) (w : Wp) : Prop := match r with
  | .nx ρ => w.nx ρ
  | .ret d fl ρ => w.rt d fl ρ
  | .exc c => w.ex c
  | _ => False
def FSat (r : Option FR) (R : D → Bool → List D → Prop) (E : Str → Prop) : Prop := match r with
  | some (.ret d fl outs) => R d fl outs
  | some (.exc c) => E c
  | none => False
section
variable {α β : Type} {P : α → AE → Prop} {w : Wp} {ρ : AE}
theorem Sat.bind {r : Res α} {f : α → AE → Res β} {P : β → AE → Prop} (h : Sat r fun a ρ' => Sat (f a ρ') P) : Sat (r.bind f) P := by
  cases r <;> first | exact h | exact h.elim
theorem Sat.sb {r : Res α} {f : α → AE → SR} (h : Sat r fun a ρ' => SSat (f a ρ') w) : SSat (r.sb f) w := by
  cases r <;> first | exact h | exact h.elim
theorem Sat.imp {r : Res α} {Q : α → AE → Prop} (h : Sat r P) (q : ∀ a ρ', P a ρ' → Q a ρ') : Sat r Q := by
  cases r <;> first | exact q _ _ h | exact h.elim
theorem Sat.nox {r : Res α} (h : Sat r P) : Sat (Ow.nox r) P := by
  cases r <;> first | exact h | exact h.elim
theorem Sat.get {r : Res α} (h : Sat r P) : ∃ a ρ', r = .ok a ρ' ∧ P a ρ' := by
  cases r <;> first | exact ⟨_, _, rfl, h⟩ | exact h.elim
theorem Sat.of {r : Res α} {a : α} {ρ' : AE} (e : r = .ok a ρ') (h : P a ρ') : Sat r P := by subst e; exact h
theorem SSat.imp {r : SR} {w' : Wp} (h : SSat r w) (n : ∀ ρ', w.nx ρ' → w'.nx ρ') (t : ∀ d fl ρ', w.rt d fl ρ' → w'.rt d fl ρ') (x : ∀ c, w.ex c → w'.ex c) : SSat r w' := by
  cases r <;> first | exact n _ h | exact t _ _ _ h | exact x _ h | exact h.elim
theorem FSat.imp {r : Option FR} {R R' : D → Bool → List D → Prop} {E E' : Str → Prop} (h : FSat r R E) (t : ∀ d fl os, R d fl os → R' d fl os) (x : ∀ c, E c → E' c) : FSat r R' E' := by
  cases r with
  | none => exact h.elim
  | some r => cases r <;> first | exact t _ _ _ h | exact x _ h
theorem ssat_seq {f g : StF} (h : SSat (f ρ) (w.next fun ρ' => SSat (g ρ') w)) : SSat (sSeq f g ρ) w := by
  unfold sSeq
  revert h
  cases f ρ <;> intro h <;> first | exact h | exact h.elim
theorem ssat_if {t : EvT} {f g : StF} (h : Sat (t ρ) fun b ρ' => SSat (if b then f ρ' else g ρ') w) : SSat (sIf t f g ρ) w := Sat.sb h
theorem ssat_ret {f : EvE} (h : Sat (f ρ) fun p ρ' => w.rt p.1 p.2 ρ') : SSat (sRet f ρ) w := Sat.sb h
theorem ssat_asg {i : Nat} {f : EvE} (h : Sat (f ρ) fun p ρ' => isNoIno ρ'[i]? = true ∧ w.nx (ρ'.set i (slotOf p))) : SSat (sAsg i f ρ) w := Sat.sb (h.imp fun p ρ' q => by rw [if_pos q.1]; exact q.2)
theorem fsat_run {f : StF} {n : Nat} {modes : List Bool} {ds : List D} {R : D → Bool → List D → Prop} {E : Str → Prop} (hl : ds.length = modes.length)
    (h : SSat (f (startA n modes ds)) ⟨fun ρ => inoStill modes ρ = true ∧ R .none false (outsOf modes ρ), fun d fl ρ => inoStill modes ρ = true ∧ R d fl (outsOf modes ρ), E⟩) : FSat (runF f n modes ds) R E := by
  unfold runF
  rw [if_pos hl]
  revert h
  generalize f (startA n modes ds) = r
  intro h
  cases r with
  | nx ρ => show FSat (if _ then _ else _) _ _; rw [if_pos h.1]; exact h.2
  | ret d fl ρ => show FSat (if _ then _ else _) _ _; rw [if_pos h.1]; exact h.2
  | exc c => exact h
  | _ => exact h.elim
/-! loops -/
theorem ssat_for {bs : Src} {tg : Tg} {f : StF} (inv : List D → AE → Prop) (step : ∀ d ds ρ, inv (d :: ds) ρ → stills bs ρ = true ∧ ∃ ρ1, bindT tg d ρ = some ρ1 ∧ SSat (f ρ1) (w.next (inv ds))) (last : ∀ ρ, inv [] ρ → stills bs ρ = true ∧ w.nx ρ) :
    ∀ (ds : List D) (ρ : AE), inv ds ρ → SSat (forGo bs tg f ds ρ) w
  | [], ρ, h => by
    unfold forGo
    rw [if_pos (last ρ h).1]
    exact (last ρ h).2
  | d :: ds, ρ, h => by
    obtain ⟨h1, ρ1, e, h2⟩ := step d ds ρ h
    unfold forGo
    rw [if_pos h1, e]
    show SSat (match f ρ1 with | .nx ρ2 => _ | .ct ρ2 => _ | .brk ρ2 => _ | r => r) w
    revert h2
    cases f ρ1 with
    | nx ρ2 => exact fun h2 => ssat_for inv step last ds ρ2 h2
    | _ => intro h2; first | exact h2 | exact h2.elim
theorem ssat_wh {t : EvT} {f : StF} (inv : Nat → AE → Prop) (step : ∀ n ρ, inv n ρ → Sat (t ρ) fun b ρ1 => if b then SSat (f ρ1) (w.next fun ρ2 => ∃ m, m < n ∧ inv m ρ2) else w.nx ρ1) :
    ∀ (k n : Nat) (ρ : AE), n < k → inv n ρ → SSat (whGo t f k ρ) w
  | 0, n, ρ, hk, h => absurd hk (Nat.not_lt_zero _)
  | k + 1, n, ρ, hk, h => by
    unfold whGo
    refine Sat.sb ((step n ρ h).imp fun b ρ1 h1 => ?_)
    cases b with
    | false => exact h1
    | true =>
      replace h1 : SSat (f ρ1) (w.next fun ρ2 => ∃ m, m < n ∧ inv m ρ2) := h1
      rw [if_pos rfl]
      revert h1
      cases f ρ1 with
      | nx ρ2 => exact fun ⟨m, hm, h2⟩ => ssat_wh inv step k m ρ2 (by omega) h2
      | _ => intro h1; first | exact h1 | exact h1.elim
theorem ssat_while {t : EvT} {f : StF} (inv : Nat → AE → Prop) (n : Nat) (hn : n < 2 ^ 40) (h : inv n ρ) (step : ∀ n ρ, inv n ρ → Sat (t ρ) fun b ρ1 => if b then SSat (f ρ1) (w.next fun ρ2 => ∃ m, m < n ∧ inv m ρ2) else w.nx ρ1) : SSat (sWhile t f ρ) w :=
  ssat_wh inv step lid n ρ hn h
theorem sat_comp {own : List Nat} {tg : Tg} {tt : EvT} {el : EvE} {bs : Src} {P : List D → AE → Prop} (inv : List D → AE → List D → Prop)
    (step : ∀ d ds ρ acc, inv (d :: ds) ρ acc → stills bs ρ = true ∧ ∃ ρ1, bindT tg d ρ = some ρ1 ∧ Sat (tt ρ1) fun b ρ2 => if b then Sat (el ρ2) fun p ρ3 => inv ds (wipeA own ρ3) (acc ++ [p.1]) else inv ds (wipeA own ρ2) acc)
    (last : ∀ ρ acc, inv [] ρ acc → stills bs ρ = true ∧ P acc ρ) : ∀ (ds : List D) (ρ : AE) (acc : List D), inv ds ρ acc → Sat (compGo own tg tt el bs ds ρ acc) P
  | [], ρ, acc, h => by
    unfold compGo
    rw [if_pos (last ρ acc h).1]
    exact (last ρ acc h).2
  | d :: ds, ρ, acc, h => by
    obtain ⟨h1, ρ1, e, h2⟩ := step d ds ρ acc h
    unfold compGo
    rw [if_pos h1, e]
    refine Sat.bind (h2.nox.imp fun b ρ2 h3 => ?_)
    cases b with
    | true =>
      rw [if_pos rfl]
      exact Sat.bind ((Sat.nox h3).imp fun p ρ3 h4 => sat_comp inv step last ds _ _ h4)
    | false => exact sat_comp inv step last ds _ _ h3
/-! calls -/
theorem putOuts_one {i : Nat} {bx d : D} {outs : List D} {s : Slot} (hs : ρ[i]? = some s) : putOuts [(bx, some i), (d, none)] outs ρ = ρ.set i (s.re (outs.getD 0 .none)) := by
  apply List.ext_getElem?
  intro j
  unfold putOuts
  rw [List.getElem?_mapIdx]
  have hp : posOf [(bx, some i), (d, none)] j = if i = j then some 0 else none := by
    unfold posOf
    by_cases e : i = j
    · subst e; simp [List.findIdx?_cons]
    · simp [List.findIdx?_cons, e]
  rw [hp]
  by_cases e : i = j
  · subst e
    have hl : i < ρ.length := (List.getElem?_eq_some_iff.mp hs).1
    have hg : ρ[i] = s := by
      have := List.getElem?_eq_getElem hl
      rw [hs] at this; exact (Option.some.inj this).symm
    simp [hl, hg]
  · simp only [if_neg e, Option.map_id', List.getElem?_set_ne e]
theorem sat_call2 {sem : Fun} {i : Nat} {f : EvE} {P : D × Bool → AE → Prop} (h : (slotD ρ[i]?).isSome = true) (hf : Sat (f ρ) fun p ρ1 => ∃ s bx, ρ1[i]? = some s ∧ slotD (some s) = some bx ∧ FSat (sem [bx, p.1]) (fun d fl outs => P (d, fl) (ρ1.set i (s.re (outs.getD 0 .none)))) fun _ => False) :
    Sat (eCall sem [.ref i, .val f] ρ) P := by
  unfold eCall
  obtain ⟨b0, e0⟩ := Option.isSome_iff_exists.mp h
  refine Sat.bind ?_
  simp only [evArgs, e0]
  refine Sat.bind (Sat.bind (hf.imp fun p ρ1 ⟨s, bx, e1, e2, h2⟩ => ?_))
  refine Sat.bind ?_
  show Sat (if _ then _ else _) _
  have hp : refsOk [(b0, some i), (p.1, none)] ρ1 = true := by
    simp [refsOk, List.range_succ, posOf, List.findIdx?_cons, e1, e2]
  rw [if_pos hp]
  have hn : nowD [(b0, some i), (p.1, none)] ρ1 = [bx, p.1] := by
    simp [nowD, e1, e2]
  rw [hn]
  revert h2
  cases sem [bx, p.1] with
  | none => exact fun h => h.elim
  | some r => cases r with
    | exc c => exact fun h => h.elim
    | ret d fl outs =>
      intro h
      show P (d, fl) (putOuts [(b0, some i), (p.1, none)] outs ρ1)
      rw [putOuts_one (bx := b0) (d := p.1) e1]
      exact h
theorem evArgs_val {f : EvE} {r : List EvA} {P : List (D × Option Nat) → AE → Prop} (h : Sat (f ρ) fun p ρ1 => Sat (evArgs r ρ1) fun ps ρ2 => P ((p.1, none) :: ps) ρ2) : Sat (evArgs (.val f :: r) ρ) P := by
  unfold evArgs
  exact Sat.bind (h.imp fun p ρ1 h1 => Sat.bind h1)
theorem putOuts_none {ps : List (D × Option Nat)} {outs : List D} (h : ∀ p ∈ ps, p.2 = none) : putOuts ps outs ρ = ρ := by
  apply List.ext_getElem?
  intro j
  unfold putOuts
  rw [List.getElem?_mapIdx]
  have hp : posOf ps j = none := by
    unfold posOf
    rw [List.findIdx?_eq_none_iff]
    intro p hp
    rw [h p hp]; rfl
  rw [hp]
  simp
theorem sat_callV {sem : Fun} {as : List EvA} {P : D × Bool → AE → Prop} (h : Sat (evArgs as ρ) fun ps ρ1 => (∀ p ∈ ps, p.2 = none) ∧ FSat (sem (ps.map (·.1))) (fun d fl _ => P (d, fl) ρ1) fun _ => False) : Sat (eCall sem as ρ) P := by
  unfold eCall
  refine Sat.bind (h.imp fun ps ρ1 ⟨h1, h2⟩ => ?_)
  have hp : refsOk ps ρ1 = true := by
    unfold refsOk
    rw [List.all_eq_true]
    intro j hj
    have hj : j < ps.length := List.mem_range.mp hj
    have : ps[j]? = some ps[j] := List.getElem?_eq_getElem hj
    rw [this]
    have e := h1 ps[j] (List.getElem_mem hj)
    revert e
    cases ps[j] with
    | mk a b => intro e; cases e; rfl
  rw [if_pos hp]
  have hn : nowD ps ρ1 = ps.map (·.1) := by
    unfold nowD
    apply List.map_congr_left; intro p hp
    rw [h1 p hp]
  rw [hn]
  revert h2
  cases sem (ps.map (·.1)) with
  | none => exact fun h => h.elim
  | some r => cases r with
    | exc c => exact fun h => h.elim
    | ret d fl outs => intro h; show P (d, fl) (putOuts ps outs ρ1); rw [putOuts_none h1]; exact h
end
end Ow

namespace Ow
open PySem PyProof.Rows PySem.Spec L2 LamX
/-! ### zip of two lists, of two tuples -/
def zipD (a b : List D) : List D := List.zipWith (fun x y => .tuple [x, y]) a b
def zipOk : D → D → Option (List D)
  | .tuple a, .tuple b => some (zipD a b)
  | .list a, .list b => some (zipD a b)
  | _, _ => none
def iZip (f g : EvO) : EvI := fun ρ => (f ρ).bind fun p ρ1 => (g ρ1).bind fun q ρ2 => if still p.2 p.1 ρ2 then (match zipOk p.1 q.1 with | some ds => .ok (ds, [p, q]) ρ2 | none => .stuck) else .stuck
section
variable {Γ : Ctx} {X : Cx} {sc : Scope} {st : Str → Bool} {k : Nat} {W : WX}
theorem zipD_len (a b : List D) : (zipD a b).length = min a.length b.length := by simp [zipD]
theorem zipD_get {a b : List D} {i : Nat} (h : i < (zipD a b).length) : ∃ x y, a[i]? = some x ∧ b[i]? = some y ∧ (zipD a b)[i]? = some (.tuple [x, y]) := by
  rw [zipD_len] at h
  have h1 : i < a.length := by omega
  have h2 : i < b.length := by omega
  exact ⟨a[i], b[i], List.getElem?_eq_getElem h1, List.getElem?_eq_getElem h2, by
    rw [List.getElem?_eq_getElem (by rw [zipD_len]; omega)]
    simp [zipD]⟩
/-- a new pair of two things that stand there -/
theorem pair_new {F : Addr → Prop} {H : Hp} {d e : D} {x y : V} {T : Addr} (tr : ∀ a, F a → NTo H a) (hT : H T = none) (h1 : Γ.RV F H d x) (h2 : Γ.RV F H e y) : Ext H (upd H T (.tup [x, y])) ∧ Γ.RV F (upd H T (.tup [x, y])) (.tuple [d, e]) (.ref T) := by
  obtain ⟨q1, q2⟩ := Alc.newTup (b := false) (ds := [d, e]) (xs := [x, y]) tr hT (by show 2 ≤ sizeLine; decide) (RepL.cons h1 (RepL.cons h2 RepL.nil))
  rw [if_neg (by simp [isMut])] at q2
  exact ⟨q1, q2⟩
theorem rs_two {F : Addr → Prop} {H : Hp} {d e : D} {m n : Option Nat} {vs : List V} (h : Rdy Γ F H [(d, m), (e, n)] vs) : ∃ x y, vs = [x, y] ∧ RepR Γ F H d x ∧ RepR Γ F H e y := rs2 h
theorem walkD_zipT {a b : Addr} {ds es : List D} {m n : Option Nat} : WalkD Γ (RZ.ItzT Γ.K a b) (zipD ds es) [(.tuple ds, m), (.tuple es, n)] [.ref a, .ref b] := fun F H tr h => by
  obtain ⟨x, y, e, hx, hy⟩ := rs_two h
  cases e
  obtain ⟨a', xs, e, l1, z1, r1⟩ := rTup hx
  cases e
  obtain ⟨b', ys, e, l2, z2, r2⟩ := rTup hy
  cases e
  have n1 := r1.length
  have n2 := r2.length
  refine ⟨fun i hi => ?_, ⟨xs, ys, l1, l2, ?_⟩, fun i v H' hi hyd => ?_⟩
  · obtain ⟨d, e, e1, e2, _⟩ := zipD_get hi
    obtain ⟨u, hu, _⟩ := r1.get e1
    obtain ⟨w, hw, _⟩ := r2.get e2
    exact ⟨xs, ys, u, w, l1, l2, hu, hw⟩
  · rw [zipD_len, ← n1, ← n2]; omega
  · obtain ⟨T, u, w, rfl, hT, rfl, q1, q2⟩ := hyd
    obtain ⟨d, e, e1, e2, e3⟩ := zipD_get hi
    obtain ⟨u', hu, ru⟩ := r1.get e1
    obtain ⟨w', hw, rw'⟩ := r2.get e2
    have eu := q1 xs l1
    rw [hu] at eu; cases eu
    have ew := q2 ys l2
    rw [hw] at ew; cases ew
    exact ⟨_, e3, pair_new tr hT ru rw'⟩
theorem walkD_zipL {a b : Addr} {ds es : List D} {m n : Option Nat} : WalkD Γ (Itz Γ.K a b) (zipD ds es) [(.list ds, m), (.list es, n)] [.ref a, .ref b] := fun F H tr h => by
  obtain ⟨x, y, e, hx, hy⟩ := rs_two h
  cases e
  obtain ⟨a', xs, e, l1, z1, r1⟩ := rList hx
  cases e
  obtain ⟨b', ys, e, l2, z2, r2⟩ := rList hy
  cases e
  have n1 := r1.length
  have n2 := r2.length
  refine ⟨fun i hi => ?_, ⟨xs, ys, l1, l2, ?_⟩, fun i v H' hi hyd => ?_⟩
  · obtain ⟨d, e, e1, e2, _⟩ := zipD_get hi
    obtain ⟨u, hu, _⟩ := r1.get e1
    obtain ⟨w, hw, _⟩ := r2.get e2
    exact ⟨xs, ys, u, w, l1, l2, hu, hw⟩
  · rw [zipD_len, ← n1, ← n2]; omega
  · obtain ⟨T, u, w, rfl, hT, rfl, q1, q2⟩ := hyd
    obtain ⟨d, e, e1, e2, e3⟩ := zipD_get hi
    obtain ⟨u', hu, ru⟩ := r1.get e1
    obtain ⟨w', hw, rw'⟩ := r2.get e2
    have eu := q1 xs l1
    rw [hu] at eu; cases eu
    have ew := q2 ys l2
    rw [hw] at ew; cases ew
    exact ⟨_, e3, pair_new tr hT ru rw'⟩
theorem di_zip {e e2 : Expr} {f f2 : EvO} {elts : List Expr} {kk : Nat} {p pos tpos : Pos} (g : Gd Γ X sc st k) (hg : sc.names.lookup ("zip" : Str) = some .globalImplicit) (hm : Γ.mg ("zip" : Str) = none) (h : PE X e (tO Γ W f)) (h2 : PE X e2 (tO Γ W f2)) (hs : starEach [e, e2] X.env = [(false, eval e X.env), (false, eval e2 X.env)])
    (hs2 : starEach [e2] X.env = [(false, eval e2 X.env)]) : PI X (.Tuple elts kk tpos) (.Call (.Name "zip" p) [e, e2] [] pos) (tI Γ W (iZip f f2)) := by
  refine pi_imp (RZ.pi_zipA (by show X.env.scope.names.lookup _ = _; rw [g.scp]; exact hg) (by rw [g.mg]; exact hm) (pa_cons h (pa_cons h2 pa_nil (by rw [hs2]; rfl)) (by rw [hs, hs2])) (by rw [hs, hs2]) (by rw [hs2]; rfl)) fun σ H R ⟨F, ρ, G, S, O⟩ => ?_
  refine ⟨F, ρ, G, S, (Out.bind O).imp fun p ρ1 F1 H1 k1 G1 S1 O1 x hx sx => ?_⟩
  refine ⟨F1, ρ1, G1, S1, (Out.bind O1).imp fun q ρ2 F2 H2 k2 G2 S2 O2 y hy sy => ?_⟩
  by_cases hp : still p.2 p.1 ρ2 = true
  · rw [if_pos hp] at O2
    obtain ⟨d, b⟩ := p
    obtain ⟨d2, b2⟩ := q
    have hx2 := hx.mono k2
    have hr := S2.read hx2 hp
    have hr2 := S2.read hy sy
    have bs : RepBs Γ F2 H2 σ [(d, b), (d2, b2)] [x, y] := ⟨x, [y], rfl, hx2, y, [], rfl, hy, rfl⟩
    have ss : stills [(d, b), (d2, b2)] ρ2 = true := by simp only [stills, Bool.and_true, Bool.and_eq_true]; exact ⟨hp, sy⟩
    cases d with
    | list ds =>
      cases d2 with
      | list es =>
        obtain ⟨a1, xs, rfl, l1, z1, r1⟩ := rList hr
        obtain ⟨a2, ys, rfl, l2, z2, r2⟩ := rList hr2
        refine ⟨a1, a2, xs, ys, rfl, .inl ⟨by rw [g.K]; exact l1, by rw [g.K]; exact l2, O2 F2 H2 Fk.refl G2 S2 _ _ ?_ bs ss (by rw [g.K]; exact walkD_zipL)⟩⟩
        show (zipD ds es).length ≤ _
        rw [zipD_len, r1.length]; omega
      | _ => exact O2.elim
    | tuple ds =>
      cases d2 with
      | tuple es =>
        obtain ⟨a1, xs, rfl, l1, z1, r1⟩ := rTup hr
        obtain ⟨a2, ys, rfl, l2, z2, r2⟩ := rTup hr2
        refine ⟨a1, a2, xs, ys, rfl, .inr ⟨by rw [g.K]; exact l1, by rw [g.K]; exact l2, O2 F2 H2 Fk.refl G2 S2 _ _ ?_ bs ss (by rw [g.K]; exact walkD_zipT)⟩⟩
        show (zipD ds es).length ≤ _
        rw [zipD_len, r1.length]; omega
      | _ => exact O2.elim
    | _ => exact O2.elim
  · rw [if_neg hp] at O2
    exact O2.elim
end
end Ow

namespace Ow
open PySem PyProof.Rows PySem.Spec L2 LamX
/-! ### zip of two tuples, the pair under a name -/
/-- what a zip may know of the pair it gave last -/
def zipV (v : Value) : Prop := v = .none ∨ ∃ T : Nat, v = rawInt T
abbrev ZR (h : Heap) (z TI TO : Addr) (v : Value) (f : Bool) : Prop := h.get? z = some { cls := .type "zip", dict := none, data := .fields #[v, .bool f, .bool false, .ref TI, .ref TO], slots := #[] }
structure ZS (h : Heap) (z TI TO i1 i2 l1 l2 : Addr) (k : Nat) : Prop where
  zr : ∃ v f, zipV v ∧ ZR h z TI TO v f
  ti : IsPair h TI (.ref i1) (.ref i2)
  out : ∃ a b, IsPair h TO a b
  it1 : h.IsTupleIter i1 l1 k
  it2 : h.IsTupleIter i2 l2 k
section
variable {prog : Program} {w : World} {A : Around} {E : Value → Shared → Prop} {s : Shared} {z TI TO i1 i2 l1 l2 : Addr}
theorem alive_any {a : Addr} {Q : Option Obj → Shared → Prop} (h : Q (s.heap.get? a) s) : wpAny (model prog w) A (loadIfAlive a) Q E s := fun _ _ _ => h
/-- is the pair given last still held: either way the zip knows as much as before -/
theorem zip_asks {v : Value} {f : Bool} {Q : Bool → Shared → Prop} (hz : ZR s.heap z TI TO v f) (hv : zipV v) (q : ∀ b h1 v1 f1, zipV v1 → ZR h1 z TI TO v1 f1 → Heap.SameBut z s.heap h1 → Q b { s with heap := h1 }) :
    wpAny (model prog w) A (Builtin.SmallTypes.ownedTupleIsFree (.ref z)) Q E s := by
  delta Builtin.SmallTypes.ownedTupleIsFree
  rcases hv with rfl | ⟨T, rfl⟩
  · exact wpAny_bind (wpAny_field hz rfl (x := .none) rfl (wpAny_pure (q true s.heap .none f (.inl rfl) hz (Heap.SameBut.refl _ _))))
  · refine wpAny_bind (wpAny_field hz rfl (x := rawInt T) rfl (wpAny_bind (alive_any ?_)))
    cases s.heap.get? (Int.toNat (T : Int)) with
    | none =>
      simp only [Option.isNone_none, if_true]
      exact wpAny_pure (q true s.heap _ f (.inr ⟨T, rfl⟩) hz (Heap.SameBut.refl _ _))
    | some oT =>
      simp only [Option.isNone_some, Bool.false_eq_true, if_false]
      refine wpAny_bind (wpAny_field hz rfl (x := .bool f) rfl ?_)
      cases f with
      | true => exact wpAny_pure (q false s.heap _ true (.inr ⟨T, rfl⟩) hz (Heap.SameBut.refl _ _))
      | false => exact wpAny_bind (wpAny_setField_rec hz (by simp) fun h1 g1 e1 => wpAny_pure (q false h1 _ true (.inr ⟨T, rfl⟩) g1 e1))
/-- one turn: a new pair -/
theorem zip_gives {k : Nat} {xs ys : Array Value} {x y : Value} {Q : Value → Shared → Prop} (D : ZipApart z TI TO i1 i2 l1 l2) (Z : ZS s.heap z TI TO i1 i2 l1 l2 k) (t1 : s.heap.IsTuple l1 xs) (t2 : s.heap.IsTuple l2 ys) (hx : xs[k]? = some x) (hy : ys[k]? = some y)
    (q : ∀ h', ZS h' z TI TO i1 i2 l1 l2 (k + 1) → IsPair h' s.heap.objs.size x y → h'.objs.size = s.heap.objs.size + 1 → (∀ c o, c ≠ z → c ≠ TO → c ≠ i1 → c ≠ i2 → s.heap.get? c = some o → h'.get? c = some o) → Q (.ref s.heap.objs.size) { s with heap := h' }) : wpAny (model prog w) A (Builtin.«zip.__next__» ⟨[.ref z], []⟩) (fun fin s' => ∃ v, fin = .done (.ret v) ∧ Q v s') E s := by
  obtain ⟨⟨v, f, hv, hz⟩, hti, ⟨a, b, hto⟩, n1, n2⟩ := Z
  refine wpAny_bind (m := field (.ref z) 2) (wpAny_field hz rfl (x := .bool false) rfl ?_)
  refine wpAny_bind (m := field (.ref z) 3) (wpAny_field hz rfl (x := .ref TI) rfl ?_)
  refine wpAny_bind (wpAny_seqItems hti rfl (wpAny_bind (m := Builtin.SmallTypes.ownedTupleIsFree (.ref z)) (zip_asks hz hv fun fr h1 v1 f1 gv1 g1 e1 => ?_)))
  have m1 : h1.IsTupleIter i1 l1 k := n1.extBut e1.extBut D.i1z
  have m2 : h1.IsTupleIter i2 l2 k := n2.extBut e1.extBut D.i2z
  have u1 : h1.IsTuple l1 xs := t1.extBut e1.extBut D.l1z
  have u2 : h1.IsTuple l2 ys := t2.extBut e1.extBut D.l2z
  have o1 : IsPair h1 TO a b := e1.extBut _ _ D.TOz hto
  have p1 : IsPair h1 TI (.ref i1) (.ref i2) := e1.extBut _ _ D.TIz hti
  have k1 : ∀ c o, c ≠ z → s.heap.get? c = some o → h1.get? c = some o := fun c o c1 e => e1.extBut _ _ c1 e
  have sz1 : h1.objs.size = s.heap.objs.size := e1.1
  clear hz hti hto n1 n2 t1 t2 e1
  cases fr with
  | false =>
    simp only [Bool.false_eq_true, if_false]
    refine wpAny_bind ?_
    rw [← Array.forIn_toList]
    simp only [List.forIn_cons, List.forIn_nil]
    refine wpAny_bind (wpAny_bind (wpAny_holding (wpAny_bind (m := Builtin.SmallTypes.nextOf (.ref i1)) (RZ.nextOf_tuple_item (s := { s with heap := h1 }) m1 u1 hx fun h2 r1 e2 => wpAny_pure (wpAny_pure ?_)))))
    refine wpAny_bind (wpAny_bind (wpAny_holding (wpAny_bind (m := Builtin.SmallTypes.nextOf (.ref i2)) (RZ.nextOf_tuple_item (s := { s with heap := h2 }) (m2.extBut e2.extBut D.i12.symm) (u2.extBut e2.extBut D.l2i1) hy fun h3 r2 e3 => wpAny_pure (wpAny_pure (wpAny_pure ?_))))))
    refine wpAny_bind (m := newTuple [x, y]) (wpAny_newTuple (wpAny_pure ⟨_, rfl, ?_⟩))
    have sz3 : h3.objs.size = s.heap.objs.size := by rw [e3.1, e2.1, sz1]
    have up : ∀ c o, h3.get? c = some o → (h3.push { cls := .type "tuple", data := .seq #[x, y] }).get? c = some o := fun c o e => Heap.get?_push_of_some _ e
    have k3 : ∀ c o, c ≠ i1 → c ≠ i2 → h1.get? c = some o → h3.get? c = some o := fun c o c1 c2 e => e3.extBut _ _ c2 (e2.extBut _ _ c1 e)
    have np : IsPair (h3.push { cls := .type "tuple", data := .seq #[x, y] }) h3.objs.size x y := Heap.get?_push_size _ rfl
    have ns : (h3.push { cls := .type "tuple", data := .seq #[x, y] }).objs.size = h3.objs.size + 1 := Heap.size_push ..
    show Q (.ref h3.objs.size) _
    rw [sz3] at np ns ⊢
    refine q _ ⟨⟨v1, f1, gv1, up _ _ (k3 _ _ D.i1z.symm D.i2z.symm g1)⟩, up _ _ (k3 _ _ D.TIi1 D.TIi2 p1), ⟨a, b, up _ _ (k3 _ _ D.TOi1 D.TOi2 o1)⟩, ?_, ?_⟩ np ns fun c o c1 _ c3 c4 e => up _ _ (k3 _ _ c3 c4 (k1 _ _ c1 e))
    · exact (r1.extBut e3.extBut D.i12).at fun o e => up _ o e
    · exact r2.at fun o e => up _ o e
  | true =>
    simp only [if_true]
    refine wpAny_bind (wpAny_rule (wpAny_bind (wpAny_field g1 rfl (x := .ref TO) rfl (wpAny_bind (wpAny_setField_rec g1 (by simp) fun h2 g2 e2 => ?_)))))
    replace g2 : ZR h2 z TI TO .ellipsis f1 := g2
    refine wpAny_bind ?_
    simp only [List.zipIdx_cons, List.zipIdx_nil, List.forIn_cons, List.forIn_nil]
    refine wpAny_bind (wpAny_bind (wpAny_onRaise (wpAny_bind (m := Builtin.SmallTypes.nextOf (.ref i1)) (RZ.nextOf_tuple_item (s := { s with heap := h2 }) (m1.extBut e2.extBut D.i1z) (u1.extBut e2.extBut D.l1z) hx fun h3 r1 e3 => wpAny_pure ?_))))
    have o3 : IsPair h3 TO a b := e3.extBut _ _ D.TOi1 (e2.extBut _ _ D.TOz o1)
    refine wpAny_bind (wpAny_seqItems o3 rfl (wpAny_bind (wpAny_updateSeq_pair o3 fun h4 o4 e4 => wpAny_bind (wpAny_letGo (wpAny_pure ?_)))))
    replace o4 : IsPair h4 TO x b := o4
    refine wpAny_bind (wpAny_bind (wpAny_onRaise (wpAny_bind (m := Builtin.SmallTypes.nextOf (.ref i2)) (RZ.nextOf_tuple_item (s := { s with heap := h4 }) (((m2.extBut e2.extBut D.i2z).extBut e3.extBut D.i12.symm).extBut e4.extBut D.TOi2.symm) (((u2.extBut e2.extBut D.l2z).extBut e3.extBut D.l2i1).extBut e4.extBut D.l2TO) hy fun h5 r2 e5 => wpAny_pure ?_))))
    have o5 : IsPair h5 TO x b := e5.extBut _ _ D.TOi2 o4
    refine wpAny_bind (wpAny_seqItems o5 rfl (wpAny_bind (wpAny_updateSeq_pair o5 fun h6 o6 e6 => wpAny_bind (wpAny_letGo (wpAny_pure (wpAny_pure ?_))))))
    replace o6 : IsPair h6 TO x y := o6
    refine wpAny_bind (wpAny_seqItems o6 rfl (wpAny_bind (wpAny_newTuple ?_)))
    have sz6 : h6.objs.size = s.heap.objs.size := by rw [e6.1, e5.1, e4.1, e3.1, e2.1, sz1]
    have k6 : ∀ c o, c ≠ z → c ≠ TO → c ≠ i1 → c ≠ i2 → h1.get? c = some o → h6.get? c = some o := fun c o c1 c2 c3 c4 e => e6.extBut _ _ c2 (e5.extBut _ _ c4 (e4.extBut _ _ c2 (e3.extBut _ _ c3 (e2.extBut _ _ c1 e))))
    have g6 : ZR h6 z TI TO .ellipsis f1 := e6.extBut _ _ D.TOz.symm (e5.extBut _ _ D.i2z.symm (e4.extBut _ _ D.TOz.symm (e3.extBut _ _ D.i1z.symm g2)))
    have r16 : h6.IsTupleIter i1 l1 (k + 1) := ((r1.extBut e4.extBut D.TOi1.symm).extBut e5.extBut D.i12).extBut e6.extBut D.TOi1.symm
    have r26 : h6.IsTupleIter i2 l2 (k + 1) := r2.extBut e6.extBut D.TOi2.symm
    have zlt : z < h6.objs.size := Heap.lt_size g6
    refine wpAny_bind (m := Builtin.SmallTypes.ownedTupleHandOut (.ref z) (.ref h6.objs.size)) ?_
    delta Builtin.SmallTypes.ownedTupleHandOut
    have g7 : ZR (h6.push { cls := .type "tuple", data := .seq #[x, y] }) z TI TO .ellipsis f1 := Heap.get?_push_of_some _ g6
    refine wpAny_bind (wpAny_setField_rec g7 (by simp) fun h8 g8 e8 => ?_)
    replace g8 : ZR h8 z TI TO (rawInt h6.objs.size) f1 := g8
    refine wpAny_setField_rec g8 (by simp) fun h9 g9 e9 => wpAny_pure ⟨_, rfl, ?_⟩
    replace g9 : ZR h9 z TI TO (rawInt h6.objs.size) false := g9
    have up : ∀ c o, c ≠ z → h6.get? c = some o → h9.get? c = some o := fun c o c1 e => e9.extBut _ _ c1 (e8.extBut _ _ c1 (Heap.get?_push_of_some _ e))
    have np : IsPair h9 h6.objs.size x y := e9.extBut _ _ (Nat.ne_of_gt zlt) (e8.extBut _ _ (Nat.ne_of_gt zlt) (Heap.get?_push_size _ rfl))
    have ns : h9.objs.size = h6.objs.size + 1 := by rw [e9.1, e8.1, Heap.size_push]
    show Q (.ref h6.objs.size) _
    rw [sz6] at np ns g9 ⊢
    exact q h9 ⟨⟨_, false, .inr ⟨_, rfl⟩, g9⟩, up _ _ D.TIz (k6 _ _ D.TIz D.TITO D.TIi1 D.TIi2 p1), ⟨x, y, up _ _ D.TOz o6⟩, r16.at fun o e => up _ o D.i1z e, r26.at fun o e => up _ o D.i2z e⟩ np ns fun c o c1 c2 c3 c4 e => up _ _ c1 (k6 _ _ c1 c2 c3 c4 (k1 _ _ c1 e))
/-- no more turn -/
theorem zip_ends {k : Nat} {xs ys : Array Value} {Q : Fin → Shared → Prop} (calm : A.handled = none) (D : ZipApart z TI TO i1 i2 l1 l2) (Z : ZS s.heap z TI TO i1 i2 l1 l2 k) (t1 : s.heap.IsTuple l1 xs) (t2 : s.heap.IsTuple l2 ys) (he : xs[k]? = none ∨ ys[k]? = none)
    (q : ∀ h' e, (∀ c o, c ≠ z → c ≠ TO → c ≠ i1 → c ≠ i2 → s.heap.get? c = some o → h'.get? c = some o) → (∃ o, h'.get? e = some o ∧ o.cls = .type "StopIteration") → E (.ref e) { s with heap := h' }) : wpAny (model prog w) A (Builtin.«zip.__next__» ⟨[.ref z], []⟩) Q E s := by
  obtain ⟨⟨v, f, hv, hz⟩, hti, ⟨a, b, hto⟩, n1, n2⟩ := Z
  refine wpAny_bind (m := field (.ref z) 2) (wpAny_field hz rfl (x := .bool false) rfl ?_)
  refine wpAny_bind (m := field (.ref z) 3) (wpAny_field hz rfl (x := .ref TI) rfl ?_)
  refine wpAny_bind (wpAny_seqItems hti rfl (wpAny_bind (m := Builtin.SmallTypes.ownedTupleIsFree (.ref z)) (zip_asks hz hv fun fr h1 v1 f1 gv1 g1 e1 => ?_)))
  have m1 : h1.IsTupleIter i1 l1 k := n1.extBut e1.extBut D.i1z
  have m2 : h1.IsTupleIter i2 l2 k := n2.extBut e1.extBut D.i2z
  have u1 : h1.IsTuple l1 xs := t1.extBut e1.extBut D.l1z
  have u2 : h1.IsTuple l2 ys := t2.extBut e1.extBut D.l2z
  have o1 : IsPair h1 TO a b := e1.extBut _ _ D.TOz hto
  have k1 : ∀ c o, c ≠ z → s.heap.get? c = some o → h1.get? c = some o := fun c o c1 e => e1.extBut _ _ c1 e
  clear hz hti hto n1 n2 t1 t2 e1
  cases fr with
  | false =>
    simp only [Bool.false_eq_true, if_false]
    refine wpAny_bind ?_
    rw [← Array.forIn_toList]
    simp only [List.forIn_cons, List.forIn_nil]
    refine wpAny_bind (wpAny_bind (wpAny_holding (wpAny_bind (m := Builtin.SmallTypes.nextOf (.ref i1)) ?_)))
    cases hx : xs[k]? with
    | none => exact RZ.nextOf_tuple_end (s := { s with heap := h1 }) calm m1 u1 hx fun h2 e w2 he2 => q h2 e (fun c o c1 _ c3 _ x => w2 _ _ c3 (k1 _ _ c1 x)) he2
    | some x =>
      have hy : ys[k]? = none := he.resolve_left (by rw [hx]; simp)
      refine RZ.nextOf_tuple_item (s := { s with heap := h1 }) m1 u1 hx fun h2 r1 e2 => wpAny_pure (wpAny_pure ?_)
      refine wpAny_bind (wpAny_bind (wpAny_holding (wpAny_bind (m := Builtin.SmallTypes.nextOf (.ref i2)) ?_)))
      exact RZ.nextOf_tuple_end (s := { s with heap := h2 }) calm (m2.extBut e2.extBut D.i12.symm) (u2.extBut e2.extBut D.l2i1) hy fun h3 e w3 he3 => q h3 e (fun c o c1 _ c3 c4 x => w3 _ _ c4 (e2.extBut _ _ c3 (k1 _ _ c1 x))) he3
  | true =>
    simp only [if_true]
    refine wpAny_bind (wpAny_rule (wpAny_bind (wpAny_field g1 rfl (x := .ref TO) rfl (wpAny_bind (wpAny_setField_rec g1 (by simp) fun h2 g2 e2 => ?_)))))
    replace g2 : ZR h2 z TI TO .ellipsis f1 := g2
    refine wpAny_bind ?_
    simp only [List.zipIdx_cons, List.zipIdx_nil, List.forIn_cons, List.forIn_nil]
    -- the error: the zip's own mark is put back
    have back : ∀ (h3 : Heap) (e : Addr), ZR h3 z TI TO .ellipsis f1 → (∀ c o, c ≠ z → c ≠ TO → c ≠ i1 → c ≠ i2 → s.heap.get? c = some o → h3.get? c = some o) → (∃ o, h3.get? e = some o ∧ o.cls = .type "StopIteration") →
        wpAny (model prog w) A (setField (.ref z) 0 .none) (fun _ s' => E (.ref e) s') E { s with heap := h3 } := fun h3 e g3 k3 ⟨oe, ge, ce⟩ => by
      have ez : e ≠ z := fun x => by
        subst x
        have g3 : h3.get? e = some _ := g3
        rw [g3] at ge
        cases ge
        simp at ce
      exact wpAny_setField_rec g3 (by simp) fun h4 _ e4 => q h4 e (fun c o c1 c2 c3 c4 x => e4.extBut _ _ c1 (k3 c o c1 c2 c3 c4 x)) ⟨oe, e4.extBut _ _ ez ge, ce⟩
    refine wpAny_bind (wpAny_bind (wpAny_onRaise (wpAny_bind (m := Builtin.SmallTypes.nextOf (.ref i1)) ?_)))
    cases hx : xs[k]? with
    | none => exact RZ.nextOf_tuple_end (s := { s with heap := h2 }) calm (m1.extBut e2.extBut D.i1z) (u1.extBut e2.extBut D.l1z) hx fun h3 e w3 he3 => back h3 e (w3 _ _ D.i1z.symm g2) (fun c o c1 _ c3 _ x => w3 _ _ c3 (e2.extBut _ _ c1 (k1 _ _ c1 x))) he3
    | some x =>
      have hy : ys[k]? = none := he.resolve_left (by rw [hx]; simp)
      refine RZ.nextOf_tuple_item (s := { s with heap := h2 }) (m1.extBut e2.extBut D.i1z) (u1.extBut e2.extBut D.l1z) hx fun h3 r1 e3 => wpAny_pure ?_
      have o3 : IsPair h3 TO a b := e3.extBut _ _ D.TOi1 (e2.extBut _ _ D.TOz o1)
      refine wpAny_bind (wpAny_seqItems o3 rfl (wpAny_bind (wpAny_updateSeq_pair o3 fun h4 o4 e4 => wpAny_bind (wpAny_letGo (wpAny_pure ?_)))))
      have g4 : ZR h4 z TI TO .ellipsis f1 := e4.extBut _ _ D.TOz.symm (e3.extBut _ _ D.i1z.symm g2)
      refine wpAny_bind (wpAny_bind (wpAny_onRaise (wpAny_bind (m := Builtin.SmallTypes.nextOf (.ref i2)) ?_)))
      exact RZ.nextOf_tuple_end (s := { s with heap := h4 }) calm (((m2.extBut e2.extBut D.i2z).extBut e3.extBut D.i12.symm).extBut e4.extBut D.TOi2.symm) (((u2.extBut e2.extBut D.l2z).extBut e3.extBut D.l2i1).extBut e4.extBut D.l2TO) hy
        fun h5 e w5 he5 => back h5 e (w5 _ _ D.i2z.symm g4) (fun c o c1 c2 c3 c4 x => w5 _ _ c4 (e4.extBut _ _ c2 (e3.extBut _ _ c3 (e2.extBut _ _ c1 (k1 _ _ c1 x))))) he5
theorem zip_next {k : Nat} {xs ys : Array Value} {x y : Value} {Q : Option Value → Shared → Prop} (D : ZipApart z TI TO i1 i2 l1 l2) (Z : ZS s.heap z TI TO i1 i2 l1 l2 k) (t1 : s.heap.IsTuple l1 xs) (t2 : s.heap.IsTuple l2 ys) (hx : xs[k]? = some x) (hy : ys[k]? = some y)
    (q : ∀ h', ZS h' z TI TO i1 i2 l1 l2 (k + 1) → IsPair h' s.heap.objs.size x y → h'.objs.size = s.heap.objs.size + 1 → (∀ c o, c ≠ z → c ≠ TO → c ≠ i1 → c ≠ i2 → s.heap.get? c = some o → h'.get? c = some o) → Q (some (.ref s.heap.objs.size)) { s with heap := h' }) : wpAny (model prog w) A (pyNext (.ref z)) Q E s := by
  obtain ⟨v, f, _, hz⟩ := Z.zr
  have ty : s.TypeIs (.ref z) "zip" := ⟨_, hz, rfl⟩
  unfold pyNext
  refine wpAny_bind (wpAny_attempt (wpAny_callSpecial?_slot (name := Str.ofString "__next__") ty F.slot_zip_next (wpAny_call_entry F.slot_zip_next ty F.entry_zip_next ?_ (F.args_zip_next_1 _))))
  exact zip_gives D Z t1 t2 hx hy fun h' a1 a2 a3 a4 => wpAny_pure (q h' a1 a2 a3 a4)
theorem zip_done {k : Nat} {xs ys : Array Value} {Q : Option Value → Shared → Prop} (calm : A.handled = none) (D : ZipApart z TI TO i1 i2 l1 l2) (Z : ZS s.heap z TI TO i1 i2 l1 l2 k) (t1 : s.heap.IsTuple l1 xs) (t2 : s.heap.IsTuple l2 ys) (he : xs[k]? = none ∨ ys[k]? = none)
    (q : ∀ h', (∀ c o, c ≠ z → c ≠ TO → c ≠ i1 → c ≠ i2 → s.heap.get? c = some o → h'.get? c = some o) → Q none { s with heap := h' }) : wpAny (model prog w) A (pyNext (.ref z)) Q E s := by
  obtain ⟨v, f, _, hz⟩ := Z.zr
  have ty : s.TypeIs (.ref z) "zip" := ⟨_, hz, rfl⟩
  unfold pyNext
  refine wpAny_bind (wpAny_attempt (wpAny_callSpecial?_slot (name := Str.ofString "__next__") ty F.slot_zip_next (wpAny_call_entry F.slot_zip_next ty F.entry_zip_next ?_ (F.args_zip_next_1 _))))
  refine zip_ends (A := A.in1) calm D Z t1 t2 he fun h' e k' ⟨o, ho, hc⟩ => ?_
  exact wpAny_bind (wpAny_isInstance (T := "StopIteration") (b := true) ⟨o, ho, hc⟩ isSubtype_stop (wpAny_pure (q _ k')))
end
/-- the turns of it -/
theorem turn_zipN {P : Program} {w : World} {K : PySem.W.Frag} {n : Str} {np : Pos} {a b z TI TO i1 i2 : Addr} (D : ZipApart z TI TO i1 i2 a b) :
    Turn P w K (.Name n np) (RZ.ItzT K a b) [z, TI, TO, i1, i2] z (fun i h => ZS h z TI TO i1 i2 a b i) where
  mem := by simp
  obj := fun i h Z c hc => by
    obtain ⟨⟨v, f, _, hz⟩, hti, ⟨x, y, hto⟩, ⟨o1, e1, _, d1⟩, ⟨o2, e2, _, d2⟩⟩ := Z
    simp only [List.mem_cons, List.not_mem_nil, or_false] at hc
    rcases hc with rfl | rfl | rfl | rfl | rfl
    · exact ⟨_, hz, fun v q => nomatch q⟩
    · exact ⟨_, hti, fun v q => nomatch q⟩
    · exact ⟨_, hto, fun v q => nomatch q⟩
    · exact ⟨o1, e1, fun v q => by rw [d1] at q; cases q⟩
    · exact ⟨o2, e2, fun v q => by rw [d2] at q; cases q⟩
  keep := fun i h h' Z k => by
    obtain ⟨⟨v, f, gv, hz⟩, hti, ⟨x, y, hto⟩, h1, h2⟩ := Z
    exact ⟨⟨v, f, gv, k z (by simp) _ hz⟩, k TI (by simp) _ hti, ⟨x, y, k TO (by simp) _ hto⟩, h1.at fun o q => k i1 (by simp) o q, h2.at fun o q => k i2 (by simp) o q⟩
  item := by
    intro X hP hw hK hc i pins s σ H E I hf Z hg
    subst hP hw hK
    obtain ⟨xs, ys, x, y, tqa, tqb, hx, hy⟩ := hg
    obtain ⟨us, r1, p1, _⟩ := I.tuple tqa
    obtain ⟨ws, r2, p2, _⟩ := I.tuple tqb
    obtain ⟨u, hu, ru⟩ := r1.get hx
    obtain ⟨u2, hu2, ru2⟩ := r2.get hy
    have inn : ∀ c ∈ [z, TI, TO, i1, i2], c < s.heap.objs.size := fun c hcm => by
      obtain ⟨⟨v, f, _, hz⟩, hti, ⟨_, _, hto⟩, ⟨_, e1, _⟩, ⟨_, e2, _⟩⟩ := Z
      simp only [List.mem_cons, List.not_mem_nil, or_false] at hcm
      rcases hcm with rfl | rfl | rfl | rfl | rfl
      · exact Heap.lt_size hz
      · exact Heap.lt_size hti
      · exact Heap.lt_size hto
      · exact Heap.lt_size e1
      · exact Heap.lt_size e2
    refine zip_next D Z p1 p2 (x := u) (y := u2) (by simpa using hu) (by simpa using hu2) fun h' Z' hT hsz hk => ?_
    have new : ObjOk X.prog X.w (upd H s.heap.objs.size (.tup [x, y])) h' s.heap.objs.size (.tup [x, y]) :=
      ⟨by show 2 ≤ sizeLine; decide, [u, u2], .cons ru (.cons ru2 .nil), ⟨_, hT, rfl, _, rfl⟩⟩
    have I1 : Inv X pins σ (upd H s.heap.objs.size (.tup [x, y])) { s with heap := h' } :=
      I.turnedNew (t' := s.toks) (ch := [z, TI, TO, i1, i2]) (fun c o hb q => hk c o (fun q' => hb (by simp [q'])) (fun q' => hb (by simp [q'])) (fun q' => hb (by simp [q'])) (fun q' => hb (by simp [q'])) q) hf (Nat.le_refl _) new
    refine ⟨_, rfl, wpAny_pure ⟨.ref s.heap.objs.size, _, I1, rfl, ⟨_, x, y, rfl, I.hok.fresh (Nat.le_refl _), rfl, fun l hl => by rw [I.tuple_inj hl tqa]; exact hx, fun l hl => by rw [I.tuple_inj hl tqb]; exact hy⟩, Z', fun c hcm => ?_⟩⟩
    rw [upd_ne (Nat.ne_of_lt (inn c hcm))]
    exact (hf c hcm).1
  done := by
    intro X hP hw hK hc i pins s σ H E I hf Z hg
    subst hP hw hK
    obtain ⟨xs, ys, tqa, tqb, hend⟩ := hg
    obtain ⟨us, r1, p1, _⟩ := I.tuple tqa
    obtain ⟨ws, r2, p2, _⟩ := I.tuple tqb
    have n1 := r1.length
    have n2 := r2.length
    refine zip_done (I.ok.hd hc) D Z p1 p2 ?_ fun h' hk => ⟨rfl, I.turnedL (t' := s.toks) (ch := [z, TI, TO, i1, i2]) (fun c o hb q => hk c o (fun q' => hb (by simp [q'])) (fun q' => hb (by simp [q'])) (fun q' => hb (by simp [q'])) (fun q' => hb (by simp [q'])) q) hf⟩
    rcases hend with q | q
    · exact .inl (by simp; omega)
    · exact .inr (by simp; omega)
  self := fun A i s Q E Z h => by
    obtain ⟨v, f, _, hz⟩ := Z.zr
    have ty : s.TypeIs (.ref z) "zip" := ⟨_, hz, rfl⟩
    refine wpAny_pyIter_slot ty F.slot_zip_iter (wpAny_call_entry F.slot_zip_iter ty F.entry_zip_iter ?_ (F.args_zip_iter_1 _))
    change wpAny (model P w) _ (ret (.ref z)) _ _ s
    exact wpAny_pure ⟨_, rfl, "zip", _, ty, F.slot_zip_next.lookup, h⟩
def iZipN (K : PySem.W.Frag) (ta : TA) : TI := fun σ H R => ta σ H fun vs H1 => ∃ a b xs ys, vs = [.ref a, .ref b] ∧ SqT K H1 a xs ∧ SqT K H1 b ys ∧ R (RZ.ItzT K a b) H1
theorem pi_zipN {X : Cx} {e e2 : Expr} {ta : TA} {p pos np : Pos} {n : Str} (hg : Gl X "zip") (hm : X.mg "zip" = none) (ha : PA X [e, e2] ta) (hs : starEach [e, e2] X.env = (false, eval e X.env) :: starEach [e2] X.env) (hpl : (backTo pos (starEach [e2] X.env)).any (·.1) = false) :
    PI X (.Name n np) (.Call (.Name "zip" p) [e, e2] [] pos) (iZipN X.K ta) := by
  refine ⟨fun pins s σ H R I h => Call_ (ld_blt I hg hm PyProof.Rows.boot_zip (PyProof.Rows.callWith_type1 (thn (ha.run pos pins s σ H _ I h) ?_) hs hpl))⟩
  rintro us s1 ⟨vs, H1, I1, r1, a, b, xs, ys, rfl, hx, hy, q⟩
  match us, r1 with
  | [u1, u2], .cons ra (.cons rb .nil) =>
    cases ra
    cases rb
    obtain ⟨ws1, _, p1, _⟩ := I1.tuple hx
    obtain ⟨ws2, _, p2, _⟩ := I1.tuple hy
    have p1 : s1.heap.IsTuple a ws1.toArray := p1
    have p2 : s1.heap.IsTuple b ws2.toArray := p2
    obtain ⟨o1, g1, _⟩ := id p1
    obtain ⟨o2, g2, _⟩ := id p2
    refine RZ.call_zipT p1 p2 fun h' hz hti hto h1 h2 hsz hk => wpAny_pyIter_zip hz ⟨s1.heap.objs.size + 4, [s1.heap.objs.size + 4, s1.heap.objs.size + 2, s1.heap.objs.size + 3, s1.heap.objs.size, s1.heap.objs.size + 1], _, _, H1, rfl, I1.kept (t' := s1.toks) hk,
      turn_zipN (PySem.W.ktu_apart s1.heap.objs.size a b (Heap.lt_size g1) (Heap.lt_size g2)), ⟨⟨.none, false, .inl rfl, hz⟩, hti, ⟨_, _, hto⟩, h1, h2⟩, fun c hc => ?_, q⟩
    have le : s1.heap.objs.size ≤ c := by
      simp only [List.mem_cons, List.not_mem_nil, or_false] at hc
      rcases hc with rfl | rfl | rfl | rfl | rfl <;> first | exact Nat.le_add_right _ _ | exact Nat.le_refl _
    exact I1.fpOk le (I1.hok.fresh le)
def iZipT (f g : EvO) : EvI := fun ρ => (f ρ).bind fun p ρ1 => (g ρ1).bind fun q ρ2 => if still p.2 p.1 ρ2 then (match p.1, q.1 with | .tuple a, .tuple b => .ok (zipD a b, [p, q]) ρ2 | _, _ => .stuck) else .stuck
theorem di_zipN {Γ : Ctx} {X : Cx} {sc : Scope} {st : Str → Bool} {k : Nat} {W : WX} {e e2 : Expr} {f f2 : EvO} {n : Str} {p pos np : Pos} (g : Gd Γ X sc st k) (hg : sc.names.lookup ("zip" : Str) = some .globalImplicit) (hm : Γ.mg ("zip" : Str) = none) (h : PE X e (tO Γ W f)) (h2 : PE X e2 (tO Γ W f2)) (hs : starEach [e, e2] X.env = [(false, eval e X.env), (false, eval e2 X.env)])
    (hs2 : starEach [e2] X.env = [(false, eval e2 X.env)]) : PI X (.Name n np) (.Call (.Name "zip" p) [e, e2] [] pos) (tI Γ W (iZipT f f2)) := by
  refine pi_imp (pi_zipN (by show X.env.scope.names.lookup _ = _; rw [g.scp]; exact hg) (by rw [g.mg]; exact hm) (pa_cons h (pa_cons h2 pa_nil (by rw [hs2]; rfl)) (by rw [hs, hs2])) (by rw [hs, hs2]) (by rw [hs2]; rfl)) fun σ H R ⟨F, ρ, G, S, O⟩ => ?_
  refine ⟨F, ρ, G, S, (Out.bind O).imp fun p ρ1 F1 H1 k1 G1 S1 O1 x hx sx => ⟨F1, ρ1, G1, S1, (Out.bind O1).imp fun q ρ2 F2 H2 k2 G2 S2 O2 y hy sy => ?_⟩⟩
  by_cases hp : still p.2 p.1 ρ2 = true
  · rw [if_pos hp] at O2
    obtain ⟨d, b⟩ := p
    obtain ⟨d2, b2⟩ := q
    have hx2 := hx.mono k2
    cases d with
    | tuple ds =>
      cases d2 with
      | tuple es =>
        obtain ⟨a1, xs, rfl, l1, z1, r1⟩ := rTup (S2.read hx2 hp)
        obtain ⟨a2, ys, rfl, l2, z2, r2⟩ := rTup (S2.read hy sy)
        refine ⟨a1, a2, xs, ys, rfl, by rw [g.K]; exact l1, by rw [g.K]; exact l2, O2 F2 H2 Fk.refl G2 S2 _ [.ref a1, .ref a2] ?_ ⟨_, [_], rfl, hx2, _, [], rfl, hy, rfl⟩ (by simp only [stills, Bool.and_true, Bool.and_eq_true]; exact ⟨hp, sy⟩) (by rw [g.K]; exact walkD_zipT)⟩
        show (zipD ds es).length ≤ _
        rw [zipD_len, r1.length]; omega
      | _ => exact O2.elim
    | _ => exact O2.elim
  · rw [if_neg hp] at O2
    exact O2.elim
end Ow

namespace Ow
open PySem PyProof.Rows PySem.Spec L2 LamX
/-! ### comprehensions of two clauses -/
def compGo2 (own own1 : List Nat) (tg : Tg) (tt : EvT) (it1 : EvI) (tg1 : Tg) (tt1 : EvT) (el : EvE) (bs : Src) : List D → AE → List D → Res (List D)
  | [], ρ, acc => if stills bs ρ then .ok acc ρ else .stuck
  | d :: ds, ρ, acc => if stills bs ρ then (match bindT tg d ρ with
      | some ρ1 => (nox (tt ρ1)).bind fun b ρ2 => if b then (nox (it1 ρ2)).bind fun p ρ3 => (if acc.length + p.1.length ≤ sizeLine then compGo own1 tg1 tt1 el p.2 p.1 (wipeA own1 ρ3) acc else .stuck).bind fun acc' ρ4 => compGo2 own own1 tg tt it1 tg1 tt1 el bs ds (wipeA own ρ4) acc' else compGo2 own own1 tg tt it1 tg1 tt1 el bs ds (wipeA own ρ2) acc
      | none => .stuck) else .stuck
def eComp2 (own own1 : List Nat) (it : EvI) (tg : Tg) (tt : EvT) (it1 : EvI) (tg1 : Tg) (tt1 : EvT) (el : EvE) : EvE := fun ρ => (it ρ).bind fun p ρ0 =>
  (compGo2 own own1 tg tt it1 tg1 tt1 el p.2 p.1 (wipeA own ρ0) []).bind fun acc ρ' => .ok (.list acc, true) (restA own ρ0 ρ')
section
variable {Γ : Ctx} {W : WX}
/-- between two turns of the inner clause: a0 items stood there at its start -/
structure TInv (Γ : Ctx) (F1 : Addr → Prop) (H1 : Hp) (D : Addr) (τ : L2.St) (vs : List Nat) (a0 : Nat) (R0 : Res (List Ow.D)) (go : List Ow.D → AE → List Ow.D → Res (List Ow.D)) (ds : List Ow.D) (i : Nat) (H : Hp) : Prop where
  ex : ∃ F ρ acc xs, GInv Γ F H ∧ RepS Γ F H τ ρ ∧ H D = some (.lst xs) ∧ Γ.RL F H acc xs ∧ ¬ F D ∧ (∀ i, ¬ OwnAt τ ρ i D) ∧ acc.length ≤ a0 + i ∧ Fk F1 H1 F H ∧ (∀ i s, i ∈ vs → ρ[i]? = some s → s = .non) ∧ R0 = go (ds.drop i) ρ acc
theorem turns_ok {vs : List Nat} {t : Tg} {tt : EvT} {el : EvE} {σ : L2.St} {F1 : Addr → Prop} {H1 : Hp} {D : Addr} {a0 : Nat} {R0 : Res (List Ow.D)} {ds : List Ow.D} {bs : Src} {us : List V} {J : It} {Nxt : Hp → Prop} (hsl : ∀ i ∈ t.slots, i ∈ vs) (hW : WalkD Γ J ds bs us) (hB : RepBs Γ F1 H1 σ bs us) (notStuck : R0 ≠ .stuck) (h0D : Γ.H0 D = none) (nF0D : ¬ Γ.F0 D) (iD : ∀ i, Γ.ino i ≠ some D) (few : a0 + ds.length ≤ sizeLine)
    (fin : ∀ F H ρ acc xs, GInv Γ F H → RepS Γ F H (L2.wipe σ vs) ρ → H D = some (.lst xs) → Γ.RL F H acc xs → ¬ F D → (∀ i, ¬ OwnAt (L2.wipe σ vs) ρ i D) → acc.length ≤ a0 + ds.length → Fk F1 H1 F H → R0 = .ok acc ρ → Nxt H) :
    ∀ i m H, (i ≤ ds.length ∧ m = ds.length - i ∧ TInv Γ F1 H1 D (L2.wipe σ vs) vs a0 R0 (compGo vs t tt el bs) ds i H) →
      (J.stop i H ∧ Nxt H) ∨ (J.go i H ∧ ∃ Nx : Hp → Prop, (∀ H', Nx H' → ∃ m', m' < m ∧ (i + 1 ≤ ds.length ∧ m' = ds.length - (i + 1) ∧ TInv Γ F1 H1 D (L2.wipe σ vs) vs a0 R0 (compGo vs t tt el bs) ds (i + 1) H')) ∧ ∀ x H', J.yld i H x H' → gComp Γ t x (L2.wipe σ vs) H' fun σ2 H2 => L2.wipe σ2 vs = L2.wipe σ vs ∧ ttComp Γ tt σ2 H2 fun b H3 =>
        if b = true then teComp Γ el σ2 H3 fun y H4 => ∃ acc, H4 D = some (.lst acc) ∧ acc.length < sizeLine ∧ Nx (upd H4 D (.lst (acc ++ [y]))) else Nx H3) := by
  rintro i m H2 ⟨hi, rfl, ⟨F2, ρ2, acc, xs, G2, S2, hD2, hacc, nF2, nO2, hla, k2, hw2, hR2⟩⟩
  have hst : stills bs ρ2 = true := by
    cases hb : stills bs ρ2 with
    | true => rfl
    | false =>
      exfalso
      refine notStuck (hR2.trans ?_)
      cases hdr : ds.drop i with
      | nil => simp only [compGo, hb]; rfl
      | cons d r => simp only [compGo, hb]; rfl
  have hB2 : RepBs Γ F2 H2 (L2.wipe σ vs) bs us := RepBs.wiped hw2 (hB.mono k2) hst
  have rdy := S2.reads hB2 hst
  obtain ⟨w1, w2, w3⟩ := hW F2 H2 G2.tr rdy
  by_cases hend : i = ds.length
  · left
    subst hend
    refine ⟨w2, ?_⟩
    rw [List.drop_length] at hR2
    have hR3 : R0 = .ok acc ρ2 := by
      rw [hR2]
      simp only [compGo, hst]
      rfl
    exact fin F2 H2 ρ2 acc xs G2 S2 hD2 hacc nF2 nO2 hla k2 hR3
  · right
    have hlt : i < ds.length := by omega
    refine ⟨w1 i hlt, fun H' => TInv Γ F1 H1 D (L2.wipe σ vs) vs a0 R0 (compGo vs t tt el bs) ds (i + 1) H', fun H' c => ⟨ds.length - (i + 1), by omega, by omega, rfl, c⟩, fun x H3 hy => ?_⟩
    obtain ⟨d, hd, e3, hx⟩ := w3 i x H3 hlt hy
    rw [drop_cons hd] at hR2
    simp only [compGo, hst, if_true] at hR2
    cases hb : bindT t d ρ2 with
    | none => rw [hb] at hR2; exact absurd hR2 notStuck
    | some ρ3 =>
      rw [hb] at hR2
      simp only at hR2
      have hwipe : L2.wipe (L2.wipe σ vs) vs = L2.wipe σ vs := wipe_eq vs σ _ (wipe_length _ _) fun j hj => wipe_out hj
      have G3 := G2.ext e3
      have S3 := S2.ext G2.tr e3
      have hD3 : H3 D = some (.lst xs) := e3 D _ hD2
      refine ⟨(D, .lst xs), F2, ρ2, d, ρ3, G3.into hD3 h0D nF2 (fun _ e => HO.noConfusion e), S3.into nO2, hx, hb, fun σ4 h4 S4 => ?_⟩
      have hw4 : L2.wipe σ4 vs = L2.wipe σ vs := by
        refine (wipe_eq vs (L2.wipe σ vs) σ4 ?_ fun j hj => h4 j fun hj' => hj (hsl j hj')).trans hwipe
        rw [← S4.len, ← S2.len]
        exact bind_len _ _ _ _ hb
      refine ⟨hw4, ⟨(D, .lst xs), F2, ρ3, G3.into hD3 h0D nF2 (fun _ e => HO.noConfusion e), S4, Out.nox (W' := W0) ?_⟩⟩
      cases htt : nox (tt ρ3) with
      | stuck => rw [htt] at hR2; exact absurd hR2 notStuck
      | exc c => exact absurd htt nox_exc
      | ok b ρ4 =>
        rw [htt] at hR2
        simp only [Res.bind] at hR2
        intro F5 H5 k5 G5 S5
        cases b with
        | false =>
          rw [if_neg (by simp)] at hR2 ⊢
          obtain ⟨G6, nF6, hD6⟩ := G5.outof h0D nF0D iD (by intro ps e; cases e)
          obtain ⟨S6, nO6⟩ := S5.outof iD
          refine ⟨F5, wipeA vs ρ4, acc, xs, G6, ?_, hD6, RepL.mono k5 _ _ (RepL.mono (Fk.ext G2.tr e3) _ _ hacc), nF6, fun j o => ?_, by omega, (k2.trans (Fk.ext G2.tr e3)).trans k5, fun j s hj e => wipeA_at vs ρ4 j s hj e, hR2⟩
          · rw [← hw4]; exact S6.wipe vs
          · rw [← hw4] at o; exact nO6 j o.unwipe
        | true =>
          rw [if_pos rfl] at hR2 ⊢
          refine ⟨(D, .lst xs), F5, ρ4, G5, S5, Out.nox (W' := W0) ?_⟩
          cases hel : nox (el ρ4) with
          | stuck => rw [hel] at hR2; exact absurd hR2 notStuck
          | exc c => exact absurd hel nox_exc
          | ok q ρ5 =>
            rw [hel] at hR2
            simp only [Res.bind] at hR2
            intro F6 H6 k6 G6 S6 y hy6
            obtain ⟨F7, k7, G7, S7, r7⟩ := hy6.froze G6 S6
            obtain ⟨G8, nF8, hD8⟩ := G7.outof h0D nF0D iD (by intro ps e; cases e)
            obtain ⟨S8, nO8⟩ := S7.outof iD
            have kk : Fk F2 H2 F7 H6 := (((Fk.ext G2.tr e3).trans k5).trans k6).trans k7
            have hacc8 : Γ.RL F7 H6 acc xs := RepL.mono kk _ _ hacc
            have hl8 : acc.length = xs.length := hacc.length
            refine ⟨xs, hD8, by omega, ?_⟩
            have pk : Fk F7 H6 F7 (upd H6 D (.lst (xs ++ [y]))) := Fk.put nF8 hD8 soft_lst
            refine ⟨F7, wipeA vs ρ5, acc ++ [q.1], xs ++ [y], G8.put nF8 (.inl h0D) hD8 soft_lst (fun _ e => HO.noConfusion e), ?_, upd_same, RepL.append (RepL.mono pk _ _ hacc8) (RepL.cons (RepV.mono pk _ _ r7) RepL.nil), nF8, fun j o => ?_, by simp only [List.length_append, List.length_cons, List.length_nil]; omega, (k2.trans kk).trans pk, fun j s hj e => wipeA_at vs ρ5 j s hj e, hR2⟩
            · rw [← hw4]
              exact (S8.mono pk fun i a o => ⟨upd_ne fun e => nO8 i (e ▸ o), (S8.at_ o).1⟩).wipe vs
            · rw [← hw4] at o; exact nO8 j o.unwipe
def iComp (Γ : Ctx) (it : EvI) : TI := fun σ H R => ∃ z : Addr × HO, tI (Γ.apart z.1 z.2) W0 it σ H R
theorem compGo2_len {own own1 : List Nat} {tg tg1 : Tg} {tt tt1 : EvT} {it1 : EvI} {el : EvE} {bs : Src} : ∀ {ds : List Ow.D} {ρ ρ' : AE} {acc out : List Ow.D}, acc.length ≤ sizeLine → compGo2 own own1 tg tt it1 tg1 tt1 el bs ds ρ acc = .ok out ρ' → out.length ≤ sizeLine
  | [], ρ, ρ', acc, out, h0, h => by
    simp only [compGo2] at h
    split at h
    · cases h; exact h0
    · cases h
  | d :: ds, ρ, ρ', acc, out, h0, h => by
    simp only [compGo2] at h
    split at h
    · split at h
      · cases ht : nox (tt _) with
        | ok b ρ2 =>
          rw [ht] at h
          simp only [Res.bind] at h
          split at h
          · cases he : nox (it1 ρ2) with
            | ok p ρ3 =>
              rw [he] at h
              simp only [] at h
              by_cases hf : acc.length + p.1.length ≤ sizeLine
              · rw [if_pos hf] at h
                cases hg : compGo own1 tg1 tt1 el p.2 p.1 (wipeA own1 ρ3) acc with
                | ok a4 ρ4 =>
                  rw [hg] at h
                  exact compGo2_len (Nat.le_trans (compGo_len hg) hf) h
                | exc c => rw [hg] at h; cases h
                | stuck => rw [hg] at h; cases h
              · rw [if_neg hf] at h; cases h
            | exc c => rw [he] at h; cases h
            | stuck => rw [he] at h; cases h
          · exact compGo2_len h0 h
        | exc c => rw [ht] at h; cases h
        | stuck => rw [ht] at h; cases h
      · cases h
    · cases h
theorem RepBs.unapart {p : Addr} {o : HO} {F : Addr → Prop} {H : Hp} {σ : L2.St} : ∀ {bs : Src} {us : List V}, RepBs (Γ.apart p o) F H σ bs us → RepBs Γ F H σ bs us
  | [], _, h => h
  | q :: bs, us, h => by
    obtain ⟨v, us', e, r, t⟩ := h
    exact ⟨v, us', e, r, RepBs.unapart t⟩
theorem RepRs.inapart {p : Addr} {o : HO} {F : Addr → Prop} {H : Hp} : ∀ {ds : List Ow.D} {us : List V}, RepRs Γ F H ds us → RepRs (Γ.apart p o) F H ds us
  | [], _, h => h
  | d :: ds, us, h => by
    obtain ⟨v, us', e, r, t⟩ := h
    refine ⟨v, us', e, ?_, RepRs.inapart t⟩
    cases d <;> exact r
theorem WalkD.unapart {p : Addr} {o : HO} {J : It} {ds : List Ow.D} {bs : Src} {us : List V} (h : WalkD (Γ.apart p o) J ds bs us) : WalkD Γ J ds bs us := fun F H tr r => h F H tr (RepRs.inapart r)
/-- between two turns of the outer clause -/
structure UInv (Γ : Ctx) (F1 : Addr → Prop) (H1 : Hp) (D : Addr) (τ : L2.St) (vs : List Nat) (R0 : Res (List Ow.D)) (go : List Ow.D → AE → List Ow.D → Res (List Ow.D)) (ds : List Ow.D) (i : Nat) (H : Hp) : Prop where
  ex : ∃ F ρ acc xs, GInv Γ F H ∧ RepS Γ F H τ ρ ∧ H D = some (.lst xs) ∧ Γ.RL F H acc xs ∧ ¬ F D ∧ (∀ i, ¬ OwnAt τ ρ i D) ∧ acc.length ≤ sizeLine ∧ Fk F1 H1 F H ∧ (∀ i s, i ∈ vs → ρ[i]? = some s → s = .non) ∧ R0 = go (ds.drop i) ρ acc
theorem comp2_imp {vs vs1 : List Nat} {it it1 : EvI} {t t1 : Tg} {tt tt1 : EvT} {el : EvE} (hsl : ∀ i ∈ t.slots, i ∈ vs) (hsl1 : ∀ i ∈ t1.slots, i ∈ vs1) (hsub : ∀ i ∈ vs1, i ∈ vs) :
    ∀ σ H (Q : VK), tD Γ W (eComp2 vs vs1 it t tt it1 t1 tt1 el) σ H Q → tLc2 (tI Γ W it) (gComp Γ t) (ttComp Γ tt) (iComp Γ it1) (gComp Γ t1) (ttComp Γ tt1) (teComp Γ el) vs vs1 σ H Q := by
  intro σ H Q ⟨F, ρ, G, S, O⟩
  refine ⟨F, ρ, G, S, (Out.bind O).imp fun p ρ0 F1 H1 k1 G1 S1 O1 J us hlen hB hst0 hW D hD => ?_⟩
  obtain ⟨ds, bs⟩ := p
  simp only at O1 hlen hB hst0 hW
  generalize hR : compGo2 vs vs1 t tt it1 t1 tt1 el bs ds (wipeA vs ρ0) [] = R0 at O1
  have notStuck : R0 ≠ .stuck := fun e => by rw [e] at O1; exact O1.elim
  obtain ⟨nFD, h0D⟩ := G1.fresh hD
  have nF0D : ¬ Γ.F0 D := fun f => nFD (G1.f0 D f)
  have iD : ∀ i, Γ.ino i ≠ some D := fun i e => G1.io i D e h0D
  have eD : Ext H1 (upd H1 D (.lst [])) := Ext.upd hD
  have start : UInv Γ F1 H1 D (L2.wipe σ vs) vs R0 (compGo2 vs vs1 t tt it1 t1 tt1 el bs) ds 0 (upd H1 D (.lst [])) :=
    ⟨F1, wipeA vs ρ0, [], [], G1.ext eD, (S1.ext G1.tr eD).wipe vs, upd_same, RepL.nil, nFD, fun i o => ((S1.wipe vs).at_ o).2.ne hD, Nat.zero_le _, Fk.ext G1.tr eD, fun i s hi e => wipeA_at vs ρ0 i s hi e, hR.symm⟩
  refine ⟨fun i m H => i ≤ ds.length ∧ m = ds.length - i ∧ UInv Γ F1 H1 D (L2.wipe σ vs) vs R0 (compGo2 vs vs1 t tt it1 t1 tt1 el bs) ds i H, ⟨_, Nat.zero_le _, rfl, start⟩, ?_⟩
  rintro i m H2 ⟨hi, rfl, ⟨F2, ρ2, acc, xs, G2, S2, hD2, hacc, nF2, nO2, hla, k2, hw2, hR2⟩⟩
  have hst : stills bs ρ2 = true := by
    cases hb : stills bs ρ2 with
    | true => rfl
    | false =>
      exfalso
      refine notStuck (hR2.trans ?_)
      cases hdr : ds.drop i with
      | nil => simp only [compGo2, hb]; rfl
      | cons d r => simp only [compGo2, hb]; rfl
  have hB2 : RepBs Γ F2 H2 (L2.wipe σ vs) bs us := RepBs.wiped hw2 (hB.mono k2) hst
  obtain ⟨w1, w2, w3⟩ := hW F2 H2 G2.tr (S2.reads hB2 hst)
  by_cases hend : i = ds.length
  · left
    subst hend
    refine ⟨w2, ?_⟩
    rw [List.drop_length] at hR2
    have hR3 : R0 = .ok acc ρ2 := by
      rw [hR2]
      simp only [compGo2, hst]
      rfl
    rw [hR3] at O1
    refine O1 F2 H2 k2 G2 (S1.back k2 vs S2) (.ref D) ?_
    unfold ResOk
    rw [if_pos (by rfl)]
    exact ⟨D, rfl, nF2, h0D, fun j o => nO2 j o.back, xs, hD2, by rw [← hacc.length]; exact hla, hacc⟩
  · right
    have hlt : i < ds.length := by omega
    refine ⟨w1 i hlt, fun H' => UInv Γ F1 H1 D (L2.wipe σ vs) vs R0 (compGo2 vs vs1 t tt it1 t1 tt1 el bs) ds (i + 1) H', fun H' c => ⟨ds.length - (i + 1), by omega, by omega, rfl, c⟩, fun x H3 hy => ?_⟩
    obtain ⟨d, hd, e3, hx⟩ := w3 i x H3 hlt hy
    rw [drop_cons hd] at hR2
    simp only [compGo2, hst, if_true] at hR2
    cases hb : bindT t d ρ2 with
    | none => rw [hb] at hR2; exact absurd hR2 notStuck
    | some ρ3 =>
      rw [hb] at hR2
      simp only at hR2
      have hwipe : L2.wipe (L2.wipe σ vs) vs = L2.wipe σ vs := wipe_eq vs σ _ (wipe_length _ _) fun j hj => wipe_out hj
      have G3 := G2.ext e3
      have S3 := S2.ext G2.tr e3
      have hD3 : H3 D = some (.lst xs) := e3 D _ hD2
      refine ⟨(D, .lst xs), F2, ρ2, d, ρ3, G3.into hD3 h0D nF2 (fun _ e => HO.noConfusion e), S3.into nO2, hx, hb, fun σ4 h4 S4 => ?_⟩
      have hl4 : σ4.length = (L2.wipe σ vs).length := by
        rw [← S4.len, ← S2.len]
        exact bind_len _ _ _ _ hb
      have hw4 : L2.wipe σ4 vs = L2.wipe σ vs := (wipe_eq vs (L2.wipe σ vs) σ4 hl4 fun j hj => h4 j fun hj' => hj (hsl j hj')).trans hwipe
      refine ⟨hw4, ⟨(D, .lst xs), F2, ρ3, G3.into hD3 h0D nF2 (fun _ e => HO.noConfusion e), S4, Out.nox (W' := W0) ?_⟩⟩
      cases htt : nox (tt ρ3) with
      | stuck => rw [htt] at hR2; exact absurd hR2 notStuck
      | exc c => exact absurd htt nox_exc
      | ok b ρ4 =>
        rw [htt] at hR2
        simp only [Res.bind] at hR2
        intro F5 H5 k5 G5 S5
        have k35 : Fk F2 H2 F5 H5 := (Fk.ext G2.tr e3).trans k5
        cases b with
        | false =>
          rw [if_neg (by simp)] at hR2
          dsimp only
          rw [if_neg (by simp)]
          obtain ⟨G6, nF6, hD6⟩ := G5.outof h0D nF0D iD (by intro ps e; cases e)
          obtain ⟨S6, nO6⟩ := S5.outof iD
          refine ⟨F5, wipeA vs ρ4, acc, xs, G6, ?_, hD6, RepL.mono k35 _ _ hacc, nF6, fun j o => ?_, hla, k2.trans k35, fun j s hj e => wipeA_at vs ρ4 j s hj e, hR2⟩
          · rw [← hw4]; exact S6.wipe vs
          · rw [← hw4] at o; exact nO6 j o.unwipe
        | true =>
          rw [if_pos rfl] at hR2
          dsimp only
          rw [if_pos rfl]
          refine ⟨(D, .lst xs), F5, ρ4, G5, S5, Out.nox (W' := W0) ?_⟩
          cases hit : nox (it1 ρ4) with
          | stuck => rw [hit] at hR2; exact absurd hR2 notStuck
          | exc c => exact absurd hit nox_exc
          | ok q ρ5 =>
            rw [hit] at hR2
            obtain ⟨ds1, bs1⟩ := q
            simp only [Res.bind] at hR2
            intro F6 H6 k6 G6 S6 J1 us1 hlen1 hB1 hst1 hW1
            have k36 : Fk F2 H2 F6 H6 := k35.trans k6
            obtain ⟨G7, nF7, hD7⟩ := G6.outof h0D nF0D iD (by intro ps e; cases e)
            obtain ⟨S7, nO7⟩ := S6.outof iD
            by_cases hf : acc.length + ds1.length ≤ sizeLine
            · rw [if_pos hf] at hR2
              generalize hR1 : compGo vs1 t1 tt1 el bs1 ds1 (wipeA vs1 ρ5) acc = R1 at hR2
              have notStuck1 : R1 ≠ .stuck := fun e => by rw [e] at hR2; exact notStuck hR2
              have hB1' : RepBs Γ F6 H6 σ4 bs1 us1 := RepBs.unapart hB1
              have hW1' : WalkD Γ J1 ds1 bs1 us1 := WalkD.unapart hW1
              refine ⟨fun j m H => j ≤ ds1.length ∧ m = ds1.length - j ∧ TInv Γ F6 H6 D (L2.wipe σ4 vs1) vs1 acc.length R1 (compGo vs1 t1 tt1 el bs1) ds1 j H, ⟨ds1.length - 0, ?_⟩, turns_ok (bs := bs1) (us := us1) (a0 := acc.length) (R0 := R1) (σ := σ4) (F1 := F6) (H1 := H6) hsl1 hW1' hB1' notStuck1 h0D nF0D iD hf fun F8 H8 ρ8 acc8 xs8 G8 S8 hD8 hacc8 nF8 nO8 hla8 k8 hR8 => ?_⟩
              · refine ⟨Nat.zero_le _, rfl, ⟨F6, wipeA vs1 ρ5, acc, xs, G7, S7.wipe vs1, hD7, RepL.mono k36 _ _ hacc, nF7, fun j o => nO7 j o.unwipe, Nat.le_refl _, Fk.refl, fun j s hj e => wipeA_at vs1 ρ5 j s hj e, ?_⟩⟩
                rw [List.drop_zero]
                exact hR1.symm
              · rw [hR8] at hR2
                have hww : L2.wipe (L2.wipe σ4 vs1) vs = L2.wipe σ vs := (wipe_eq vs σ4 (L2.wipe σ4 vs1) (wipe_length _ _) fun j hj => wipe_out fun hj' => hj (hsub j hj')).trans hw4
                refine ⟨F8, wipeA vs ρ8, acc8, xs8, G8, ?_, hD8, hacc8, nF8, fun j o => ?_, Nat.le_trans hla8 hf, (k2.trans k36).trans k8, fun j s hj e => wipeA_at vs ρ8 j s hj e, hR2⟩
                · rw [← hww]; exact S8.wipe vs
                · rw [← hww] at o; exact nO8 j o.unwipe
            · rw [if_neg hf] at hR2
              exact absurd hR2 notStuck
theorem pi_ex {X : Cx} {tg iter : Expr} {A : Type} {t : A → TI} (h : ∀ z, PI X tg iter (t z)) : PI X tg iter (fun σ H R => ∃ z, t z σ H R) := ⟨fun pins s σ H R I ⟨z, q⟩ => (h z).run pins s σ H R I q⟩
end
section
variable {Γ : Ctx} {X : Cx} {sc scope : Scope} {st : Str → Bool} {k : Nat} {W : WX}
theorem de_comp2 {elt tg iter tg1 iter1 : Expr} {ifs ifs1 : List Expr} {own : List (Str × Nat)} {vs1 : List Nat} {pos : Pos} {it it1 : EvI} {t t1 : Tg} {tt tt1 : EvT} {el : EvE} (g : Gd Γ X sc st k) (hh : Γ.hot = false) (hi : PI X tg iter (tI Γ W it)) (ok : blkC Γ.N sc scope own = true) (hsl : t.slots.all (fun i => (own.map (·.2)).contains i) = true) (hsl1 : t1.slots.all (fun i => vs1.contains i) = true) (hsub : vs1.all (fun i => (own.map (·.2)).contains i) = true)
    (hg : ∀ p o X', GdT (Γ.apart p o) X' (relS scope sc) (stOf scope) k W0 → PG X' tg (tG (Γ.apart p o) t)) (ht : ∀ p o X', GdT (Γ.apart p o) X' (relS scope sc) (stOf scope) k W0 → PTs X' ifs (tT (Γ.apart p o) W0 tt))
    (hi1 : ∀ p o X', GdT (Γ.apart p o) X' (relS scope sc) (stOf scope) k W0 → PI X' tg1 iter1 (tI (Γ.apart p o) W0 it1))
    (hg1 : ∀ p o X', GdT (Γ.apart p o) X' (relS scope sc) (stOf scope) k W0 → PG X' tg1 (tG (Γ.apart p o) t1)) (ht1 : ∀ p o X', GdT (Γ.apart p o) X' (relS scope sc) (stOf scope) k W0 → PTs X' ifs1 (tT (Γ.apart p o) W0 tt1))
    (he : ∀ p o X', GdT (Γ.apart p o) X' (relS scope sc) (stOf scope) k W0 → PE X' elt (tD (Γ.apart p o) W0 el)) (hs : ∀ x, foldedSetIterable iter X.env x = pure x) (hs1 : ∀ env x, foldedSetIterable iter1 env x = pure x) :
    PE X (.ListComp elt [⟨tg, iter, ifs, 0⟩, ⟨tg1, iter1, ifs1, 0⟩] scope pos) (tD Γ W (eComp2 (own.map (·.2)) vs1 it t tt it1 t1 tt1 el)) := by
  have okb : BlkOk X.N X.env.scope scope own := by rw [g.N, g.scp]; exact blkOk_by ok
  have inn : ∀ {l : List Nat} {m : List Nat}, l.all (fun i => m.contains i) = true → ∀ i ∈ l, i ∈ m := fun h i hi => by
    have := List.all_eq_true.mp h i hi
    simpa using this
  refine pe_imp (pe_lc2 (vs1 := vs1) (g.calm hh) (by rw [g.N]; exact g.nd) hi okb (inn hsub) (g := gComp Γ t) (tt := ttComp Γ tt) (wi1 := iComp Γ it1) (g1 := gComp Γ t1) (tt1 := ttComp Γ tt1) (te := teComp Γ el) ?_ ?_ ?_ ?_ ?_ ?_ hs hs1) (comp2_imp (inn hsl) (inn hsl1) (inn hsub))
  · exact fun s H C cl fp => pg_ex fun z => hg _ _ _ ⟨gd_apart (gd_blk g) z.1 z.2, takesN0⟩
  · exact fun s H C cl fp => pts_ex fun z => ht _ _ _ ⟨gd_apart (gd_blk g) z.1 z.2, takesN0⟩
  · exact fun s H C cl fp => pi_ex fun z => hi1 _ _ _ ⟨gd_apart (gd_blk g) z.1 z.2, takesN0⟩
  · exact fun s H C cl fp => pg_ex fun z => hg1 _ _ _ ⟨gd_apart (gd_blk g) z.1 z.2, takesN0⟩
  · exact fun s H C cl fp => pts_ex fun z => ht1 _ _ _ ⟨gd_apart (gd_blk g) z.1 z.2, takesN0⟩
  · exact fun s H C cl fp => pe_ex fun z => he _ _ _ ⟨gd_apart (gd_blk g) z.1 z.2, takesN0⟩
theorem ds_asgC2 {as : List Nat} {pos : Pos} {i : Nat} {x : Str} {p : Pos} {elt tg iter tg1 iter1 : Expr} {ifs ifs1 : List Expr} {own : List (Str × Nat)} {vs1 : List Nat} {cpos : Pos} {it it1 : EvI} {t t1 : Tg} {tt tt1 : EvT} {el : EvE} (g : Gd Γ X sc st k) (hh : Γ.hot = false) (hN : Γ.N[i]? = some x) (hx : sc.names.lookup x = some .local) (hk : sc.kind = .function) (hia : as.contains i = true)
    (hl : (p.line == cpos.line) = true) (ha : (scope.names.any fun (n, k) => n == x && (k == .local || k == .cell)) = false)
    (hi : PI X tg iter (tI Γ W it)) (ok : blkC Γ.N sc scope own = true) (hsl : t.slots.all (fun i => (own.map (·.2)).contains i) = true) (hsl1 : t1.slots.all (fun i => vs1.contains i) = true) (hsub : vs1.all (fun i => (own.map (·.2)).contains i) = true)
    (hg : ∀ p o X', GdT (Γ.apart p o) X' (relS scope sc) (stOf scope) k W0 → PG X' tg (tG (Γ.apart p o) t)) (ht : ∀ p o X', GdT (Γ.apart p o) X' (relS scope sc) (stOf scope) k W0 → PTs X' ifs (tT (Γ.apart p o) W0 tt))
    (hi1 : ∀ p o X', GdT (Γ.apart p o) X' (relS scope sc) (stOf scope) k W0 → PI X' tg1 iter1 (tI (Γ.apart p o) W0 it1))
    (hg1 : ∀ p o X', GdT (Γ.apart p o) X' (relS scope sc) (stOf scope) k W0 → PG X' tg1 (tG (Γ.apart p o) t1)) (ht1 : ∀ p o X', GdT (Γ.apart p o) X' (relS scope sc) (stOf scope) k W0 → PTs X' ifs1 (tT (Γ.apart p o) W0 tt1))
    (he : ∀ p o X', GdT (Γ.apart p o) X' (relS scope sc) (stOf scope) k W0 → PE X' elt (tD (Γ.apart p o) W0 el)) (hs : ∀ x, foldedSetIterable iter X.env x = pure x) (hs1 : ∀ env x, foldedSetIterable iter1 env x = pure x) :
    PS X (.Assign [.Name x p] (.ListComp elt [⟨tg, iter, ifs, 0⟩, ⟨tg1, iter1, ifs1, 0⟩] scope cpos) pos) (tS Γ W as (sAsg i (eComp2 (own.map (·.2)) vs1 it t tt it1 t1 tt1 el))) := by
  have okb : BlkOk X.N X.env.scope scope own := by rw [g.N, g.scp]; exact blkOk_by ok
  have inn : ∀ {l : List Nat} {m : List Nat}, l.all (fun i => m.contains i) = true → ∀ i ∈ l, i ∈ m := fun h i hi => by
    have := List.all_eq_true.mp h i hi
    simpa using this
  refine ps_imp (ps_setLc2 (i := i) (vs1 := vs1) (g.calm hh) (by rw [g.N]; exact g.nd) (by rw [g.N]; exact hN) (by rw [g.scp]; exact hx) (sw_true (by rw [g.scp]; exact hk) (by rw [g.scp]; exact hx) hl ha) hi okb (inn hsub) (g := gComp Γ t) (tt := ttComp Γ tt) (wi1 := iComp Γ it1) (g1 := gComp Γ t1) (tt1 := ttComp Γ tt1) (te := teComp Γ el) ?_ ?_ ?_ ?_ ?_ ?_ hs hs1) (asg_imp (comp2_imp (inn hsl) (inn hsl1) (inn hsub)) hia)
  · exact fun s H C cl fp => pg_ex fun z => hg _ _ _ ⟨gd_apart (gd_blk g) z.1 z.2, takesN0⟩
  · exact fun s H C cl fp => pts_ex fun z => ht _ _ _ ⟨gd_apart (gd_blk g) z.1 z.2, takesN0⟩
  · exact fun s H C cl fp => pi_ex fun z => hi1 _ _ _ ⟨gd_apart (gd_blk g) z.1 z.2, takesN0⟩
  · exact fun s H C cl fp => pg_ex fun z => hg1 _ _ _ ⟨gd_apart (gd_blk g) z.1 z.2, takesN0⟩
  · exact fun s H C cl fp => pts_ex fun z => ht1 _ _ _ ⟨gd_apart (gd_blk g) z.1 z.2, takesN0⟩
  · exact fun s H C cl fp => pe_ex fun z => he _ _ _ ⟨gd_apart (gd_blk g) z.1 z.2, takesN0⟩
end
end Ow

namespace Ow
open PySem PyProof.Rows PySem.Spec L2 LamX
/-! ### d.get(k), d.get(k, x) -/
def gGet (kvs : List (D × D)) : List D → Option (D × Bool)
  | [d] => if (dictOk kvs && keyT d) = true then some ((valK kvs d).getD .none, false) else none
  | [d, e] => if (dictOk kvs && keyT d && !isMut e) = true then some ((valK kvs d).getD e, false) else none
  | _ => none
def eGet (f : EvO) (gs : List EvO) : EvE := fun ρ => (f ρ).bind fun p ρ1 => match p.1 with
  | .dict kvs => (oList gs ρ1).bind fun ps ρ2 => if (still p.2 p.1 ρ2 && stills ps ρ2) = true then (match gGet kvs (ps.map (·.1)) with | some r => .ok r ρ2 | none => .stuck) else .stuck
  | _ => .stuck
section
variable {Γ : Ctx} {X : Cx} {sc : Scope} {st : Str → Bool} {k : Nat} {W : WX} {a b c e : Expr} {pos : Pos}
/-- a dict stands there -/
def tyD (x : V) (H : Hp) : Prop := ∃ a es, x = .ref a ∧ H a = some (dctO a es)
theorem ty_dict : TyOk X "dict" tyD := fun pins σ H s x v I r ty => by
  obtain ⟨a, es, rfl, ha⟩ := ty
  cases r
  obtain ⟨⟨_, o, ents, ep, g1, g2, g3, _⟩, _, _⟩ := I.hok a _ ha
  exact ⟨⟨o, g1, g2.1⟩, fun b eb => by cases eb; exact ⟨o, g1, g2.2.1⟩⟩
def rGet (Γ : Ctx) : V → List V → Hp → VK → Prop := fun x xs H Q => ∃ (F : Addr → Prop) (kvs : List (D × D)) (ds : List D) (p : D × Bool), RepR Γ F H (.dict kvs) x ∧ RepRs Γ F H ds xs ∧ gGet kvs ds = some p ∧ ∀ v, Γ.RV F H p.1 v → Q v H
theorem val_none {F : Addr → Prop} {H : Hp} {kvs : List (D × D)} {vs : List (NestedKey × Value)} {d : D} (pk : Paired (PairK Γ F H) kvs vs) (h : valK kvs d = none) : valueAt vs (hkD d) = none := by
  have h0 := valK_at (d := d) pk
  rw [h] at h0
  exact h0
theorem mt_get (g : Gd Γ X sc st k) : MtR X "dict.get" (rGet Γ) := by
  intro pins s σ H x xs v us Q I rx rs h
  obtain ⟨F, kvs, ds, p, h1, h2, ho, q⟩ := h
  have hu := g.room.un
  have room : X.A.in1.units + 8 < cLine := by
    have e1 : X.A.in1.units = X.A.units + 1 := rfl
    omega
  unfold gGet at ho
  split at ho
  · split at ho
    · rename_i d hz
      cases ho
      rw [Bool.and_eq_true] at hz
      obtain ⟨y, rfl, ry0⟩ := rs1 h2
      cases rs with
      | cons ry rs =>
        cases rs
        obtain ⟨a, vs, rfl, sm, hm, pk⟩ := dict_at g.K g.prog g.w I hz.1 h1
        obtain ⟨b, rfl, rfl, isb⟩ := key_is g.K I hz.2 ry0 ry
        cases rx
        refine get_keyed room isb sm hm ?_
        cases hv : valK kvs d with
        | none =>
          rw [val_none pk hv]
          exact ⟨.non, H, I.tok _, rfl, q _ (by simp only [hv, Option.getD_none, RepV])⟩
        | some e =>
          obtain ⟨v', u', e1, r1, r2⟩ := val_some pk hv
          rw [e1]
          exact ⟨v', H, I.tok _, r2, q _ (by simpa only [hv, Option.getD_some] using r1)⟩
    · cases ho
  · split at ho
    · rename_i d e hz
      cases ho
      simp only [Bool.and_eq_true, Bool.not_eq_true'] at hz
      obtain ⟨y, z, rfl, ry0, rz0⟩ := rs2 h2
      cases rs with
      | cons ry rs =>
        cases rs with
        | cons rz rs =>
          cases rs
          obtain ⟨a, vs, rfl, sm, hm, pk⟩ := dict_at g.K g.prog g.w I hz.1.1 h1
          obtain ⟨b, rfl, rfl, isb⟩ := key_is g.K I hz.1.2 ry0 ry
          cases rx
          refine getOr_keyed room isb sm hm ?_
          cases hv : valK kvs d with
          | none =>
            rw [val_none pk hv]
            refine ⟨z, H, I.tok _, rz, q _ ?_⟩
            rw [hv]
            have := hz.2
            cases e <;> first | exact rz0 | (simp [isMut] at this)
          | some e' =>
            obtain ⟨v', u', e1, r1, r2⟩ := val_some pk hv
            rw [e1]
            exact ⟨v', H, I.tok _, r2, q _ (by simpa only [hv, Option.getD_some] using r1)⟩
    · cases ho
  · cases ho
theorem de_get {o e : Expr} {es : List Expr} {f : EvO} {gs : List EvO} {apos cpos : Pos} (g : Gd Γ X sc st k) (ho : PE X o (tO Γ W f)) (ha : PA X (e :: es) (tOs Γ W gs))
    (hbase : attributeBase o ("get" : Str) X.env (eval o X.env) = eval o X.env := by rfl) (hfew : ((backTo cpos (starEach (e :: es) X.env)).all (fun x => !x.1) && (backToKw cpos (keywordEach [] X.env)).all (fun x => x.1.isSome) && decide ((e :: es).length + ([] : List Keyword).length + (if ([] : List Keyword).isEmpty then 0 else 1) < 30)) = true := by rfl) (hline : (apos.endLine == cpos.line) = true := by rfl) (hs : starEach (e :: es) X.env = (false, eval e X.env) :: starEach es X.env := by rfl) (hplain : (backTo cpos (starEach es X.env)).any (·.1) = false := by rfl) :
    PE X (.Call (.Attribute o ("get" : Str) apos) (e :: es) [] cpos) (tD Γ W (eGet f gs)) := by
  refine pe_imp (pe_mG (r := rGet Γ) ty_dict PySem.F.plainAttrs_dict PySem.F.slot_dict_get PySem.F.type_dict_get (mt_get g) ho ha hbase hfew hline hs hplain) fun σ H Q ⟨F, ρ, G, S, O⟩ => ?_
  refine ⟨F, ρ, G, S, (Out.bind O).imp fun p ρ1 F1 H1 k1 G1 S1 O1 x hx sx => ?_⟩
  have hr := S1.read hx sx
  split at O1
  · rename_i kvs hk
    refine ⟨by rw [hk] at hr; obtain ⟨a, es, e1, e2, _⟩ := hr; exact ⟨a, es, e1, e2⟩, F1, ρ1, G1, S1, (Out.bind O1).imp fun ps ρ2 F2 H2 k2 G2 S2 O2 vs hvs => ?_⟩
    split at O2
    · rename_i hs
      rw [Bool.and_eq_true] at hs
      split at O2
      · rename_i z hz
        have h2 := S2.read (hx.mono k2) hs.1
        rw [hk] at h2
        refine ⟨F2, kvs, _, z, h2, hvs hs.2, hz, fun v hv => ?_⟩
        obtain ⟨q1, q2, q3, q4⟩ := Alc.res (p := (z.1, false)) (.plain hv) G2 S2
        have e2 : z.2 = false := by
          unfold gGet at hz
          split at hz <;> first | cases hz | (split at hz <;> cases hz <;> rfl)
        exact O2 F2 H2 q1 q2 q3 v (by rw [show z = (z.1, false) from Prod.ext rfl e2]; exact q4)
      · exact O2.elim
    · exact O2.elim
  · exact O1.elim
end
end Ow

namespace Ow
open PySem PyProof.Rows PySem.Spec L2 LamX
/-! ### dicts filled -/
/-- d[k] = v -/
def putK (kvs : List (D × D)) (k v : D) : List (D × D) :=
  if (kvs.any fun p => decide (hkD p.1 = hkD k)) = true then kvs.map (fun p => if hkD p.1 = hkD k then (p.1, v) else p) else kvs ++ [(k, v)]
def putAll (kvs ps : List (D × D)) : List (D × D) := ps.foldl (fun acc p => putK acc p.1 p.2) kvs
def pairsOf : List D → Option (List (D × D))
  | [] => some []
  | .tuple [k, v] :: ds => (pairsOf ds).map fun ps => (k, v) :: ps
  | _ => none
def dDict : List D → Option (D × Bool)
  | [.list ds] => match pairsOf ds with
    | some ps => if (ps.all fun p => keyT p.1) = true then some (.dict (putAll [] ps), true) else none
    | none => none
  | _ => none
section
variable {Γ : Ctx} {X : Cx} {sc : Scope} {st : Str → Bool} {k : Nat} {W : WX}
/-- an entry, with the place of its key -/
def PairX (Γ : Ctx) (F : Addr → Prop) (H : Hp) (p : D × D) (t : NestedKey × Addr × Value) : Prop := hkD p.1 = t.1 ∧ Γ.RV F H p.1 (.ref t.2.1) ∧ ∃ v, Γ.RV F H p.2 v ∧ RelV v t.2.2
theorem pairX_any {F : Addr → Prop} {H : Hp} {kd : D} : ∀ {kvs : List (D × D)} {xs : List (NestedKey × Addr × Value)}, Paired (PairX Γ F H) kvs xs → (kvs.any fun p => decide (hkD p.1 = hkD kd)) = (atKey xs (hkD kd)).isSome
  | _, _, .nil => rfl
  | p :: kvs, t :: xs, .cons r rs => by
    have ih := pairX_any (kd := kd) rs
    obtain ⟨e, _⟩ := r
    unfold atKey at ih ⊢
    rw [List.any_cons, List.find?_cons, ← e]
    by_cases h : hkD p.1 = hkD kd
    · simp [h]
    · simp only [h, decide_false, Bool.false_or]
      exact ih
theorem pairX_map {F : Addr → Prop} {H : Hp} {kd vd : D} {v : V} {u : Value} (rv : Γ.RV F H vd v) (ru : RelV v u) : ∀ {kvs : List (D × D)} {xs : List (NestedKey × Addr × Value)}, Paired (PairX Γ F H) kvs xs →
    Paired (PairX Γ F H) (kvs.map fun p => if hkD p.1 = hkD kd then (p.1, vd) else p) (xs.map (putAt (hkD kd) u))
  | _, _, .nil => .nil
  | p :: kvs, t :: xs, .cons r rs => by
    refine .cons ?_ (pairX_map rv ru rs)
    obtain ⟨e, e1, e2⟩ := r
    unfold putAt
    show PairX Γ F H (if hkD p.1 = hkD kd then (p.1, vd) else p) _
    by_cases h : hkD p.1 = hkD kd
    · rw [if_pos h, if_pos (by rw [← e]; exact h)]
      exact ⟨e, e1, v, rv, ru⟩
    · rw [if_neg h, if_neg (by rw [← e]; exact h)]
      exact ⟨e, e1, e2⟩
theorem pairX_put {F : Addr → Prop} {H : Hp} {p : D × D} {t : NestedKey × Addr × Value} {kvs : List (D × D)} {xs : List (NestedKey × Addr × Value)} (r : Paired (PairX Γ F H) kvs xs) (rt : PairX Γ F H p t) :
    Paired (PairX Γ F H) (putK kvs p.1 p.2) (storedH xs t.1 t.2.1 t.2.2) := by
  unfold putK storedH
  obtain ⟨e, e1, v, e2, e3⟩ := id rt
  rw [pairX_any r, ← e]
  split
  · exact pairX_map e2 e3 r
  · exact r.snoc ⟨e.symm ▸ rfl, e1, v, e2, e3⟩
theorem pairX_all {F : Addr → Prop} {H : Hp} : ∀ {ps : List (D × D)} {ts : List (NestedKey × Addr × Value)} {kvs : List (D × D)} {xs : List (NestedKey × Addr × Value)}, Paired (PairX Γ F H) kvs xs → Paired (PairX Γ F H) ps ts →
    Paired (PairX Γ F H) (putAll kvs ps) (storedAllH xs ts)
  | _, _, _, _, r, .nil => r
  | p :: ps, t :: ts, kvs, xs, r, .cons h q => pairX_all (ps := ps) (ts := ts) (kvs := putK kvs p.1 p.2) (xs := storedH xs t.1 t.2.1 t.2.2) (pairX_put r h) q
theorem PairX.mono {F F' : Addr → Prop} {H H' : Hp} (fk : Fk F H F' H') {p : D × D} {t : NestedKey × Addr × Value} (h : PairX Γ F H p t) : PairX Γ F' H' p t :=
  let ⟨e, e1, v, e2, e3⟩ := h; ⟨e, RepV.mono fk _ _ e1, v, RepV.mono fk _ _ e2, e3⟩
/-- the entries as the heap tells them -/
theorem pairX_es {F : Addr → Prop} {H : Hp} (hP : X.prog = Γ.prog) (hw : X.w = Γ.w) : ∀ {kvs : List (D × D)} {xs : List (NestedKey × Addr × Value)}, Paired (PairX Γ F H) kvs xs →
    ∃ es : List (V × Int × V), Γ.RK F H kvs es ∧ Paired (fun (p : V × Int × V) (e : DictEntry) => RelV p.1 e.key ∧ e.hash = p.2.1 ∧ RelV p.2.2 e.val) es (xs.map (entryOfKey (nestedKind X.prog X.w)))
  | _, _, .nil => ⟨[], (show RepK _ _ _ _ _ [] [] by simp only [RepK]), .nil⟩
  | p :: kvs, t :: xs, .cons r rs => by
    obtain ⟨es, q1, q2⟩ := pairX_es hP hw rs
    obtain ⟨e, e1, v, e2, e3⟩ := r
    refine ⟨(.ref t.2.1, (nestedKind Γ.prog Γ.w).hash (hashD Γ.w p.1), v) :: es, ?_, .cons ⟨rfl, ?_, e3⟩ q2⟩
    · show RepK _ _ _ _ _ (p :: kvs) _
      obtain ⟨kd, vd⟩ := p
      simp only [RepK]
      exact ⟨_, v, es, rfl, e1, e2, q1⟩
    · show (nestedKind X.prog X.w).hash t.1 = _
      rw [hashD_eq, e, hP, hw]
theorem dct_ok {P : Program} {w : World} {H : Hp} {h : Heap} {a : Addr} {es : List (V × Int × V)} {xs : List (NestedKey × Addr × Value)} (sm : (a == sysModules) = false) (hd : h.DictOfH (nestedKind X.prog X.w) a xs)
    (q : Paired (fun (p : V × Int × V) (e : DictEntry) => RelV p.1 e.key ∧ e.hash = p.2.1 ∧ RelV p.2.2 e.val) es (xs.map (entryOfKey (nestedKind X.prog X.w)))) : ObjOk P w H h a (dctO a es) := by
  obtain ⟨o, ents, ep, g1, g2, g3, g4, _⟩ := hd
  refine ⟨⟨sm, o, ents, ep, g1, g2, g3, by rw [g4]; exact q⟩, ⟨o, g1⟩, fun h1 h2 ⟨z, o', ents', ep', f1, f2⟩ kk => ⟨z, o', ents', ep', kk _ f1, f2⟩⟩
theorem Alc.newDict {F : Addr → Prop} {H : Hp} {p : Addr} {kvs : List (D × D)} {es : List (V × Int × V)} (tr : ∀ a, F a → NTo H a) (hp : H p = none) (h : Γ.RK F H kvs es) : Alc Γ F H (.dict kvs, true) (.ref p) (upd H p (dctO p es)) := by
  refine ⟨Ext.upd hp, ?_⟩
  rw [if_pos (by simp [isMut])]
  exact ⟨p, rfl, hp, es, upd_same, RepK.mono (Fk.ext tr (Ext.upd hp)) _ _ h⟩
/-- pairs in a list: their tuples' places -/
theorem pairs_at {pins : List (Addr × Obj)} {σ : L2.St} {F : Addr → Prop} {H : Hp} {s : Shared} (hK : X.K = Γ.K) (I : Inv X pins σ H s) : ∀ {ds : List D} {ps : List (D × D)} {xs : List V} {its : List Value}, pairsOf ds = some ps → (ps.all fun p => keyT p.1) = true → Γ.RL F H ds xs → Vals xs its →
    ∃ ts : List (Addr × NestedKey × Addr × Value), its = ts.map (fun t => Value.ref t.1) ∧ (∀ t ∈ ts, IsTup s.heap t.1 #[.ref t.2.2.1, t.2.2.2]) ∧ (∀ t ∈ ts, (nestedKind X.prog X.w).is s.heap t.2.1 t.2.2.1) ∧ Paired (PairX Γ F H) ps (ts.map (·.2))
  | [], ps, xs, its, h, hk, rl, r => by
    cases h
    simp only [RepL] at rl
    subst rl
    cases r
    exact ⟨[], rfl, (fun _ h => by cases h), (fun _ h => by cases h), .nil⟩
  | d :: ds, ps, xs, its, h, hk, rl, r => by
    unfold pairsOf at h
    split at h
    · rename_i he
      cases he
    · rename_i ds0 kd vd ds1 he
      cases he
      obtain ⟨ps1, h1, rfl⟩ := Option.map_eq_some_iff.mp h
      simp only [RepL] at rl
      obtain ⟨y, ys, rfl, ry, rys⟩ := rl
      cases r with
      | cons r1 r2 =>
        rw [List.all_cons, Bool.and_eq_true] at hk
        obtain ⟨ts, q1, q2, q3, q4⟩ := pairs_at hK I h1 hk.2 rys r2
        simp only [RepV] at ry
        obtain ⟨a, zs, rfl, l, _, rz⟩ := ry
        cases r1
        obtain ⟨us, ru, ht, _⟩ := I.tuple (by rw [hK]; exact l)
        simp only [RepL] at rz
        obtain ⟨v1, zs1, rfl, rk, v2, zs2, rfl, rv, rfl⟩ := rz
        cases ru with
        | cons ru1 ru =>
          cases ru with
          | cons ru2 ru =>
            cases ru
            obtain ⟨b, rfl, rfl, isb⟩ := key_is hK I hk.1 (RepR.of rk) ru1
            refine ⟨(a, hkD kd, b, _) :: ts, by rw [q1]; rfl, fun t ht' => ?_, fun t ht' => ?_, .cons ⟨rfl, rk, v2, rv, ru2⟩ q4⟩
            · rcases List.mem_cons.mp ht' with rfl | ht'
              · exact ht
              · exact q2 t ht'
            · rcases List.mem_cons.mp ht' with rfl | ht'
              · exact isb
              · exact q3 t ht'
    · cases h
theorem c_dict (g : Gd Γ X sc st k) (hh : Γ.hot = false) : CallR X (.type "dict") (rOfN Γ dDict) := by
  intro pins s σ H xs us Q I r h
  obtain ⟨F, ds, p, tr, h1, ho, q⟩ := h
  have hu := g.room.un
  unfold dDict at ho
  split at ho
  · rename_i ds
    split at ho
    · rename_i ps hps
      split at ho
      · rename_i hk
        cases ho
        obtain ⟨x, rfl, hx⟩ := rs1 h1
        obtain ⟨a, ys, rfl, l, z, rr⟩ := rList hx
        rw [← g.K] at l
        obtain ⟨its, rv, hl, hz⟩ := I.list l
        cases r with
        | cons r1 r =>
          cases r
          cases r1
          obtain ⟨ts, e1, e2, e3, e4⟩ := pairs_at g.K I hps hk rr rv
          obtain ⟨o, n, o1, o2, o3, o4⟩ := hl
          have sz : its.length = ts.length := by rw [e1, List.length_map]
          have room : X.A.in1.in1.units + 8 < cLine := by
            have e1 : X.A.in1.in1.units = X.A.units + 2 := rfl
            omega
          refine call_dict_pairsH (knd := nestedKind X.prog X.w) (ps := ts.map (·.2)) (PairArg.list a its.toArray (fun j => (ts[j]?.map (·.1)).getD a) (ts.map fun t => (.ref t.2.2.1, t.2.2.2))) (g.hd hh) room ⟨⟨o, n, o1, o2, o3, o4⟩, ?_, ?_⟩ ⟨?_, ?_⟩ ?_ ?_ ?_
          · simp [sz]
          · intro j kk v hj
            rw [List.getElem?_map] at hj
            obtain ⟨t, ht, et⟩ := Option.map_eq_some_iff.mp hj
            cases et
            have m : t ∈ ts := List.mem_of_getElem? ht
            refine ⟨?_, .inl ?_⟩
            · rw [List.getElem?_toArray, e1, List.getElem?_map, ht]
              simp [ht]
            · simp only [ht, Option.map_some, Option.getD_some]
              exact e2 t m
          · simp
          · intro i key v hi
            have hi : (ts.map fun t => ((Value.ref t.2.2.1, t.2.2.2) : Value × Value))[i]? = some (key, v) := hi
            rw [List.getElem?_map] at hi
            obtain ⟨t, ht, et⟩ := Option.map_eq_some_iff.mp hi
            cases et
            exact ⟨t.2.1, t.2.2.1, by rw [List.getElem?_map, ht]; rfl, rfl⟩
          · intro h' hk' x hx'
            obtain ⟨t, ht, rfl⟩ := List.mem_map.mp hx'
            refine nestedKind_stays.stays (fun b o vs n eb _ => hk' b o (Nat.ne_of_lt (Heap.lt_size eb)) (by simp) eb) (e3 t ht)
          · rw [List.length_map, ← sz, ← rv.length]
            exact hz
          · intro h' tk hd keep
            have pk := pairX_all (Γ := Γ) (F := F) (H := H) (kvs := []) (xs := []) .nil e4
            obtain ⟨es, q1, q2⟩ := pairX_es (X := X) g.prog g.w pk
            have sm : (s.heap.objs.size == sysModules) = false := by
              have hb := I.big
              simp only [beq_eq_false_iff_ne, ne_eq]
              exact fun e => Nat.lt_irrefl _ (e ▸ hb)
            refine ⟨.ref s.heap.objs.size, _, I.laid (fun b u eb => keep b u (by simp) eb) (Nat.le_refl _) (dct_ok sm hd q2), rfl, q _ _ (.newDict tr (I.hok.fresh (Nat.le_refl _)) q1)⟩
      · cases ho
    · cases ho
  · cases ho
end
end Ow

namespace Ow
open PySem PyProof.Rows PySem.Spec L2 LamX
/-! ### sorted of a dict: its keys -/
def dSorted2 : List D → Option (D × Bool)
  | [.dict kvs] => if (kvs.all (fun p => keyT p.1) && okS (kvs.map (·.1)) && decide (kvs.length ≤ 1000)) = true then some (.list (sortD (kvs.map (·.1))), true) else none
  | ds => dSorted ds
mutual
theorem reads_nil {h : Heap} : ∀ (d : D) (v : Value) (as : List Addr), hkable d = true → Reads h v d as → as = []
  | .none, _, _, _, .none => rfl
  | .bool _, _, _, _, .bool _ => rfl
  | .int _, _, _, _, .int _ _ => rfl
  | .str _, _, _, _, .str _ _ => rfl
  | .tuple ds, _, as, hk, .tuple _ _ _ r => reads_nils ds _ as (by simpa only [hkable] using hk) r
theorem reads_nils {h : Heap} : ∀ (ds : List D) (vs : List Value) (as : List Addr), hkables ds = true → ReadsAll h vs ds as → as = []
  | [], _, _, _, .nil => rfl
  | d :: ds, _, _, hk, .cons (as := a1) (bs := b1) r rs => by
    simp only [hkables, Bool.and_eq_true] at hk
    rw [reads_nil d _ a1 hk.1 r, reads_nils ds _ b1 hk.2 rs]
    rfl
end
theorem keyT_able {d : D} (h : keyT d = true) : hkable d = true := by
  unfold keyT at h
  split at h
  · rw [Bool.and_eq_true] at h
    simpa only [hkable] using h.1
  · cases h
section
variable {Γ : Ctx} {X : Cx} {sc : Scope} {st : Str → Bool} {k : Nat} {W : WX}
/-- the keys, as they stand -/
theorem keys_at {F : Addr → Prop} {H : Hp} : ∀ {kvs : List (D × D)} {es : List (V × Int × V)} {l : List DictEntry}, Γ.RK F H kvs es → Paired (fun (p : V × Int × V) (e : DictEntry) => RelV p.1 e.key ∧ e.hash = p.2.1 ∧ RelV p.2.2 e.val) es l →
    Γ.RL F H (kvs.map (·.1)) (es.map (·.1)) ∧ Vals (es.map (·.1)) (l.map (·.key)) ∧ es.length = kvs.length
  | [], es, l, h, r => by
    have h : RepK _ _ _ _ _ [] es := h
    simp only [RepK] at h
    subst h
    cases r
    exact ⟨RepL.nil, .nil, rfl⟩
  | p :: kvs, es, l, h, r => by
    obtain ⟨kd, vd⟩ := p
    have h : RepK _ _ _ _ _ ((kd, vd) :: kvs) es := h
    simp only [RepK] at h
    obtain ⟨u, v, es', rfl, r1, r2, r3⟩ := h
    cases r with
    | cons e1 e2 =>
      obtain ⟨q1, q2, q3⟩ := keys_at (kvs := kvs) r3 e2
      exact ⟨RepL.cons r1 q1, .cons e1.1 q2, by simp [q3]⟩
theorem c_sorted2 (g : Gd Γ X sc st k) (hh : Γ.hot = false) : CallR X (.builtin "sorted") (rOfN Γ dSorted2) := by
  intro pins s σ H xs us Q I r h
  obtain ⟨F, ds, p, tr, h1, ho, q⟩ := h
  unfold dSorted2 at ho
  split at ho
  · rename_i kvs
    split at ho
    · rename_i hb
      cases ho
      simp only [Bool.and_eq_true, decide_eq_true_eq, List.all_eq_true] at hb
      obtain ⟨x, rfl, hx⟩ := rs1 h1
      obtain ⟨a, es, rfl, ha, rk⟩ := hx
      obtain ⟨⟨sm, o, ents, ep, o1, o2, o3, pe⟩, _, _⟩ := I.hok a _ ha
      obtain ⟨b1, b2, b3, b4⟩ := okS_u hb.1.2
      obtain ⟨rl, rv, le⟩ := keys_at rk pe
      have hl : ents.size = kvs.length := by
        have h0 := rv.length
        rw [List.length_map, List.length_map, le] at h0
        exact Array.length_toList.symm.trans h0.symm
      have hlim : kvs.length ≤ sizeLine := by rw [sizeLine_eq]; omega
      have hu := g.room.un
      rw [ref1 r]
      refine Calls.call_function_entry kind_sorted plain_sorted entry_sorted (args_sorted1 _) ?_
      unfold Builtin.«sorted»
      refine wpAny_bind (m := checkCount "sorted" 1 1 _) (wpAny_pure ?_)
      refine wpAny_bind (PySem.W.kdu_collect (A := X.A.in1) (KdlSrc.rawDict (es := ents) (ep := ep) sm) (g.hd hh) ⟨o, o1, o2, o3⟩ (by rw [hl]; exact hlim) fun h' tk acc keep hacc => ?_)
      have ea : acc.toList = ents.toList.map (·.key) := by
        refine List.ext_getElem? fun i => ?_
        rw [List.getElem?_map, Array.getElem?_toList, Array.getElem?_toList]
        cases e : acc[i]? with
        | none =>
          have h0 : ents.size ≤ i := by rw [← hacc.1]; exact Array.getElem?_eq_none_iff.mp e
          rw [Array.getElem?_eq_none_iff.mpr h0] <;> rfl
        | some v =>
          obtain ⟨hi, rfl⟩ := hacc.2 i v e
          rw [Array.getElem?_eq_getElem hi] <;> rfl
      rw [ea]
      have I1 : Inv X pins σ H { s with heap := h', toks := tk } := I.kept keep
      refine wpAny_bind (wpAny_newList ?_ (by rw [List.length_map, Array.length_toList, hl, sizeLine_eq]; omega))
      have hoL : (h'.push (seqObj "list" (ents.toList.map (·.key)).toArray 0)).get? h'.objs.size = some (seqObj "list" (ents.toList.map (·.key)).toArray 0) := Heap.get?_push_size _ rfl
      show wpAny _ _ _ _ _ { s with heap := h'.push (seqObj "list" (ents.toList.map (·.key)).toArray 0), toks := tk }
      obtain ⟨as, hr⟩ := Dp.readsAll I1 (kvs.map (·.1)) (es.map (·.1)) (ents.toList.map (·.key)) (by rw [g.K]; exact RepL.dp _ _ b1 rl) rv
      have er : PySem.W.EachIs (fun v (d : D) => ∃ as, Reads (h'.push (seqObj "list" (ents.toList.map (·.key)).toArray 0)) v (id d) as ∧ h'.objs.size ∉ as) (ents.toList.map (·.key)) (kvs.map (·.1)) := by
        have hr' : ReadsAll h' (ents.toList.map (·.key)) (kvs.map (·.1)) as := hr
        have kk : ∀ d ∈ kvs.map (·.1), hkable d = true := fun d hd => by
          obtain ⟨p, hp, rfl⟩ := List.mem_map.mp hd
          exact keyT_able (hb.1.1 p hp)
        revert hr' kk
        generalize ents.toList.map (·.key) = vs, kvs.map (·.1) = ds
        intro hr' kk
        have go : ∀ (ds : List D) (us : List Value) (as : List Addr), (∀ d ∈ ds, hkable d = true) → ReadsAll h' us ds as →
            PySem.W.EachIs (fun v (d : D) => ∃ as, Reads (h'.push (seqObj "list" vs.toArray 0)) v (id d) as ∧ h'.objs.size ∉ as) us ds := fun ds => by
          induction ds with
          | nil => intro us as _ r; cases r; exact .nil
          | cons d ds ih =>
            intro us as kk r
            cases r with
            | cons r1 r2 =>
              have e0 := reads_nil d _ _ (kk d (by simp)) r1
              subst e0
              exact .cons ⟨[], Reads.keeps (fun b u e => Heap.get?_push_of_some _ e) r1, by simp⟩ (ih _ _ (fun d hd => kk d (List.mem_cons_of_mem _ hd)) r2)
        exact go ds vs as kk hr'
      refine wpAny_bind (wpAny_holding (PySem.W.list_sort_data (enc := id) (R := fun v d => ∃ x, RelV x v ∧ Γ.RV F H d x) (s := { s with heap := h'.push (seqObj "list" (ents.toList.map (·.key)).toArray 0), toks := tk }) hoL (each_mk rl rv) er
        (by rw [List.map_id]; exact b2) (by rw [List.map_id]; exact b3) (by rw [List.length_map]; exact hlim) (fun b hb' => ?_) fun out hlo eo => ?_))
      · have := b4 b hb'
        show X.A.units + 1 + 1 + b.depth < cLine
        omega
      · obtain ⟨zs, rz, lz⟩ := each_un eo
        obtain ⟨c, hc⟩ := sortedHeap_at (vs := ents.toList.map (·.key)) (out := out.toArray) hoL
        have hlen : zs.length ≤ sizeLine := by
          rw [rz.length, hlo, List.length_map]; exact hlim
        refine wpAny_pure ⟨_, rfl, .ref h'.objs.size, upd H h'.objs.size (.lst zs), I1.laid (t' := tk) (fun b u e => ?_) (Nat.le_refl _) ⟨hlen, out, c, rz, hc⟩, rfl, q _ _ (.newList tr (I1.hok.fresh (Nat.le_refl _)) hlen lz)⟩
        rw [sortedHeap_old (Nat.ne_of_lt (Heap.lt_size e)) (by rw [size_push']; exact Nat.lt_succ_of_lt (Heap.lt_size e))]
        exact Heap.get?_push_of_some _ e
    · cases ho
  · exact c_sorted g pins s σ H xs us Q I r ⟨F, _, p, tr, h1, ho, q⟩
end
end Ow

namespace Ow
open PySem PyProof.Rows PySem.Spec L2 LamX
/-! ### {k: v for target in iter if test} -/
theorem put_keys {kvs : List (D × D)} {kd vd : D} : (putK kvs kd vd).map (fun p => hkD p.1) = if (kvs.any fun p => decide (hkD p.1 = hkD kd)) = true then kvs.map (fun p => hkD p.1) else kvs.map (fun p => hkD p.1) ++ [hkD kd] := by
  unfold putK
  split
  · rw [List.map_map]
    refine List.map_congr_left fun p _ => ?_
    show hkD (if hkD p.1 = hkD kd then (p.1, vd) else p).1 = hkD p.1
    split <;> rfl
  · rw [List.map_append] <;> rfl
theorem put_ok {kvs : List (D × D)} {kd vd : D} (h : dictOk kvs = true) (hk : keyT kd = true) : dictOk (putK kvs kd vd) = true := by
  unfold dictOk at h ⊢
  rw [Bool.and_eq_true, decide_eq_true_eq] at h ⊢
  refine ⟨?_, ?_⟩
  · rw [List.all_eq_true] at *
    intro p hp
    unfold putK at hp
    split at hp
    · obtain ⟨q, hq, rfl⟩ := List.mem_map.mp hp
      have h0 := h.1 q hq
      show keyT (if hkD q.1 = hkD kd then (q.1, vd) else q).1 = true
      split <;> exact h0
    · rcases List.mem_append.mp hp with hp | hp
      · exact h.1 p hp
      · rw [List.mem_singleton] at hp
        subst hp
        exact hk
  · rw [put_keys]
    split
    · exact h.2
    · rename_i hn
      refine List.nodup_append.mpr ⟨h.2, by simp, fun x hx y hy e => hn ?_⟩
      rw [List.mem_singleton] at hy
      subst hy
      subst e
      obtain ⟨p, hp, e⟩ := List.mem_map.mp hx
      exact List.any_eq_true.mpr ⟨p, hp, by simp [e]⟩
theorem put_len {kvs : List (D × D)} {kd vd : D} : (putK kvs kd vd).length ≤ kvs.length + 1 := by
  unfold putK
  split
  · rw [List.length_map]; omega
  · rw [List.length_append] <;> simp
def dcGo (own : List Nat) (tg : Tg) (tt : EvT) (ek ev : EvE) (bs : Src) : List D → AE → List (D × D) → Res (List (D × D))
  | [], ρ, acc => if stills bs ρ then .ok acc ρ else .stuck
  | d :: ds, ρ, acc => if stills bs ρ then (match bindT tg d ρ with
      | some ρ1 => (nox (tt ρ1)).bind fun b ρ2 => if b then (nox (ek ρ2)).bind fun p ρ3 => (if keyT p.1 = true then (nox (ev ρ3)).bind fun q ρ4 => dcGo own tg tt ek ev bs ds (wipeA own ρ4) (putK acc p.1 q.1) else .stuck) else dcGo own tg tt ek ev bs ds (wipeA own ρ2) acc
      | none => .stuck) else .stuck
def eDc (own : List Nat) (it : EvI) (tg : Tg) (tt : EvT) (ek ev : EvE) : EvE := fun ρ => (it ρ).bind fun p ρ0 => (dcGo own tg tt ek ev p.2 p.1 (wipeA own ρ0) []).bind fun acc ρ' => .ok (.dict acc, true) (restA own ρ0 ρ')
theorem dct_code {p : Addr} {es : List (V × Int × V)} {q : Str} : dctO p es ≠ CodeO p q := fun e => by
  have e1 := HO.ext.inj e
  let oc : Obj := { cls := .none, data := .fields #[.none, .str q 0] }
  let h0 : Heap := ⟨Array.replicate (p + 1) oc, {}⟩
  have g0 : h0.get? p = some oc := by
    unfold Heap.get?
    have : h0.objs[p]? = some oc := by
      show (Array.replicate (p + 1) oc)[p]? = some oc
      rw [Array.getElem?_replicate, if_pos (Nat.lt_succ_self p)]
    rw [this]
  have e2 := congrFun e1 h0
  have e3 : ∃ (o : Obj) (vs : Array Value) (t : Tok), h0.get? p = some o ∧ o.data = .fields vs ∧ vs[1]? = some (.str q t) := ⟨oc, _, 0, g0, rfl, rfl⟩
  rw [← e2] at e3
  obtain ⟨_, o, ents, ep, g1, _, g3, _⟩ := e3
  rw [g0] at g1
  cases g1
  cases g3
theorem soft_dct {p : Addr} {es : List (V × Int × V)} : Soft p (dctO p es) := ⟨(fun _ e => HO.noConfusion e), (fun _ => dct_code), (fun _ e => HO.noConfusion e), fun _ _ e => HO.noConfusion e⟩
section
variable {Γ : Ctx} {X : Cx} {sc scope : Scope} {st : Str → Bool} {k : Nat} {W : WX}
/-- a dict as it stands, with its keys' places -/
theorem dct_at {pins : List (Addr × Obj)} {σ : L2.St} {F : Addr → Prop} {H : Hp} {s : Shared} {kvs : List (D × D)} {a : Addr} {es : List (V × Int × V)} (hK : X.K = Γ.K) (hP : X.prog = Γ.prog) (hw : X.w = Γ.w) (I : Inv X pins σ H s) (ok : dictOk kvs = true) (ha : H a = some (dctO a es)) (hk : Γ.RK F H kvs es) :
    (a == sysModules) = false ∧ ∃ xs, s.heap.DictOfH (nestedKind X.prog X.w) a xs ∧ Paired (PairX Γ F H) kvs xs := by
  obtain ⟨⟨sm, o, ents, ep, g1, g2, g3, pe⟩, _, _⟩ := I.hok a _ ha
  simp only [dictOk, Bool.and_eq_true, List.all_eq_true, decide_eq_true_eq] at ok
  have go : ∀ (kvs : List (D × D)) (es : List (V × Int × V)) (l : List DictEntry), (∀ p ∈ kvs, keyT p.1 = true) → Γ.RK F H kvs es → Paired (fun (p : V × Int × V) (e : DictEntry) => RelV p.1 e.key ∧ e.hash = p.2.1 ∧ RelV p.2.2 e.val) es l →
      ∃ xs : List (NestedKey × Addr × Value), l = xs.map (entryOfKey (nestedKind X.prog X.w)) ∧ (∀ x ∈ xs, (nestedKind X.prog X.w).is s.heap x.1 x.2.1) ∧ xs.map (·.1) = kvs.map (fun p => hkD p.1) ∧ Paired (PairX Γ F H) kvs xs := fun kvs => by
    induction kvs with
    | nil =>
      intro es l _ h1 h2
      have h1 : RepK _ _ _ _ _ [] es := h1
      simp only [RepK] at h1
      subst h1
      cases h2
      exact ⟨[], rfl, (fun x h => by cases h), rfl, .nil⟩
    | cons p kvs ih =>
      intro es l hp h1 h2
      obtain ⟨kd, vd⟩ := p
      have h1 : RepK _ _ _ _ _ ((kd, vd) :: kvs) es := h1
      simp only [RepK] at h1
      obtain ⟨u, v, vs', rfl, r1, r2, r3⟩ := h1
      cases h2 with
      | cons e1 e2 =>
        rename_i en l'
        obtain ⟨xs, q1, q2, q3, q4⟩ := ih vs' l' (fun p hp' => hp p (List.mem_cons_of_mem _ hp')) r3 e2
        obtain ⟨b, eb, ev, isb⟩ := key_is hK I (hp (kd, vd) (by simp)) (RepR.of r1) e1.1
        subst ev
        refine ⟨(hkD kd, b, en.val) :: xs, ?_, fun x hx => ?_, by simp [q3], .cons ⟨rfl, r1, v, r2, e1.2.2⟩ q4⟩
        · rw [List.map_cons, ← q1]
          congr 1
          obtain ⟨eh, ek, ev⟩ := en
          simp only at eb e1
          have hh : eh = (nestedKind X.prog X.w).hash (hkD kd) := by
            rw [e1.2.1, hashD_eq, hP, hw]
          subst hh eb
          rfl
        · rcases List.mem_cons.mp hx with rfl | hx
          · exact isb
          · exact q2 x hx
  obtain ⟨xs, q1, q2, q3, q4⟩ := go kvs es ents.toList ok.1 hk pe
  exact ⟨sm, xs, ⟨o, ents, ep, g1, g2, g3, q1, q2, by rw [q3]; exact ok.2⟩, q4⟩
/-- the store of one pair: what it leaves -/
theorem dct_put {pins : List (Addr × Obj)} {σ : L2.St} {F : Addr → Prop} {H : Hp} {s : Shared} {kvs : List (D × D)} {a : Addr} {es : List (V × Int × V)} {xs : List (NestedKey × Addr × Value)} {kd vd : D} {b : Addr} {z : V} {u : Value} {h' : Heap} {tk : Nat} (hP : X.prog = Γ.prog) (hw : X.w = Γ.w)
    (I : Inv X pins σ H s) (ha : H a = some (dctO a es)) (sm : (a == sysModules) = false) (pk : Paired (PairX Γ F H) kvs xs) (rk : Γ.RV F H kd (.ref b)) (rv : Γ.RV F H vd z) (ru : RelV z u) (hd : h'.DictOfH (nestedKind X.prog X.w) a (storedH xs (hkD kd) b u)) (sb : Heap.SameBut a s.heap h') :
    ∃ es', Γ.RK F H (putK kvs kd vd) es' ∧ Inv X pins σ (upd H a (dctO a es')) { s with heap := h', toks := tk } := by
  have pk2 := pairX_put (p := (kd, vd)) (t := (hkD kd, b, u)) pk ⟨rfl, rk, z, rv, ru⟩
  obtain ⟨es', q1, q2⟩ := pairX_es (X := X) hP hw pk2
  have he : ∃ q, h'.get? a = some q := let ⟨o, _, _, g, _⟩ := hd; ⟨o, g⟩
  exact ⟨es', q1, d_write I (by rw [ha]; exact True.intro) sb he (dct_ok sm hd q2)⟩
theorem dct_len {F : Addr → Prop} {H : Hp} : ∀ {kvs : List (D × D)} {xs : List (NestedKey × Addr × Value)}, Paired (PairX Γ F H) kvs xs → xs.length = kvs.length
  | _, _, .nil => rfl
  | _, _, .cons _ t => by simp [dct_len t]
theorem key_ref {F : Addr → Prop} {H : Hp} {kd : D} {v : V} (h : keyT kd = true) (r : Γ.RV F H kd v) : ∃ b, v = .ref b := by
  cases kd with
  | tuple ds =>
    have r : RepV _ _ _ _ _ (.tuple ds) v := r
    simp only [RepV] at r
    obtain ⟨a, xs, rfl, _⟩ := r
    exact ⟨a, rfl⟩
  | _ => simp [keyT] at h
/-- what a turn may store -/
def rSet (Γ : Ctx) (D : Addr) (y z : V) (H : Hp) (Nx : Hp → Prop) : Prop := ∃ (F : Addr → Prop) (kvs : List (Ow.D × Ow.D)) (es : List (V × Int × V)) (kd vd : Ow.D), H D = some (dctO D es) ∧ Γ.RK F H kvs es ∧ Γ.RV F H kd y ∧ Γ.RV F H vd z ∧ dictOk kvs = true ∧ keyT kd = true ∧ kvs.length ≤ sizeLine ∧
  ∀ es', Γ.RK F H (putK kvs kd vd) es' → Nx (upd H D (dctO D es'))
theorem dct_dictSet {pins : List (Addr × Obj)} {σ : L2.St} {H : Hp} {s : Shared} {E : Value → Shared → Prop} {D : Addr} {y z : V} {u r : Value} {Nx : Hp → Prop} {Q : Unit → Shared → Prop} (hK : X.K = Γ.K) (hP : X.prog = Γ.prog) (hw : X.w = Γ.w) (hu : X.A.units + 8 < cLine) (I : Inv X pins σ H s)
    (ry : RelV y u) (rz : RelV z r) (g : rSet Γ D y z H Nx) (h : ∀ s' H', Inv X pins σ H' s' → Nx H' → Q () s') : wpAny (model X.prog X.w) X.A (dictSet D u r) Q E s := by
  obtain ⟨F, kvs, es, kd, vd, hD, rk, rkd, rvd, ok, hk, hz, nx⟩ := g
  obtain ⟨sm, xs, hm, pk⟩ := dct_at hK hP hw I ok hD rk
  obtain ⟨b, rfl⟩ := key_ref hk rkd
  obtain ⟨b', eb, eb', isb⟩ := key_is hK I hk (RepR.of rkd) ry
  cases eb'
  subst eb
  unfold dictSet
  refine wpAny_holding (wpAny_bind ((nestedKind X.prog X.w).pyHash hu isb ?_))
  refine wpAny_dictSetHashed_heap (knd := nestedKind X.prog X.w) (hsz := by rw [dct_len pk]; exact hz) hu isb hm fun h' hm' sb => ?_
  obtain ⟨es', q1, q2⟩ := dct_put (tk := s.toks + (nestedKind X.prog X.w).draws (hkD kd)) hP hw I hD sm pk rkd rvd rz hm' sb
  exact h _ _ q2 (nx es' q1)
end
end Ow

namespace Ow
open PySem PyProof.Rows PySem.Spec L2 LamX
/-! ### a comprehension's block: its door, what stands in it, what is left of it -/
section
variable {X : Cx} {pz : List (Addr × Obj)} {σ τ : L2.St} {scope : Scope} {fp : List Addr} {u s : Shared} {K H : Hp} {ce : Env}
/-- where a block is entered: the def's own context, and the source's objects apart from all that is tracked -/
structure Door (X : Cx) (pz : List (Addr × Obj)) (σ : L2.St) (fp : List Addr) (u : Shared) (K : Hp) : Prop where
  inv : Inv X pz σ K u
  apart : ∀ b ∈ fp, FpOk X pz K b
  small : ∀ b ∈ fp, b < u.heap.objs.size
/-- an object laid behind all others leaves the source where it stands -/
theorem door_new {o : Obj} {t : HO} (V : Inv X pz σ K u) (far : ∀ b ∈ fp, FpOk X pz K b) (there : ∀ b ∈ fp, ∃ q, u.heap.get? b = some q) (fine : ObjOk X.prog X.w (upd K u.heap.objs.size t) (u.heap.push o) u.heap.objs.size t) :
    Door X pz σ fp { u with heap := u.heap.push o } (upd K u.heap.objs.size t) := by
  have lt : ∀ b ∈ fp, b < u.heap.objs.size := fun b hb => (there b hb).elim fun _ e => Heap.lt_size e
  constructor
  · exact V.laid (t' := u.toks) (fun b q e => Heap.get?_push_of_some _ e) (Nat.le_refl _) fine
  · intro b hb
    have away : b ≠ u.heap.objs.size := Nat.ne_of_lt (lt b hb)
    exact ⟨(upd_ne away).trans (far b hb).1, (far b hb).2⟩
  · intro b hb
    show b < (u.heap.push o).objs.size
    rw [Heap.size_push]
    exact Nat.lt_succ_of_lt (lt b hb)
/-- in the block, too, the source's objects stand apart -/
theorem blk_apart (V : Inv (X.blk u K scope ce fp) [] τ H s) (n : ∀ b ∈ fp, H b = none) : ∀ b ∈ fp, FpOk (X.blk u K scope ce fp) [] H b := by
  intro b hb
  have far := V.ok.exf b hb
  refine ⟨n b hb, far.1, V.ok.exfs b hb, Or.inl hb, far.2, ?_⟩
  rintro p (hp : p ∈ ([] : List (Addr × Obj)) ++ [])
  simp at hp
/-- back through the door -/
theorem Door.back (d : Door X pz σ fp u K) (hl : ce.locals = u.heap.objs.size) (V : Inv (X.blk u K scope ce fp) [] τ H s) : Inv X pz σ H s ∧ FpOk X pz H u.heap.objs.size ∧ ∃ m, s.heap.Ns u.heap.objs.size m := by
  have none : H u.heap.objs.size = none := by
    have z : H ce.locals = none := V.free
    rwa [hl] at z
  refine ⟨d.inv.call' (ch := fp) V.os V.base V.hok V.bare fun b hb => ?_, d.inv.fpOk (Nat.le_refl _) none, ?_⟩
  · obtain ⟨-, a1, -, a3, a4, a5⟩ := d.apart b hb
    exact ⟨a3, a1, a4, a5⟩
  · obtain ⟨m, hm, -⟩ := V.loc
    have hm : s.heap.Ns ce.locals m := hm
    exact ⟨m, hl ▸ hm⟩
/-- a turn's end: the names of the block are empty again, the source stands as it stood behind the item -/
theorem blk_again {tg : Expr} {J : It} {it : Addr} {tn : Nat → Heap → Prop} {i : Nat} {vs : List Nat} {σ' : L2.St} {h : Heap} (T : Turn X.prog X.w X.K tg J fp it tn) (st : tn i h) (V : Inv (X.blk u K scope ce fp) ([] ++ pinsAt fp h) σ' H s) (e : wipe σ' vs = wipe σ vs) :
    Inv (X.blk u K scope ce fp) [] (wipe σ vs) H s ∧ tn i s.heap ∧ ∀ b ∈ fp, H b = none := by
  have held : ∀ b ∈ fp, ∀ o, h.get? b = some o → s.heap.get? b = some o ∧ H b = none := by
    intro b hb o eo
    have z := V.pin (b, o) (List.mem_append_right _ (List.mem_append_right _ (mem_pinsAt hb eo)))
    exact ⟨z.1, z.2.1⟩
  refine ⟨(V.unpinned (pins := [])).weak ?_ ?_, T.keep i h _ st fun b hb o eo => (held b hb o eo).1, fun b hb => ?_⟩
  · rw [← e, wipe_length]
  · intro j v ev
    rw [← e] at ev
    exact (wipe_some ev).1
  · obtain ⟨o, eo, -⟩ := T.obj i h st b hb
    exact (held b hb o eo).2
/-- the block's own objects behind those of the def: the source is not touched -/
theorem blk_opened {tg : Expr} {J : It} {it : Addr} {tn : Nat → Heap → Prop} {o q : Obj} {h : Heap} {names : List (Str × NameKind)} (T : Turn X.prog X.w X.K tg J fp it tn) (st : tn 0 h) : tn 0 (pushCells ((h.push o).push q) names) :=
  T.keep 0 h _ st fun b _ x ex => pushCells_keeps _ _ _ _ (Heap.get?_push_of_some _ (Heap.get?_push_of_some _ ex))
end
end Ow
namespace Ow
open PySem PyProof.Rows PySem.Spec L2 LamX
section
variable {Γ : Ctx} {X : Cx}
/-- one turn: the target, the tests, then the pair is put into the dict at D -/
def dxStep (Γ : Ctx) (g : TG) (tt : TT) (tk tv : TE) (vs : List Nat) (D : Addr) (σ : L2.St) (x : V) (H : Hp) (Ny : Hp → Prop) : Prop :=
  g x (wipe σ vs) H fun τ H2 => wipe τ vs = wipe σ vs ∧ tt τ H2 fun b H3 => if b = true then tk τ H3 fun y H4 => tv τ H4 fun z H5 => rSet Γ D y z H5 Ny else Ny H3
/-- all turns: W i m H between them, m what is at most to come -/
structure DxLoop (Γ : Ctx) (J : It) (g : TG) (tt : TT) (tk tv : TE) (vs : List Nat) (D : Addr) (σ : L2.St) (Q : VK) (W : Nat → Nat → Hp → Prop) : Prop where
  turn : ∀ i m H, W i m H → (J.stop i H ∧ Q (.ref D) H) ∨ (J.go i H ∧ ∃ Ny : Hp → Prop, (∀ H', Ny H' → ∃ k', k' < m ∧ W (i + 1) k' H') ∧ ∀ x H', J.yld i H x H' → dxStep Γ g tt tk tv vs D σ x H' Ny)
def tDx (Γ : Ctx) (wi : TI) (g : TG) (tt : TT) (tk tv : TE) (vs : List Nat) : TE := fun σ H Q => wi σ H fun J K1 => ∀ D, K1 D = none → ∃ W : Nat → Nat → Hp → Prop, (∃ m, W 0 m (upd K1 D (dctO D []))) ∧ DxLoop Γ J g tt tk tv vs D σ Q W
/-- what stands between the brackets, in whatever block -/
structure DxParts (X : Cx) (scope : Scope) (tg : Expr) (ifs : List Expr) (kx vx : Expr) (g : TG) (tt : TT) (tk tv : TE) : Prop where
  tgt : ∀ (s : Shared) (H : Hp) (C : Addr) (cl : List (Str × Addr)) (fp : List Addr), PG (X.blk s H scope (compEnvC scope cl C X.env) fp) tg g
  test : ∀ (s : Shared) (H : Hp) (C : Addr) (cl : List (Str × Addr)) (fp : List Addr), PTs (X.blk s H scope (compEnvC scope cl C X.env) fp) ifs tt
  key : ∀ (s : Shared) (H : Hp) (C : Addr) (cl : List (Str × Addr)) (fp : List Addr), PE (X.blk s H scope (compEnvC scope cl C X.env) fp) kx tk
  val : ∀ (s : Shared) (H : Hp) (C : Addr) (cl : List (Str × Addr)) (fp : List Addr), PE (X.blk s H scope (compEnvC scope cl C X.env) fp) vx tv
/-- the world a dict's comprehension wants -/
structure DxCtx (Γ : Ctx) (X : Cx) : Prop where
  K : X.K = Γ.K
  prog : X.prog = Γ.prog
  w : X.w = Γ.w
  room : X.A.units + 8 < cLine
  calm : X.calm = true
  names : X.N.Nodup
def dNone : Obj := { cls := .type "dict", data := .dict #[] }
theorem dNone_ok {P : Program} {w : World} {H : Hp} {h : Heap} (big : sysModules < h.objs.size) : ObjOk P w H (h.push dNone) h.objs.size (dctO h.objs.size []) := by
  have at_ : (h.push dNone).get? h.objs.size = some dNone := Heap.get?_push_size _ rfl
  have far : (h.objs.size == sysModules) = false := by
    rw [beq_eq_false_iff_ne]
    exact Nat.ne_of_gt big
  refine ⟨⟨far, dNone, #[], 0, at_, ⟨rfl, rfl, rfl⟩, rfl, Paired.nil⟩, ⟨dNone, at_⟩, ?_⟩
  rintro h1 h2 ⟨z, o, es, ep, f, rest⟩ keep
  exact ⟨z, o, es, ep, keep _ f, rest⟩
variable {pz : List (Addr × Obj)} {σ : L2.St} {u : Shared} {K : Hp} {fp : List Addr} {Q : VK} {kx vx tg iter : Expr} {ifs : List Expr} {scope : Scope} {own : List (Str × Nat)} {pos : Pos} {g : TG} {tt : TT} {tk tv : TE} {use : Option (Value → Sem Unit)} {Qz : Value → Shared → Prop}
/-- the block's loop, from behind its door -/
theorem dx_loop {it D : Addr} {tn : Nat → Heap → Prop} {J : It} {W : Nat → Nat → Hp → Prop} {cl : List (Str × Addr)} {ce : Env} {s : Shared} {m0 : Nat} (c : DxCtx Γ X) (p : DxParts X scope tg ifs kx vx g tt tk tv) (T : Turn X.prog X.w X.K tg J fp it tn) (d : Door X pz σ fp u K) (l : DxLoop Γ J g tt tk tv (own.map (·.2)) D σ Q W)
    (he : ce = compEnvC scope cl u.heap.objs.size X.env) (V : Inv (X.blk u K scope ce fp) [] (wipe σ (own.map (·.2))) K s) (st : tn 0 s.heap) (w0 : W 0 m0 K)
    (hEnd : ∀ C s' m H', Inv X pz σ H' s' → Q (.ref D) H' → s'.heap.Ns C m → FpOk X pz H' C → compPost (model X.prog X.w) X.A X.xe use Qz (.ref D) C (.ok .next) s') :
    codeAny (model X.prog X.w) X.A (.compLoop (.DictComp kx vx [⟨tg, iter, ifs, 0⟩] scope pos) 0 (.ref it) (.ref D) ce) (compPost (model X.prog X.w) X.A X.xe use Qz (.ref D) u.heap.objs.size) s := by
  have loc : ce.locals = u.heap.objs.size := by rw [he] <;> rfl
  let between : Nat → Shared → Prop := fun n s' => ∃ i H', Inv (X.blk u K scope ce fp) [] (wipe σ (own.map (·.2))) H' s' ∧ tn i s'.heap ∧ (∀ b ∈ fp, H' b = none) ∧ W i n H'
  refine L2.compLoop_anyD between ?_ m0 ⟨0, K, V, st, fun b hb => (d.apart b hb).1, w0⟩
  rintro n s1 ⟨i, H1, V1, st1, no1, w1⟩
  have away := blk_apart V1 no1
  rcases l.turn i n H1 w1 with ⟨stop, q⟩ | ⟨go, Ny, down, step⟩
  · refine thnF (T.done (X.blk u K scope ce fp) rfl rfl rfl c.calm i [] s1 _ H1 (fun _ _ => False) V1 away st1 stop) ?_
    rintro _ s2 ⟨rfl, V2⟩
    obtain ⟨out, foot, m, ns⟩ := d.back loc V2
    exact hEnd _ s2 m H1 out q ns foot
  · refine thnF (T.item (X.blk u K scope ce fp) rfl rfl rfl c.calm i [] s1 _ H1 (fun _ _ => False) V1 away st1 go) ?_
    rintro _ s2 ⟨v, rfl, nextv⟩
    refine thnF nextv ?_
    rintro _ s3 ⟨x, H3, V3, rel, y, st3, no3⟩
    have pin := V3.pinned (blk_apart V3 no3) (T.obj _ _ st3)
    -- what a whole turn leaves
    have again : ∀ {τ : L2.St} {s' : Shared} {H' : Hp}, wipe τ (own.map (·.2)) = wipe σ (own.map (·.2)) → Inv (X.blk u K scope ce fp) ([] ++ pinsAt fp s3.heap) τ H' s' → Ny H' → ∃ m, m < n ∧ between m s' := by
      intro τ s' H' e V' nx
      obtain ⟨a, b, c⟩ := blk_again T st3 V' e
      obtain ⟨m, lt, w'⟩ := down H' nx
      exact ⟨m, lt, i + 1, H', a, b, c, w'⟩
    have fT := p.tgt u K u.heap.objs.size cl fp
    have fI := p.test u K u.heap.objs.size cl fp
    have fK := p.key u K u.heap.objs.size cl fp
    have fV := p.val u K u.heap.objs.size cl fp
    rw [← he] at fT fI fK fV
    refine thnF (fT.run _ s3 _ H3 x v _ pin rel (step x H3 y)) ?_
    rintro _ s4 ⟨τ, H4, V4, e4, q4⟩
    refine thnF (fI.run _ s4 τ H4 _ V4 q4) ?_
    rintro (_ | _) s5 ⟨H5, V5, q5⟩
    · have q5 : Ny H5 := by simpa using q5
      simpa using again e4 V5 q5
    · simp only [if_true] at q5 ⊢
      refine thnF (fK.run _ s5 τ H5 _ V5 q5) ?_
      rintro yk s6 ⟨kv, H6, V6, r6, q6⟩
      refine thnF (fV.run _ s6 τ H6 _ V6 q6) ?_
      rintro yv s7 ⟨vv, H7, V7, r7, put⟩
      exact dct_dictSet (X := X.blk u K scope ce fp) c.K c.prog c.w c.room V7 r6 r7 put fun _ _ V8 nx => again e4 V8 nx
theorem dx_core {s : Shared} {H : Hp} {pos' : Pos} {wi : TI} (c : DxCtx Γ X) (p : DxParts X scope tg ifs kx vx g tt tk tv) (I : Inv X pz σ H s) (hi : PI X tg iter wi) (ok : BlkOk X.N X.env.scope scope own) (hs : ∀ x, foldedSetIterable iter X.env x = pure x)
    (h : tDx Γ wi g tt tk tv (own.map (·.2)) σ H Q) (hEnd : ∀ D C s' m H', Inv X pz σ H' s' → Q (.ref D) H' → s'.heap.Ns C m → FpOk X pz H' C → compPost (model X.prog X.w) X.A X.xe use Qz (.ref D) C (.ok .next) s') :
    wpAny (model X.prog X.w) X.A (comprehension (.DictComp kx vx [⟨tg, iter, ifs, 0⟩] scope pos) scope X.env pos' newDict false (eval iter X.env) use) Qz X.xe s := by
  have lent : ∀ y ∈ scope.names, y.2 = .free → ∃ a, X.env.cells.lookup y.1 = some a := fun y hy e => (ok.free y hy e).elim (fun k => I.ok.has _ (Or.inl k)) fun k => I.ok.has _ (Or.inr k)
  refine wpAny_comprehension_free (use := use) rfl hs (closure_ok lent) ok.kind (fun y hy e => by rw [ok.uniq y hy, e]) ?_
  refine thn (hi.run pz s σ H _ I h) fun _ _ got => thn got ?_
  rintro _ u ⟨it, fp, tn, J, K1, rfl, V, T, st, far, q⟩
  obtain ⟨W, ⟨m0, w0⟩, l⟩ := q u.heap.objs.size (V.hok.fresh (Nat.le_refl _))
  have door := door_new (o := dNone) V far (fun b hb => (T.obj _ _ st b hb).elim fun o e => ⟨o, e.1⟩) (dNone_ok V.big)
  refine wpAny_newObj_type (newEnv_comp ?_)
  have st2 := blk_opened (o := dNone) (q := dNone) (names := scope.names) T st
  refine codeAny_compStart_dict ?_ (T.self X.A 0 _ _ _ st2 ?_)
  all_goals exact dx_loop c p T door l rfl (block_start door.inv ok c.names fun b hb => ⟨door.apart b hb, door.small b hb⟩) st2 w0 (fun C => hEnd _ C)
/-- as a value -/
theorem pe_dx {wi : TI} (c : DxCtx Γ X) (p : DxParts X scope tg ifs kx vx g tt tk tv) (hi : PI X tg iter wi) (ok : BlkOk X.N X.env.scope scope own) (hs : ∀ x, foldedSetIterable iter X.env x = pure x := by intro _; rfl) :
    PE X (.DictComp kx vx [⟨tg, iter, ifs, 0⟩] scope pos) (tDx Γ wi g tt tk tv (own.map (·.2))) := by
  constructor
  intro pz s σ H Q I h
  rw [arm_eval_DictComp]
  refine dx_core c p I hi ok hs h ?_
  rintro D C s' m H' V q ns ⟨f0, f1, f2, f3, f4, f5⟩
  exact ⟨m, ns, fun h2 sb => ⟨.ref D, H', V.turned (t' := s'.toks) (fun b o hb e => (sb.2 b hb).trans e) f0 f1 f3 f4 f5, rfl, q⟩⟩
end
end Ow
namespace Ow
open PySem PyProof.Rows PySem.Spec L2 LamX
section
variable {Γ : Ctx} {X : Cx} {sc scope : Scope} {st : Str → Bool} {k : Nat} {W : WX}
/-- between two turns: from (F1, H1), the new dict at D -/
structure DInv (Γ : Ctx) (F1 : Addr → Prop) (H1 : Hp) (D : Addr) (τ : L2.St) (vs : List Nat) (R0 : Res (List (Ow.D × Ow.D))) (go : List Ow.D → AE → List (Ow.D × Ow.D) → Res (List (Ow.D × Ow.D))) (ds : List Ow.D) (i : Nat) (H : Hp) : Prop where
  ex : ∃ F ρ kvs es, GInv Γ F H ∧ RepS Γ F H τ ρ ∧ H D = some (dctO D es) ∧ Γ.RK F H kvs es ∧ ¬ F D ∧ (∀ i, ¬ OwnAt τ ρ i D) ∧ kvs.length ≤ i ∧ Fk F1 H1 F H ∧ (∀ i s, i ∈ vs → ρ[i]? = some s → s = .non) ∧ dictOk kvs = true ∧ R0 = go (ds.drop i) ρ kvs
theorem dc_imp {vs : List Nat} {it : EvI} {t : Tg} {tt : EvT} {ek ev : EvE} (hsl : ∀ i ∈ t.slots, i ∈ vs) : ∀ σ H (Q : VK), tD Γ W (eDc vs it t tt ek ev) σ H Q → tDx Γ (tI Γ W it) (gComp Γ t) (ttComp Γ tt) (teComp Γ ek) (teComp Γ ev) vs σ H Q := by
  intro σ H Q ⟨F, ρ, G, S, O⟩
  refine ⟨F, ρ, G, S, (Out.bind O).imp fun p ρ0 F1 H1 k1 G1 S1 O1 J us few srcs _ wlk D fresh => ?_⟩
  obtain ⟨ds, bs⟩ := p
  simp only at O1 few srcs wlk
  generalize hR : dcGo vs t tt ek ev bs ds (wipeA vs ρ0) [] = R0 at O1
  have sound : R0 ≠ .stuck := fun e => by rw [e] at O1; exact O1.elim
  obtain ⟨offF, off0⟩ := G1.fresh fresh
  have offF0 : ¬ Γ.F0 D := fun f => offF (G1.f0 D f)
  have offI : ∀ i, Γ.ino i ≠ some D := fun i e => G1.io i D e off0
  have laid : Ext H1 (upd H1 D (dctO D [])) := Ext.upd fresh
  have first : DInv Γ F1 H1 D (L2.wipe σ vs) vs R0 (dcGo vs t tt ek ev bs) ds 0 (upd H1 D (dctO D [])) :=
    ⟨F1, wipeA vs ρ0, [], [], G1.ext laid, (S1.ext G1.tr laid).wipe vs, upd_same, (show RepK _ _ _ _ _ [] [] by simp only [RepK]), offF, fun i o => ((S1.wipe vs).at_ o).2.ne fresh, Nat.le_refl _, Fk.ext G1.tr laid, fun i s hi e => wipeA_at vs ρ0 i s hi e, rfl, hR.symm⟩
  refine ⟨fun i m H => i ≤ ds.length ∧ m = ds.length - i ∧ DInv Γ F1 H1 D (L2.wipe σ vs) vs R0 (dcGo vs t tt ek ev bs) ds i H, ⟨_, Nat.zero_le _, rfl, first⟩, ⟨?_⟩⟩
  rintro i m H2 ⟨upto, rfl, ⟨F2, ρ2, kvs, es, G2, S2, at2, ent, off2, own2, short, k2, wiped2, okd, eq2⟩⟩
  have same : stills bs ρ2 = true := by
    cases hb : stills bs ρ2 with
    | true => rfl
    | false =>
      refine absurd (eq2.trans ?_) sound
      cases ds.drop i <;> (simp only [dcGo, hb]; rfl)
  have srcs2 : RepBs Γ F2 H2 (L2.wipe σ vs) bs us := RepBs.wiped wiped2 (srcs.mono k2) same
  obtain ⟨w1, w2, w3⟩ := wlk F2 H2 G2.tr (S2.reads srcs2 same)
  by_cases last : i = ds.length
  · left
    subst last
    refine ⟨w2, ?_⟩
    rw [List.drop_length] at eq2
    have eq3 : R0 = .ok kvs ρ2 := by
      rw [eq2]
      simp only [dcGo, same]
      rfl
    rw [eq3] at O1
    refine O1 F2 H2 k2 G2 (S1.back k2 vs S2) (.ref D) ?_
    unfold ResOk
    rw [if_pos (by rfl)]
    exact ⟨D, rfl, off2, off0, fun j o => own2 j o.back, es, at2, ent⟩
  · right
    have more : i < ds.length := by omega
    refine ⟨w1 i more, fun H' => DInv Γ F1 H1 D (L2.wipe σ vs) vs R0 (dcGo vs t tt ek ev bs) ds (i + 1) H', fun H' c => ⟨ds.length - (i + 1), by omega, by omega, rfl, c⟩, fun x H3 turned => ?_⟩
    obtain ⟨d, hd, e3, reads⟩ := w3 i x H3 more turned
    rw [drop_cons hd] at eq2
    simp only [dcGo, same, if_true] at eq2
    cases hb : bindT t d ρ2 with
    | none => rw [hb] at eq2; exact absurd eq2 sound
    | some ρ3 =>
      rw [hb] at eq2
      simp only at eq2
      have twice : L2.wipe (L2.wipe σ vs) vs = L2.wipe σ vs := wipe_eq vs σ _ (wipe_length _ _) fun j hj => wipe_out hj
      have at3 : H3 D = some (dctO D es) := e3 D _ at2
      refine ⟨(D, dctO D es), F2, ρ2, d, ρ3, (G2.ext e3).into at3 off0 off2 (fun _ e => HO.noConfusion e), (S2.ext G2.tr e3).into own2, reads, hb, fun σ4 h4 S4 => ?_⟩
      have hw4 : L2.wipe σ4 vs = L2.wipe σ vs := by
        refine (wipe_eq vs (L2.wipe σ vs) σ4 ?_ fun j hj => h4 j fun hj' => hj (hsl j hj')).trans twice
        rw [← S4.len, ← S2.len]
        exact bind_len _ _ _ _ hb
      refine ⟨hw4, ⟨(D, dctO D es), F2, ρ3, (G2.ext e3).into at3 off0 off2 (fun _ e => HO.noConfusion e), S4, Out.nox (W' := W0) ?_⟩⟩
      cases htt : nox (tt ρ3) with
      | stuck => rw [htt] at eq2; exact absurd eq2 sound
      | exc c => exact absurd htt nox_exc
      | ok b ρ4 =>
        rw [htt] at eq2
        simp only [Res.bind] at eq2
        intro F5 H5 k5 G5 S5
        have k25 : Fk F2 H2 F5 H5 := (Fk.ext G2.tr e3).trans k5
        cases b with
        | false =>
          rw [if_neg (by simp)] at eq2
          show DInv Γ F1 H1 D (L2.wipe σ vs) vs R0 (dcGo vs t tt ek ev bs) ds (i + 1) H5
          obtain ⟨G6, off6, at6⟩ := G5.outof off0 offF0 offI (by intro ps e; exact HO.noConfusion e)
          obtain ⟨S6, own6⟩ := S5.outof offI
          refine ⟨F5, wipeA vs ρ4, kvs, es, G6, by rw [← hw4]; exact S6.wipe vs, at6, RepK.mono k25 _ _ ent, off6, fun j o => ?_, by omega, k2.trans k25, fun j s hj e => wipeA_at vs ρ4 j s hj e, okd, eq2⟩
          rw [← hw4] at o
          exact own6 j o.unwipe
        | true =>
          rw [if_pos rfl] at eq2
          show teComp Γ ek σ4 H5 _
          refine ⟨(D, dctO D es), F5, ρ4, G5, S5, Out.nox (W' := W0) ?_⟩
          cases hek : nox (ek ρ4) with
          | stuck => rw [hek] at eq2; exact absurd eq2 sound
          | exc c => exact absurd hek nox_exc
          | ok q ρ5 =>
            rw [hek] at eq2
            simp only [Res.bind] at eq2
            by_cases hkey : keyT q.1 = true
            · rw [if_pos hkey] at eq2
              intro F6 H6 k6 G6 S6 y res6
              have im : isMut q.1 = false := by
                cases hq : q.1 <;> first | rfl | (rw [hq] at hkey; simp [keyT] at hkey)
              have ry : Γ.RV F6 H6 q.1 y := by
                unfold ResOk at res6
                rw [if_neg (by simp [im])] at res6
                exact res6
              refine ⟨(D, dctO D es), F6, ρ5, G6, S6, Out.nox (W' := W0) ?_⟩
              cases hev : nox (ev ρ5) with
              | stuck => rw [hev] at eq2; exact absurd eq2 sound
              | exc c => exact absurd hev nox_exc
              | ok r ρ6 =>
                rw [hev] at eq2
                simp only [Res.bind] at eq2
                intro F7 H7 k7 G7 S7 z res7
                obtain ⟨F8, k8, G8, S8, rz⟩ := res7.froze G7 S7
                obtain ⟨G9, off9, at9⟩ := G8.outof off0 offF0 offI (by intro ps e; exact HO.noConfusion e)
                obtain ⟨S9, own9⟩ := S8.outof offI
                have k78 : Fk F6 H6 F8 H7 := k7.trans k8
                have kk : Fk F2 H2 F8 H7 := (k25.trans k6).trans k78
                refine ⟨F8, kvs, es, q.1, r.1, at9, RepK.mono kk _ _ ent, RepV.mono k78 _ _ ry, rz, okd, hkey, by omega, fun es' ent' => ?_⟩
                have pk : Fk F8 H7 F8 (upd H7 D (dctO D es')) := Fk.put off9 at9 soft_dct
                refine ⟨F8, wipeA vs ρ6, putK kvs q.1 r.1, es', G9.put off9 (.inl off0) at9 soft_dct (fun _ e => HO.noConfusion e), ?_, upd_same, RepK.mono pk _ _ ent', off9, fun j o => ?_, Nat.le_trans put_len (by omega), (k2.trans kk).trans pk, fun j s hj e => wipeA_at vs ρ6 j s hj e, put_ok okd hkey, eq2⟩
                · rw [← hw4]
                  exact (S9.mono pk fun i a o => ⟨upd_ne fun e => own9 i (e ▸ o), (S9.at_ o).1⟩).wipe vs
                · rw [← hw4] at o
                  exact own9 j o.unwipe
            · rw [if_neg hkey] at eq2
              exact absurd eq2 sound
theorem de_dc {kx vx tg iter : Expr} {ifs : List Expr} {own : List (Str × Nat)} {pos : Pos} {it : EvI} {t : Tg} {tt : EvT} {ek ev : EvE} (g : Gd Γ X sc st k) (hh : Γ.hot = false) (hi : PI X tg iter (tI Γ W it)) (ok : blkC Γ.N sc scope own = true) (hsl : t.slots.all (fun i => (own.map (·.2)).contains i) = true)
    (hg : ∀ p o X', GdT (Γ.apart p o) X' (relS scope sc) (stOf scope) k W0 → PG X' tg (tG (Γ.apart p o) t)) (ht : ∀ p o X', GdT (Γ.apart p o) X' (relS scope sc) (stOf scope) k W0 → PTs X' ifs (tT (Γ.apart p o) W0 tt))
    (hk : ∀ p o X', GdT (Γ.apart p o) X' (relS scope sc) (stOf scope) k W0 → PE X' kx (tD (Γ.apart p o) W0 ek)) (hv : ∀ p o X', GdT (Γ.apart p o) X' (relS scope sc) (stOf scope) k W0 → PE X' vx (tD (Γ.apart p o) W0 ev)) (hs : ∀ x, foldedSetIterable iter X.env x = pure x) :
    PE X (.DictComp kx vx [⟨tg, iter, ifs, 0⟩] scope pos) (tD Γ W (eDc (own.map (·.2)) it t tt ek ev)) := by
  have okb : BlkOk X.N X.env.scope scope own := by rw [g.N, g.scp]; exact blkOk_by ok
  have hu := g.room.un
  exact pe_imp (pe_dx (Γ := Γ) (g := gComp Γ t) (tt := ttComp Γ tt) (tk := teComp Γ ek) (tv := teComp Γ ev) ⟨g.K, g.prog, g.w, by omega, g.calm hh, by rw [g.N]; exact g.nd⟩
    ⟨fun s H C cl fp => pg_ex fun z => hg _ _ _ ⟨gd_apart (gd_blk g) z.1 z.2, takesN0⟩, fun s H C cl fp => pts_ex fun z => ht _ _ _ ⟨gd_apart (gd_blk g) z.1 z.2, takesN0⟩, fun s H C cl fp => pe_ex fun z => hk _ _ _ ⟨gd_apart (gd_blk g) z.1 z.2, takesN0⟩, fun s H C cl fp => pe_ex fun z => hv _ _ _ ⟨gd_apart (gd_blk g) z.1 z.2, takesN0⟩⟩ hi okb hs) (dc_imp fun i hi => by
      have := List.all_eq_true.mp hsl i hi
      simpa using this)
end
end Ow

namespace Ow
open PySem PyProof.Rows PySem.Spec L2 LamX
/-- what is read as it is: plain things, tuples and lists of such, not too deep -/
def rdOk : Nat → D → Bool
  | _, .none => true
  | _, .bool _ => true
  | _, .int _ => true
  | n + 1, .tuple ds => ds.all (rdOk n)
  | n + 1, .list ds => ds.all (rdOk n)
  | _, _ => false
def readD2 (d : D) : Option D := if rdOk 7 d = true then some d else Option.none
/-- tables apart: their names are told by their places -/
theorem tab_by {T : List (Addr × Str)} {p q : Addr × Str} (nd : (T.map (·.1)).Nodup) (hp : p ∈ T) (hq : q ∈ T) (h : p.1 = q.1) : p.2 = q.2 := by
  induction T with
  | nil => cases hp
  | cons t T ih =>
    rw [List.map_cons, List.nodup_cons] at nd
    rcases List.mem_cons.mp hp with e1 | hp'
    · rcases List.mem_cons.mp hq with e2 | hq'
      · rw [e1, e2]
      · exact absurd (List.mem_map.mpr ⟨q, hq', by rw [← h, e1]⟩) nd.1
    · rcases List.mem_cons.mp hq with e2 | hq'
      · exact absurd (List.mem_map.mpr ⟨p, hp', by rw [h, e2]⟩) nd.1
      · exact ih nd.2 hp' hq'
/-- x, y = a, b, the names cells: no swap -/
theorem sp_cell {Γ : Ctx} {X : Cx} {sc : Scope} {st : Str → Bool} {k : Nat} {x y : Str} {a b : Expr} {px py pt : Pos} {kt k2 : Nat} {pt2 : Pos} (g : Gd Γ X sc st k) (hx : sc.names.lookup x = some .cell) (h1 : ([a, b].any fun | .Starred .. => true | _ => false) = false) :
    swappedStores [.Tuple [.Name x px, .Name y py] kt pt] (.Tuple [a, b] k2 pt2) X.env = pure none := by
  have kx : X.env.kindOf x = some .cell := by show X.env.scope.names.lookup x = _; rw [g.scp]; exact hx
  unfold swappedStores
  simp only [h1]
  by_cases hb : X.env.blockKind = .function
  · by_cases hy : X.env.kindOf y = some .local ∧ py.line = px.line
    · simp [kx, hb, List.filterMap, hy.1, hy.2, Expr.pos]
    · have hy2 : (X.env.kindOf y == some .local && py.line == px.line) = false := by
        simpa using hy
      simp [kx, hb, List.filterMap, hy2, Expr.pos]
  · simp [hb]
end Ow

namespace Ow
open PySem PyProof.Rows PySem.Spec L2 LamX
/-- a list of one's own, left as it is from here on, so that a lambda may read it -/
def eFrz (i : Nat) (f : EvE) : EvE := fun ρ => match ρ[i]? with
  | some (.own d) => f (ρ.set i (.val d))
  | _ => f ρ
theorem de_frz {Γ : Ctx} {X : Cx} {W : WX} {e : Expr} {i : Nat} {f : EvE} (h : PE X e (tD Γ W f)) : PE X e (tD Γ W (eFrz i f)) := pe_imp h fun σ H Q ⟨F, ρ, G, S, O⟩ => by
  unfold eFrz at O
  split at O
  · rename_i d hd
    obtain ⟨a, ea, fa, z, t⟩ := S.own i d hd
    exact ⟨fun b => F b ∨ b = a, ρ.set i (.val d), G.froze t.some z, S.frz hd ea, Out.fk O (Fk.grow fun _ h => .inl h)⟩
  · exact ⟨F, ρ, G, S, O⟩
/-- the same for what a loop walks -/
def iFrz (i : Nat) (it : EvI) : EvI := fun ρ => match ρ[i]? with
  | some (.own d) => it (ρ.set i (.val d))
  | _ => it ρ
theorem di_frz {Γ : Ctx} {X : Cx} {W : WX} {tg e : Expr} {i : Nat} {it : EvI} (h : PI X tg e (tI Γ W it)) : PI X tg e (tI Γ W (iFrz i it)) := pi_imp h fun σ H R ⟨F, ρ, G, S, O⟩ => by
  unfold iFrz at O
  split at O
  · rename_i d hd
    obtain ⟨a, ea, fa, z, t⟩ := S.own i d hd
    exact ⟨fun b => F b ∨ b = a, ρ.set i (.val d), G.froze t.some z, S.frz hd ea, Out.fk O (Fk.grow fun _ h => .inl h)⟩
  · exact ⟨F, ρ, G, S, O⟩
end Ow

namespace Hd
open PySem PyProof.Rows PySem.Spec L2
def top (i : Nat) : Stmt := PySem.Challenge.pw_oncewhole_k09_states_and_products.main.body.getD i (.Pass ⟨0, 0, 0, 0⟩)
abbrev s_is_word : Stmt := top 11
abbrev s_is_signed : Stmt := top 12
abbrev s_go_together : Stmt := top 13
abbrev s_third : Stmt := top 14
abbrev s_turns : Stmt := top 15
abbrev s_product : Stmt := top 16
abbrev s_products : Stmt := top 17
abbrev s_is_state : Stmt := top 18
abbrev s_check_state : Stmt := top 19
abbrev s_places_of : Stmt := top 20
abbrev s_multiply : Stmt := top 21
abbrev s_held_by : Stmt := top 22
abbrev s_holds : Stmt := top 23
abbrev s__law_read : Stmt := top 25
abbrev s__law_cell : Stmt := top 26
abbrev s__law_stream : Stmt := top 27
abbrev s__law_draw : Stmt := top 28
abbrev s__law_told : Stmt := top 29
abbrev s__law_parts : Stmt := top 30
abbrev s__law_times : Stmt := top 31
abbrev s__law_held : Stmt := top 32
abbrev s__law_words : Stmt := top 33
abbrev s__law_state : Stmt := top 34
abbrev s__law_is_word : Stmt := top 35
abbrev s__law_is_signed : Stmt := top 36
abbrev s__law_is_state : Stmt := top 37
abbrev s__law_signed : Stmt := top 38
abbrev s__law_other_state : Stmt := top 39
abbrev s__law_multiply_right : Stmt := top 40
abbrev s_law : Stmt := top 41
end Hd
namespace Ow
open PySem PyProof.Rows PySem.Spec L2 LamX
def bnames : List Str := ["abs", "all", "any", "dict", "int", "isinstance", "len", "list", "range", "repr", "sorted", "str", "sum", "tuple", "zip"]
abbrev Bare (Γ : Ctx) : Prop := ∀ x : Str, x ∈ bnames → Γ.mg x = none
structure Ints (Γ : Ctx) : Prop where
  c_MOST_PLACES : ∃ t, Γ.mg "MOST_PLACES" = some (.int 4 t)
structure Errs (Γ : Ctx) : Prop where
  r_WholeError : ErrAt Γ "WholeError"
  r_BadSchema : ErrAt Γ "BadSchema"
  r_BadKind : ErrAt Γ "BadKind"
  r_BadTable : ErrAt Γ "BadTable"
  r_BadPaper : ErrAt Γ "BadPaper"
  r_BadState : ErrAt Γ "BadState"
  r_NotAgreeing : ErrAt Γ "NotAgreeing"
  r_OutOfRange : ErrAt Γ "OutOfRange"
def _law_draw_F : StF := (sSeq (sIf (tVal (eBin dGt (oOf (eBin dIx (oVar 0) (oOf (eCon (.int 0))))) (oOf (eCon (.int 0))))) (sSeq (sAsg 2 (eBin dMod (oOf (eBin dIx (oVar 0) (oOf (eCon (.int 0))))) (oVar 1))) (sSeq (sSub 0 (oOf (eCon (.int 0))) (eBin dDiv (oOf (eBin dIx (oVar 0) (oOf (eCon (.int 0))))) (oVar 1))) (sRet (eOps dInt [(oVar 2)])))) sNx) (sSeq (sSub 0 (oOf (eCon (.int 1))) (eBin dMod (oOf (eOps dInt [(oOf (eBin dAdd (oOf (eBin dMul (oOf (eBin dIx (oVar 0) (oOf (eCon (.int 1))))) (oOf (eCon (.int 48271))))) (oOf (eCon (.int 12345)))))])) (oOf (eCon (.int 2147483647))))) (sRet (eBin dMod (oOf (eOps dInt [(oOf (eBin dDiv (oOf (eBin dIx (oVar 0) (oOf (eCon (.int 1))))) (oOf (eCon (.int 64)))))])) (oVar 1)))))
def _law_draw_S : Fun := runF _law_draw_F 3 [true, false]
theorem f__law_draw {Γ : Ctx} (D0 : ∃ fd, FunD Γ.K "_law_draw" "_law_draw" (defArgs Hd.s__law_draw) (defBody Hd.s__law_draw) (defScope Hd.s__law_draw) [] [] (He.fAd Γ.K ("_law_draw", none)) fd) (m0 : Γ.mg "_law_draw" = some (.ref (He.fAd Γ.K ("_law_draw", none)))) (B : Bare Γ) : FnAt Γ false 1 "_law_draw" ["box", "many"] [true, false] _law_draw_S := by
  obtain ⟨fd, Fd⟩ := D0
  refine fnAt_of (k := 0) (N := ["box", "many", "told"]) Fd ⟨by kernel_rfl, by kernel_rfl, by kernel_rfl, by decide +kernel, by decide +kernel, by decide +kernel, by decide +kernel⟩ m0 (FunD.bindsN Fd fun _ _ _ _ _ _ us hl => match us, hl with | [_, _], _ => rfl) rfl rfl (as := [0, 1, 2]) fun F0 H0 ino X W g hq hc => ?_
  unfold _law_draw_F
  exact (dss_cons (ds_if (dt_cmp (o_gt g.toGdT.toGd) op2_of (do_of (de_ix (o_ix g.toGdT.toGd) op2_of (do_var g.toGdT.toGd rfl (.inl (by kernel_rfl)) (by decide) (by decide)) (do_of de_int) (fun _ _ => rfl))) (do_of de_int) rfl) (dss_cons (ds_asg g.toGdT.toGd rfl (by kernel_rfl) (by decide) (de_binop (o_mod) op2_of (do_of (de_ix (o_ix g.toGdT.toGd) op2_of (do_var g.toGdT.toGd rfl (.inl (by kernel_rfl)) (by decide) (by decide)) (do_of de_int) (fun _ _ => rfl))) (do_var g.toGdT.toGd rfl (.inl (by kernel_rfl)) (by decide) (by decide))) rfl) (dss_cons (ds_sub (de_binop (o_div) op2_of (do_of (de_ix (o_ix g.toGdT.toGd) op2_of (do_var g.toGdT.toGd rfl (.inl (by kernel_rfl)) (by decide) (by decide)) (do_of de_int) (fun _ _ => rfl))) (do_var g.toGdT.toGd rfl (.inl (by kernel_rfl)) (by decide) (by decide))) (dg_sub g.toGdT.toGd rfl (.inl (by kernel_rfl)) (by decide) (by decide) (do_of de_int) (fun _ => rfl)) rfl rfl rfl) (dss_one (ds_ret (de_bty g.toGdT.toGd (c_int) (by kernel_rfl) (B "int" (by decide)) (by decide +kernel) (da_cons (do_var g.toGdT.toGd rfl (.inl (by kernel_rfl)) (by decide) (by decide)) da_nil rfl) (by decide) (by decide) rfl rfl))))) dss_nil) (dss_cons (ds_sub (de_binop (o_mod) op2_of (do_of (de_bty g.toGdT.toGd (c_int) (by kernel_rfl) (B "int" (by decide)) (by decide +kernel) (da_cons (do_of (de_binop (o_add g.toGdT.toGd) op2_of (do_of (de_binop (o_mul g.toGdT.toGd) op2_of (do_of (de_ix (o_ix g.toGdT.toGd) op2_of (do_var g.toGdT.toGd rfl (.inl (by kernel_rfl)) (by decide) (by decide)) (do_of de_int) (fun _ _ => rfl))) (do_of de_int))) (do_of de_int))) da_nil rfl) (by decide) (by decide) rfl rfl)) (do_of de_int)) (dg_sub g.toGdT.toGd rfl (.inl (by kernel_rfl)) (by decide) (by decide) (do_of de_int) (fun _ => rfl)) rfl rfl rfl) (dss_one (ds_ret (de_binop (o_mod) op2_of (do_of (de_bty g.toGdT.toGd (c_int) (by kernel_rfl) (B "int" (by decide)) (by decide +kernel) (da_cons (do_of (de_binop (o_div) op2_of (do_of (de_ix (o_ix g.toGdT.toGd) op2_of (do_var g.toGdT.toGd rfl (.inl (by kernel_rfl)) (by decide) (by decide)) (do_of de_int) (fun _ _ => rfl))) (do_of de_int))) da_nil rfl) (by decide) (by decide) rfl rfl)) (do_var g.toGdT.toGd rfl (.inl (by kernel_rfl)) (by decide) (by decide)))))))
def _law_times_F : StF := (sSeq (sParO 2 3 (eLst []) (eCon (.int 0))) (sSeq (sFor [0, 1, 2, 3, 4, 5] (iZip (oOf (eBin dIx (oVar 0) (oOf (eCon (.int 1))))) (oOf (eBin dIx (oVar 1) (oOf (eCon (.int 1)))))) (.tup [(.name 4), (.name 5)]) (sSeq (sApp 2 (eIte (tOr2 (tVal (eBin dEq (oVar 4) (oOf (eCon (.int 0))))) (tVal (eBin dEq (oVar 5) (oOf (eCon (.int 0)))))) (eBin dAdd (oVar 4) (oVar 5)) (eIte (tVal (eBin dEq (oVar 4) (oVar 5))) (eCon (.int 0)) (eBin dSub (oOf (eBin dSub (oOf (eCon (.int 6))) (oVar 4))) (oVar 5))))) (sAsg 3 (eBin dSub (oOf (eBin dAdd (oVar 3) (oOf (eOps dInt [(oOf (eBin dIn (oOf (eTup [(eVar 4), (eVar 5)])) (oOf (eTup [(eTup [(eCon (.int 1)), (eCon (.int 2))]), (eTup [(eCon (.int 2)), (eCon (.int 3))]), (eTup [(eCon (.int 3)), (eCon (.int 1))])]))))])))) (oOf (eOps dInt [(oOf (eBin dIn (oOf (eTup [(eVar 4), (eVar 5)])) (oOf (eTup [(eTup [(eCon (.int 2)), (eCon (.int 1))]), (eTup [(eCon (.int 3)), (eCon (.int 2))]), (eTup [(eCon (.int 1)), (eCon (.int 3))])]))))])))))) (sRet (eTup [(eBin dMod (oOf (eBin dAdd (oOf (eBin dAdd (oOf (eBin dIx (oVar 0) (oOf (eCon (.int 0))))) (oOf (eBin dIx (oVar 1) (oOf (eCon (.int 0))))))) (oOf (eBin dDiv (oVar 3) (oOf (eCon (.int 2))))))) (oOf (eCon (.int 2)))), (eOps dTuple [(oVar 2)])]))))
def _law_times_S : Fun := runF _law_times_F 6 [false, false]
theorem f__law_times {Γ : Ctx} (D0 : ∃ fd, FunD Γ.K "_law_times" "_law_times" (defArgs Hd.s__law_times) (defBody Hd.s__law_times) (defScope Hd.s__law_times) [] [] (He.fAd Γ.K ("_law_times", none)) fd) (m0 : Γ.mg "_law_times" = some (.ref (He.fAd Γ.K ("_law_times", none)))) (B : Bare Γ) : FnAt Γ false 1 "_law_times" ["one", "two"] [false, false] _law_times_S := by
  obtain ⟨fd, Fd⟩ := D0
  refine fnAt_of (k := 0) (N := ["one", "two", "word", "turns_v", "a", "b"]) Fd ⟨by kernel_rfl, by kernel_rfl, by kernel_rfl, by decide +kernel, by decide +kernel, by decide +kernel, by decide +kernel⟩ m0 (FunD.bindsN Fd fun _ _ _ _ _ _ us hl => match us, hl with | [_, _], _ => rfl) rfl rfl (as := [0, 1, 2, 3, 4, 5]) fun F0 H0 ino X W g hq hc => ?_
  unfold _law_times_F
  exact (dss_cons (ds_parO g.toGdT.toGd rfl rfl rfl (by decide) (by kernel_rfl) (by kernel_rfl) (by decide) (by decide) (de_lst des_nil (by decide)) (fun p1 o1 g1 => de_int) rfl rfl (sp_two g.toGdT.toGd (by kernel_rfl) (by kernel_rfl) (by kernel_rfl) (by decide) rfl rfl rfl rfl) rfl) (dss_cons (ds_for g rfl (by decide) (di_zip g.toGdT.toGd (by kernel_rfl) (B "zip" (by decide)) (do_of (de_ix (o_ix g.toGdT.toGd) op2_of (do_var g.toGdT.toGd rfl (.inl (by kernel_rfl)) (by decide) (by decide)) (do_of de_int) (fun _ _ => rfl))) (do_of (de_ix (o_ix g.toGdT.toGd) op2_of (do_var g.toGdT.toGd rfl (.inl (by kernel_rfl)) (by decide) (by decide)) (do_of de_int) (fun _ _ => rfl))) rfl rfl) (dg_tup g.toGdT.toGd rfl (dgs_cons (dg_name g.toGdT.toGd rfl (by kernel_rfl)) (dgs_cons (dg_name g.toGdT.toGd rfl (by kernel_rfl)) dgs_nil rfl) rfl) rfl rfl rfl) (dss_cons (ds_app g.toGdT.toGd rfl (.inl (by kernel_rfl)) (by decide) (by decide) (de_ite (dw_or (dt_cmp (o_eq g.toGdT.toGd) op2_of (do_var g.toGdT.toGd rfl (.inl (by kernel_rfl)) (by decide) (by decide)) (do_of de_int) rfl) (dw_or1 (dt_cmp (o_eq g.toGdT.toGd) op2_of (do_var g.toGdT.toGd rfl (.inl (by kernel_rfl)) (by decide) (by decide)) (do_of de_int) rfl))).pt (de_binop (o_add g.toGdT.toGd) op2_of (do_var g.toGdT.toGd rfl (.inl (by kernel_rfl)) (by decide) (by decide)) (do_var g.toGdT.toGd rfl (.inl (by kernel_rfl)) (by decide) (by decide))) (de_ite (dt_cmp (o_eq g.toGdT.toGd) op2_of (do_var g.toGdT.toGd rfl (.inl (by kernel_rfl)) (by decide) (by decide)) (do_var g.toGdT.toGd rfl (.inl (by kernel_rfl)) (by decide) (by decide)) rfl) de_int (de_binop (o_sub) op2_of (do_of (de_binop (o_sub) op2_of (do_of de_int) (do_var g.toGdT.toGd rfl (.inl (by kernel_rfl)) (by decide) (by decide)))) (do_var g.toGdT.toGd rfl (.inl (by kernel_rfl)) (by decide) (by decide))))) rfl rfl rfl rfl) (dss_one (ds_asg g.toGdT.toGd rfl (by kernel_rfl) (by decide) (de_binop (o_sub) op2_of (do_of (de_binop (o_add g.toGdT.toGd) op2_of (do_var g.toGdT.toGd rfl (.inl (by kernel_rfl)) (by decide) (by decide)) (do_of (de_bty g.toGdT.toGd (c_int) (by kernel_rfl) (B "int" (by decide)) (by decide +kernel) (da_cons (do_of (de_cmp (o_in g.toGdT.toGd) op2_of (do_of (de_tup (des_cons (de_var g.toGdT.toGd rfl (.inl (by kernel_rfl)) (by decide) (by decide)) (des_cons (de_var g.toGdT.toGd rfl (.inl (by kernel_rfl)) (by decide) (by decide)) des_nil rfl) rfl) (by decide))) (do_of (de_tup (des_cons (de_tup (des_cons de_int (des_cons de_int des_nil rfl) rfl) (by decide)) (des_cons (de_tup (des_cons de_int (des_cons de_int des_nil rfl) rfl) (by decide)) (des_cons (de_tup (des_cons de_int (des_cons de_int des_nil rfl) rfl) (by decide)) des_nil rfl) rfl) rfl) (by decide))) rfl)) da_nil rfl) (by decide) (by decide) rfl rfl)))) (do_of (de_bty g.toGdT.toGd (c_int) (by kernel_rfl) (B "int" (by decide)) (by decide +kernel) (da_cons (do_of (de_cmp (o_in g.toGdT.toGd) op2_of (do_of (de_tup (des_cons (de_var g.toGdT.toGd rfl (.inl (by kernel_rfl)) (by decide) (by decide)) (des_cons (de_var g.toGdT.toGd rfl (.inl (by kernel_rfl)) (by decide) (by decide)) des_nil rfl) rfl) (by decide))) (do_of (de_tup (des_cons (de_tup (des_cons de_int (des_cons de_int des_nil rfl) rfl) (by decide)) (des_cons (de_tup (des_cons de_int (des_cons de_int des_nil rfl) rfl) (by decide)) (des_cons (de_tup (des_cons de_int (des_cons de_int des_nil rfl) rfl) (by decide)) des_nil rfl) rfl) rfl) (by decide))) rfl)) da_nil rfl) (by decide) (by decide) rfl rfl))) rfl))) (fun _ => rfl)) (dss_one (ds_ret (de_tup (des_cons (de_binop (o_mod) op2_of (do_of (de_binop (o_add g.toGdT.toGd) op2_of (do_of (de_binop (o_add g.toGdT.toGd) op2_of (do_of (de_ix (o_ix g.toGdT.toGd) op2_of (do_var g.toGdT.toGd rfl (.inl (by kernel_rfl)) (by decide) (by decide)) (do_of de_int) (fun _ _ => rfl))) (do_of (de_ix (o_ix g.toGdT.toGd) op2_of (do_var g.toGdT.toGd rfl (.inl (by kernel_rfl)) (by decide) (by decide)) (do_of de_int) (fun _ _ => rfl))))) (do_of (de_binop (o_div) op2_of (do_var g.toGdT.toGd rfl (.inl (by kernel_rfl)) (by decide) (by decide)) (do_of de_int))))) (do_of de_int)) (des_cons (de_bty g.toGdT.toGd (c_tuple g.toGdT.toGd) (by kernel_rfl) (B "tuple" (by decide)) (by decide +kernel) (da_cons (do_var g.toGdT.toGd rfl (.inl (by kernel_rfl)) (by decide) (by decide)) da_nil rfl) (by decide) (by decide) rfl rfl) des_nil rfl) rfl) (by decide))))))
def _law_held_F : StF := (sSeq (sAsg 2 (eLst [(eTup [(eCon (.int 0)), (eBin dMul (oOf (eTup [(eCon (.int 0))])) (oVar 0))])])) (sSeq (sFor [0, 1, 2, 3] (iSeq (oVar 1)) (.name 3) (sAsg 2 (eBin dAdd (oVar 2) (oOf (eComp [4] (iSeq (oVar 2)) (.name 4) tTrue (eCall _law_times_S [.val (eVar 4), .val (eVar 3)])))))) (sRet (eOps dDict [(oOf (eComp [5, 6] (iSeq (oVar 2)) (.tup [(.name 5), (.name 6)]) tTrue (eTup [(eVar 6), (eVar 5)])))]))))
def _law_held_S : Fun := runF _law_held_F 7 [false, false]
theorem f__law_held {Γ : Ctx} (h__law_times : FnAt Γ false 1 "_law_times" ["one", "two"] [false, false] _law_times_S) (D0 : ∃ fd, FunD Γ.K "_law_held" "_law_held" (defArgs Hd.s__law_held) (defBody Hd.s__law_held) (defScope Hd.s__law_held) [] [] (He.fAd Γ.K ("_law_held", none)) fd) (m0 : Γ.mg "_law_held" = some (.ref (He.fAd Γ.K ("_law_held", none)))) (B : Bare Γ) : FnAt Γ false 2 "_law_held" ["places", "state"] [false, false] _law_held_S := by
  obtain ⟨fd, Fd⟩ := D0
  refine fnAt_of (k := 1) (N := ["places", "state", "held", "one", "some", "s", "word"]) Fd ⟨by kernel_rfl, by kernel_rfl, by kernel_rfl, by decide +kernel, by decide +kernel, by decide +kernel, by decide +kernel⟩ m0 (FunD.bindsN Fd fun _ _ _ _ _ _ us hl => match us, hl with | [_, _], _ => rfl) rfl rfl (as := [0, 1, 2, 3]) fun F0 H0 ino X W g hq hc => ?_
  unfold _law_held_F
  exact (dss_cons (ds_asg g.toGdT.toGd rfl (by kernel_rfl) (by decide) (de_lst (des_cons (de_tup (des_cons de_int (des_cons (de_binop (o_mul g.toGdT.toGd) op2_of (do_of (de_tup (des_cons de_int des_nil rfl) (by decide))) (do_var g.toGdT.toGd rfl (.inl (by kernel_rfl)) (by decide) (by decide))) des_nil rfl) rfl) (by decide)) des_nil rfl) (by decide)) rfl) (dss_cons (ds_for g rfl (by decide) (di_seq g.toGdT.toGd (do_var g.toGdT.toGd rfl (.inl (by kernel_rfl)) (by decide) (by decide))) (dg_name g.toGdT.toGd rfl (by kernel_rfl)) (dss_one (ds_asg g.toGdT.toGd rfl (by kernel_rfl) (by decide) (de_binop (o_add g.toGdT.toGd) op2_of (do_var g.toGdT.toGd rfl (.inl (by kernel_rfl)) (by decide) (by decide)) (do_of (de_comp g.toGdT.toGd rfl (di_seq g.toGdT.toGd (do_var g.toGdT.toGd rfl (.inl (by kernel_rfl)) (by decide) (by decide))) (own := [("some", 4)]) (by kernel_rfl) (by decide) (fun p1 o1 X1 g1 => (dg_name g1.toGd rfl (by kernel_rfl))) (fun p1 o1 X1 g1 => dts_nil) (fun p1 o1 X1 g1 => (de_callA g1 rfl ((h__law_times.mono (by omega)).to ⟨rfl, rfl, rfl, rfl, rfl, rfl, rfl⟩) (fun h => by cases h) (by kernel_rfl) rfl (das_val (de_var g1.toGd rfl (by first | exact .inl (by decide +kernel) | exact .inr (.inl (by decide +kernel)) | exact .inr (.inr (by decide +kernel))) (by decide) (by decide)) (das_val (de_var g1.toGd rfl (by first | exact .inl (by decide +kernel) | exact .inr (.inl (by decide +kernel)) | exact .inr (.inr (by decide +kernel))) (by decide) (by decide)) das_nil rfl) rfl) (by decide) rfl rfl)) (fun _ => rfl)))) rfl)) (fun _ => rfl)) (dss_one (ds_ret (de_bty g.toGdT.toGd (c_dict g.toGdT.toGd rfl) (by kernel_rfl) (B "dict" (by decide)) (by decide +kernel) (da_cons (do_of (de_comp g.toGdT.toGd rfl (di_seq g.toGdT.toGd (do_var g.toGdT.toGd rfl (.inl (by kernel_rfl)) (by decide) (by decide))) (own := [("s", 5), ("word", 6)]) (by kernel_rfl) (by decide) (fun p2 o2 X2 g2 => (dg_tup g2.toGd rfl (dgs_cons (dg_name g2.toGd rfl (by kernel_rfl)) (dgs_cons (dg_name g2.toGd rfl (by kernel_rfl)) dgs_nil rfl) rfl) rfl rfl rfl)) (fun p2 o2 X2 g2 => dts_nil) (fun p2 o2 X2 g2 => (de_tup (des_cons (de_var g2.toGd rfl (by first | exact .inl (by decide +kernel) | exact .inr (.inl (by decide +kernel)) | exact .inr (.inr (by decide +kernel))) (by decide) (by decide)) (des_cons (de_var g2.toGd rfl (by first | exact .inl (by decide +kernel) | exact .inr (.inl (by decide +kernel)) | exact .inr (.inr (by decide +kernel))) (by decide) (by decide)) des_nil rfl) rfl) (by decide))) (fun _ => rfl))) da_nil rfl) (by decide) (by decide) rfl rfl)))))
def _law_is_word_F : StF := (sRet (eAnd2 (eUn (dIsi "tuple") (oVar 1)) (eAnd2 (eBin dEq (oOf (eOps dLen [(oVar 1)])) (oVar 0)) (eBin dEq (oOf (eOps dLen [(oOf (eComp [2] (iSeq (oVar 1)) (.name 2) (tOr2 (tNot1 (tVal (eUn (dIsi "int") (oVar 2)))) (tNot1 (tVal (eChain dLe dLe (oOf (eCon (.int 0))) (oVar 2) (oOf (eCon (.int 3))))))) (eCon (.int 1))))])) (oOf (eCon (.int 0)))))))
def _law_is_word_S : Fun := runF _law_is_word_F 3 [false, false]
theorem f__law_is_word {Γ : Ctx} (D0 : ∃ fd, FunD Γ.K "_law_is_word" "_law_is_word" (defArgs Hd.s__law_is_word) (defBody Hd.s__law_is_word) (defScope Hd.s__law_is_word) [] [] (He.fAd Γ.K ("_law_is_word", none)) fd) (m0 : Γ.mg "_law_is_word" = some (.ref (He.fAd Γ.K ("_law_is_word", none)))) (B : Bare Γ) : FnAt Γ false 1 "_law_is_word" ["places", "word"] [false, false] _law_is_word_S := by
  obtain ⟨fd, Fd⟩ := D0
  refine fnAt_of (k := 0) (N := ["places", "word", "a"]) Fd ⟨by kernel_rfl, by kernel_rfl, by kernel_rfl, by decide +kernel, by decide +kernel, by decide +kernel, by decide +kernel⟩ m0 (FunD.bindsN Fd fun _ _ _ _ _ _ us hl => match us, hl with | [_, _], _ => rfl) rfl rfl (as := [0, 1]) fun F0 H0 ino X W g hq hc => ?_
  unfold _law_is_word_F
  exact (dss_one (ds_ret (de_and (de_isi g.toGdT.toGd (by kernel_rfl) (B "isinstance" (by decide)) (by kernel_rfl) (B "tuple" (by decide)) (by decide +kernel) (by decide) (by decide) (do_var g.toGdT.toGd rfl (.inl (by kernel_rfl)) (by decide) (by decide)) rfl rfl rfl) (de_and (de_cmp (o_eq g.toGdT.toGd) op2_of (do_of (de_blt g.toGdT.toGd (c_len g.toGdT.toGd) (by kernel_rfl) (B "len" (by decide)) (by decide +kernel) (da_cons (do_var g.toGdT.toGd rfl (.inl (by kernel_rfl)) (by decide) (by decide)) da_nil rfl) (by decide) (by decide) rfl rfl)) (do_var g.toGdT.toGd rfl (.inl (by kernel_rfl)) (by decide) (by decide)) rfl) (de_and1 (de_cmp (o_eq g.toGdT.toGd) op2_of (do_of (de_blt g.toGdT.toGd (c_len g.toGdT.toGd) (by kernel_rfl) (B "len" (by decide)) (by decide +kernel) (da_cons (do_of (de_comp g.toGdT.toGd rfl (di_seq g.toGdT.toGd (do_var g.toGdT.toGd rfl (.inl (by kernel_rfl)) (by decide) (by decide))) (own := [("a", 2)]) (by kernel_rfl) (by decide) (fun p1 o1 X1 g1 => (dg_name g1.toGd rfl (by kernel_rfl))) (fun p1 o1 X1 g1 => (pts_one (dw_or (dt_not (dt_val (de_isi g1.toGd (by kernel_rfl) (B "isinstance" (by decide)) (by kernel_rfl) (B "int" (by decide)) (by decide +kernel) (by decide) (by decide) (do_var g1.toGd rfl (by first | exact .inl (by decide +kernel) | exact .inr (.inl (by decide +kernel)) | exact .inr (.inr (by decide +kernel))) (by decide) (by decide)) rfl rfl rfl) (fun _ => rfl))) (dw_or1 (dt_not (dt_chain (o_le g1.toGd) (o_le g1.toGd) op2_of op2_of (do_of de_int) (do_var g1.toGd rfl (by first | exact .inl (by decide +kernel) | exact .inr (.inl (by decide +kernel)) | exact .inr (.inr (by decide +kernel))) (by decide) (by decide)) (do_of de_int) rfl)))).pt)) (fun p1 o1 X1 g1 => de_int) (fun _ => rfl))) da_nil rfl) (by decide) (by decide) rfl rfl)) (do_of de_int) rfl) rfl)))))
def _law_is_signed_F : StF := (sRet (eAnd2 (eUn (dIsi "tuple") (oVar 1)) (eAnd2 (eBin dEq (oOf (eOps dLen [(oVar 1)])) (oOf (eCon (.int 2)))) (eAnd2 (eBin dIn (oOf (eBin dIx (oVar 1) (oOf (eCon (.int 0))))) (oOf (eTup [(eCon (.int 0)), (eCon (.int 1))]))) (eCall _law_is_word_S [.val (eVar 0), .val (eBin dIx (oVar 1) (oOf (eCon (.int 1))))])))))
def _law_is_signed_S : Fun := runF _law_is_signed_F 2 [false, false]
theorem f__law_is_signed {Γ : Ctx} (h__law_is_word : FnAt Γ false 1 "_law_is_word" ["places", "word"] [false, false] _law_is_word_S) (D0 : ∃ fd, FunD Γ.K "_law_is_signed" "_law_is_signed" (defArgs Hd.s__law_is_signed) (defBody Hd.s__law_is_signed) (defScope Hd.s__law_is_signed) [] [] (He.fAd Γ.K ("_law_is_signed", none)) fd) (m0 : Γ.mg "_law_is_signed" = some (.ref (He.fAd Γ.K ("_law_is_signed", none)))) (B : Bare Γ) : FnAt Γ false 2 "_law_is_signed" ["places", "one"] [false, false] _law_is_signed_S := by
  obtain ⟨fd, Fd⟩ := D0
  refine fnAt_of (k := 1) (N := ["places", "one"]) Fd ⟨by kernel_rfl, by kernel_rfl, by kernel_rfl, by decide +kernel, by decide +kernel, by decide +kernel, by decide +kernel⟩ m0 (FunD.bindsN Fd fun _ _ _ _ _ _ us hl => match us, hl with | [_, _], _ => rfl) rfl rfl (as := [0, 1]) fun F0 H0 ino X W g hq hc => ?_
  unfold _law_is_signed_F
  exact (dss_one (ds_ret (de_and (de_isi g.toGdT.toGd (by kernel_rfl) (B "isinstance" (by decide)) (by kernel_rfl) (B "tuple" (by decide)) (by decide +kernel) (by decide) (by decide) (do_var g.toGdT.toGd rfl (.inl (by kernel_rfl)) (by decide) (by decide)) rfl rfl rfl) (de_and (de_cmp (o_eq g.toGdT.toGd) op2_of (do_of (de_blt g.toGdT.toGd (c_len g.toGdT.toGd) (by kernel_rfl) (B "len" (by decide)) (by decide +kernel) (da_cons (do_var g.toGdT.toGd rfl (.inl (by kernel_rfl)) (by decide) (by decide)) da_nil rfl) (by decide) (by decide) rfl rfl)) (do_of de_int) rfl) (de_and (de_cmp (o_in g.toGdT.toGd) op2_of (do_of (de_ix (o_ix g.toGdT.toGd) op2_of (do_var g.toGdT.toGd rfl (.inl (by kernel_rfl)) (by decide) (by decide)) (do_of de_int) (fun _ _ => rfl))) (do_of (de_tup (des_cons de_int (des_cons de_int des_nil rfl) rfl) (by decide))) rfl) (de_and1 (de_callA g.toGdT rfl ((h__law_is_word.mono (by omega)).to ⟨rfl, rfl, rfl, rfl, rfl, rfl, rfl⟩) (fun h => by cases h) (by kernel_rfl) rfl (das_val (de_var g.toGdT.toGd rfl (.inl (by kernel_rfl)) (by decide) (by decide)) (das_val (de_ix (o_ix g.toGdT.toGd) op2_of (do_var g.toGdT.toGd rfl (.inl (by kernel_rfl)) (by decide) (by decide)) (do_of de_int) (fun _ _ => rfl)) das_nil rfl) rfl) (by decide) rfl rfl) rfl))))))
def _law_parts_F : StF := (sRet (eBin dEq (oOf (eBin dMod (oOf (eOps dLen [(oOf (eComp [2] (iRange1 (oOf (eOps dLen [(oVar 0)]))) (.name 2) (tAnd2 (tVal (eBin dNe (oOf (eBin dIx (oVar 0) (oVar 2))) (oOf (eCon (.int 0))))) (tAnd2 (tVal (eBin dNe (oOf (eBin dIx (oVar 1) (oVar 2))) (oOf (eCon (.int 0))))) (tVal (eBin dNe (oOf (eBin dIx (oVar 0) (oVar 2))) (oOf (eBin dIx (oVar 1) (oVar 2))))))) (eCon (.int 1))))])) (oOf (eCon (.int 2))))) (oOf (eCon (.int 1)))))
def _law_parts_S : Fun := runF _law_parts_F 3 [false, false]
theorem f__law_parts {Γ : Ctx} (D0 : ∃ fd, FunD Γ.K "_law_parts" "_law_parts" (defArgs Hd.s__law_parts) (defBody Hd.s__law_parts) (defScope Hd.s__law_parts) [] [] (He.fAd Γ.K ("_law_parts", none)) fd) (m0 : Γ.mg "_law_parts" = some (.ref (He.fAd Γ.K ("_law_parts", none)))) (B : Bare Γ) : FnAt Γ false 1 "_law_parts" ["one", "two"] [false, false] _law_parts_S := by
  obtain ⟨fd, Fd⟩ := D0
  refine fnAt_of (k := 0) (N := ["one", "two", "k"]) Fd ⟨by kernel_rfl, by kernel_rfl, by kernel_rfl, by decide +kernel, by decide +kernel, by decide +kernel, by decide +kernel⟩ m0 (FunD.bindsN Fd fun _ _ _ _ _ _ us hl => match us, hl with | [_, _], _ => rfl) rfl rfl (as := [0, 1]) fun F0 H0 ino X W g hq hc => ?_
  unfold _law_parts_F
  exact (dss_one (ds_ret (de_cmp (o_eq g.toGdT.toGd) op2_of (do_of (de_binop (o_mod) op2_of (do_of (de_blt g.toGdT.toGd (c_len g.toGdT.toGd) (by kernel_rfl) (B "len" (by decide)) (by decide +kernel) (da_cons (do_of (de_comp g.toGdT.toGd rfl (di_range1 g.toGdT.toGd (by kernel_rfl) (B "range" (by decide)) (do_of (de_blt g.toGdT.toGd (c_len g.toGdT.toGd) (by kernel_rfl) (B "len" (by decide)) (by decide +kernel) (da_cons (do_var g.toGdT.toGd rfl (.inr (.inl (by kernel_rfl))) (by decide) (by decide)) da_nil rfl) (by decide) (by decide) rfl rfl)) rfl) (own := [("k", 2)]) (by kernel_rfl) (by decide) (fun p1 o1 X1 g1 => (dg_name g1.toGd rfl (by kernel_rfl))) (fun p1 o1 X1 g1 => (pts_one (dw_and (dt_cmp (o_ne g1.toGd) op2_of (do_of (de_ix (o_ix g1.toGd) op2_of (do_var g1.toGd rfl (by first | exact .inl (by decide +kernel) | exact .inr (.inl (by decide +kernel)) | exact .inr (.inr (by decide +kernel))) (by decide) (by decide)) (do_var g1.toGd rfl (by first | exact .inl (by decide +kernel) | exact .inr (.inl (by decide +kernel)) | exact .inr (.inr (by decide +kernel))) (by decide) (by decide)) (fun _ _ => rfl))) (do_of de_int) rfl) (dw_and (dt_cmp (o_ne g1.toGd) op2_of (do_of (de_ix (o_ix g1.toGd) op2_of (do_var g1.toGd rfl (by first | exact .inl (by decide +kernel) | exact .inr (.inl (by decide +kernel)) | exact .inr (.inr (by decide +kernel))) (by decide) (by decide)) (do_var g1.toGd rfl (by first | exact .inl (by decide +kernel) | exact .inr (.inl (by decide +kernel)) | exact .inr (.inr (by decide +kernel))) (by decide) (by decide)) (fun _ _ => rfl))) (do_of de_int) rfl) (dw_and1 (dt_cmp (o_ne g1.toGd) op2_of (do_of (de_ix (o_ix g1.toGd) op2_of (do_var g1.toGd rfl (by first | exact .inl (by decide +kernel) | exact .inr (.inl (by decide +kernel)) | exact .inr (.inr (by decide +kernel))) (by decide) (by decide)) (do_var g1.toGd rfl (by first | exact .inl (by decide +kernel) | exact .inr (.inl (by decide +kernel)) | exact .inr (.inr (by decide +kernel))) (by decide) (by decide)) (fun _ _ => rfl))) (do_of (de_ix (o_ix g1.toGd) op2_of (do_var g1.toGd rfl (by first | exact .inl (by decide +kernel) | exact .inr (.inl (by decide +kernel)) | exact .inr (.inr (by decide +kernel))) (by decide) (by decide)) (do_var g1.toGd rfl (by first | exact .inl (by decide +kernel) | exact .inr (.inl (by decide +kernel)) | exact .inr (.inr (by decide +kernel))) (by decide) (by decide)) (fun _ _ => rfl))) rfl)))).pt)) (fun p1 o1 X1 g1 => de_int) (fun _ => rfl))) da_nil rfl) (by decide) (by decide) rfl rfl)) (do_of de_int))) (do_of de_int) rfl)))
def _law_is_state_F : StF := (sSeq (sIf (tOr2 (tNot1 (tVal (eUn (dIsi "tuple") (oVar 0)))) (tOr2 (tNot1 (tVal (eChain dLe dLe (oOf (eCon (.int 1))) (oOf (eOps dLen [(oVar 0)])) (oOf (eCon (.int 4)))))) (tVal (eBin dGt (oOf (eOps dLen [(oOf (eComp [1] (iSeq (oVar 0)) (.name 1) (tNot1 (tVal (eCall _law_is_signed_S [.val (eOps dLen [(oVar 0)]), .val (eVar 1)]))) (eCon (.int 1))))])) (oOf (eCon (.int 0))))))) (sRet (eCon (.bool false))) sNx) (sSeq (sFor [0, 2] (iRange1 (oOf (eOps dLen [(oVar 0)]))) (.name 2) (sIf (tOr2 (tVal (eBin dGt (oOf (eOps dLen [(oOf (eComp [1] (iSeq (oOf (eSlice (oVar 0) none (some (oVar 2))))) (.name 1) (tVal (eCall _law_parts_S [.val (eBin dIx (oVar 1) (oOf (eCon (.int 1)))), .val (eBin dIx (oOf (eBin dIx (oVar 0) (oVar 2))) (oOf (eCon (.int 1))))])) (eCon (.int 1))))])) (oOf (eCon (.int 0))))) (tVal (eBin dIn (oOf (eBin dIx (oOf (eBin dIx (oVar 0) (oVar 2))) (oOf (eCon (.int 1))))) (oOf (eCall _law_held_S [.val (eOps dLen [(oVar 0)]), .val (eSlice (oVar 0) none (some (oVar 2)))]))))) (sRet (eCon (.bool false))) sNx)) (sRet (eCon (.bool true)))))
def _law_is_state_S : Fun := runF _law_is_state_F 3 [false]
theorem f__law_is_state {Γ : Ctx} (h__law_held : FnAt Γ false 2 "_law_held" ["places", "state"] [false, false] _law_held_S) (h__law_is_signed : FnAt Γ false 2 "_law_is_signed" ["places", "one"] [false, false] _law_is_signed_S) (h__law_parts : FnAt Γ false 1 "_law_parts" ["one", "two"] [false, false] _law_parts_S) (D0 : ∃ fd, FunD Γ.K "_law_is_state" "_law_is_state" (defArgs Hd.s__law_is_state) (defBody Hd.s__law_is_state) (defScope Hd.s__law_is_state) [] [] (He.fAd Γ.K ("_law_is_state", none)) fd) (m0 : Γ.mg "_law_is_state" = some (.ref (He.fAd Γ.K ("_law_is_state", none)))) (B : Bare Γ) : FnAt Γ false 3 "_law_is_state" ["state"] [false] _law_is_state_S := by
  obtain ⟨fd, Fd⟩ := D0
  refine fnAt_of (k := 2) (N := ["state", "one", "k"]) Fd ⟨by kernel_rfl, by kernel_rfl, by kernel_rfl, by decide +kernel, by decide +kernel, by decide +kernel, by decide +kernel⟩ m0 (FunD.bindsN Fd fun _ _ _ _ _ _ us hl => match us, hl with | [_], _ => rfl) rfl rfl (as := [0, 2]) fun F0 H0 ino X W g hq hc => ?_
  unfold _law_is_state_F
  exact (dss_cons (ds_if (dw_or (dt_not (dt_val (de_isi g.toGdT.toGd (by kernel_rfl) (B "isinstance" (by decide)) (by kernel_rfl) (B "tuple" (by decide)) (by decide +kernel) (by decide) (by decide) (do_var g.toGdT.toGd rfl (.inr (.inl (by kernel_rfl))) (by decide) (by decide)) rfl rfl rfl) (fun _ => rfl))) (dw_or (dt_not (dt_chain (o_le g.toGdT.toGd) (o_le g.toGdT.toGd) op2_of op2_of (do_of de_int) (do_of (de_blt g.toGdT.toGd (c_len g.toGdT.toGd) (by kernel_rfl) (B "len" (by decide)) (by decide +kernel) (da_cons (do_var g.toGdT.toGd rfl (.inr (.inl (by kernel_rfl))) (by decide) (by decide)) da_nil rfl) (by decide) (by decide) rfl rfl)) (do_of de_int) rfl)) (dw_or1 (dt_cmp (o_gt g.toGdT.toGd) op2_of (do_of (de_blt g.toGdT.toGd (c_len g.toGdT.toGd) (by kernel_rfl) (B "len" (by decide)) (by decide +kernel) (da_cons (do_of (de_comp g.toGdT.toGd rfl (di_seq g.toGdT.toGd (do_var g.toGdT.toGd rfl (.inr (.inl (by kernel_rfl))) (by decide) (by decide))) (own := [("one", 1)]) (by kernel_rfl) (by decide) (fun p1 o1 X1 g1 => (dg_name g1.toGd rfl (by kernel_rfl))) (fun p1 o1 X1 g1 => (pts_one (dt_not (dt_val (de_callA g1 rfl ((h__law_is_signed.mono (by omega)).to ⟨rfl, rfl, rfl, rfl, rfl, rfl, rfl⟩) (fun h => by cases h) (by kernel_rfl) rfl (das_val (de_blt g1.toGd (c_len g1.toGd) (by kernel_rfl) (B "len" (by decide)) (by decide +kernel) (da_cons (do_var g1.toGd rfl (by first | exact .inl (by decide +kernel) | exact .inr (.inl (by decide +kernel)) | exact .inr (.inr (by decide +kernel))) (by decide) (by decide)) da_nil rfl) (by decide) (by decide) rfl rfl) (das_val (de_var g1.toGd rfl (by first | exact .inl (by decide +kernel) | exact .inr (.inl (by decide +kernel)) | exact .inr (.inr (by decide +kernel))) (by decide) (by decide)) das_nil rfl) rfl) (by decide) rfl rfl) (fun _ => rfl))))) (fun p1 o1 X1 g1 => de_int) (fun _ => rfl))) da_nil rfl) (by decide) (by decide) rfl rfl)) (do_of de_int) rfl)))).pt (dss_one (ds_ret de_bool)) dss_nil) (dss_cons (ds_for g rfl (by decide) (di_range1 g.toGdT.toGd (by kernel_rfl) (B "range" (by decide)) (do_of (de_blt g.toGdT.toGd (c_len g.toGdT.toGd) (by kernel_rfl) (B "len" (by decide)) (by decide +kernel) (da_cons (do_var g.toGdT.toGd rfl (.inr (.inl (by kernel_rfl))) (by decide) (by decide)) da_nil rfl) (by decide) (by decide) rfl rfl)) rfl) (dg_name g.toGdT.toGd rfl (by kernel_rfl)) (dss_one (ds_if (dw_or (dt_cmp (o_gt g.toGdT.toGd) op2_of (do_of (de_blt g.toGdT.toGd (c_len g.toGdT.toGd) (by kernel_rfl) (B "len" (by decide)) (by decide +kernel) (da_cons (do_of (de_comp g.toGdT.toGd rfl (di_seq g.toGdT.toGd (do_of (de_slice g.toGdT.toGd (do_var g.toGdT.toGd rfl (.inr (.inl (by kernel_rfl))) (by decide) (by decide)) dp_none (dp_some (do_var g.toGdT.toGd rfl (.inr (.inl (by kernel_rfl))) (by decide) (by decide)))))) (own := [("one", 1)]) (by kernel_rfl) (by decide) (fun p2 o2 X2 g2 => (dg_name g2.toGd rfl (by kernel_rfl))) (fun p2 o2 X2 g2 => (pts_one (dt_val (de_callA g2 rfl ((h__law_parts.mono (by omega)).to ⟨rfl, rfl, rfl, rfl, rfl, rfl, rfl⟩) (fun h => by cases h) (by kernel_rfl) rfl (das_val (de_ix (o_ix g2.toGd) op2_of (do_var g2.toGd rfl (by first | exact .inl (by decide +kernel) | exact .inr (.inl (by decide +kernel)) | exact .inr (.inr (by decide +kernel))) (by decide) (by decide)) (do_of de_int) (fun _ _ => rfl)) (das_val (de_ix (o_ix g2.toGd) op2_of (do_of (de_ix (o_ix g2.toGd) op2_of (do_var g2.toGd rfl (by first | exact .inl (by decide +kernel) | exact .inr (.inl (by decide +kernel)) | exact .inr (.inr (by decide +kernel))) (by decide) (by decide)) (do_var g2.toGd rfl (by first | exact .inl (by decide +kernel) | exact .inr (.inl (by decide +kernel)) | exact .inr (.inr (by decide +kernel))) (by decide) (by decide)) (fun _ _ => rfl))) (do_of de_int) (fun _ _ => rfl)) das_nil rfl) rfl) (by decide) rfl rfl) (fun _ => rfl)))) (fun p2 o2 X2 g2 => de_int) (fun _ => rfl))) da_nil rfl) (by decide) (by decide) rfl rfl)) (do_of de_int) rfl) (dw_or1 (dt_cmp (o_in g.toGdT.toGd) op2_of (do_of (de_ix (o_ix g.toGdT.toGd) op2_of (do_of (de_ix (o_ix g.toGdT.toGd) op2_of (do_var g.toGdT.toGd rfl (.inr (.inl (by kernel_rfl))) (by decide) (by decide)) (do_var g.toGdT.toGd rfl (.inr (.inl (by kernel_rfl))) (by decide) (by decide)) (fun _ _ => rfl))) (do_of de_int) (fun _ _ => rfl))) (do_of (de_callA g.toGdT rfl ((h__law_held.mono (by omega)).to ⟨rfl, rfl, rfl, rfl, rfl, rfl, rfl⟩) (fun h => by cases h) (by kernel_rfl) rfl (das_val (de_blt g.toGdT.toGd (c_len g.toGdT.toGd) (by kernel_rfl) (B "len" (by decide)) (by decide +kernel) (da_cons (do_var g.toGdT.toGd rfl (.inr (.inl (by kernel_rfl))) (by decide) (by decide)) da_nil rfl) (by decide) (by decide) rfl rfl) (das_val (de_slice g.toGdT.toGd (do_var g.toGdT.toGd rfl (.inr (.inl (by kernel_rfl))) (by decide) (by decide)) dp_none (dp_some (do_var g.toGdT.toGd rfl (.inr (.inl (by kernel_rfl))) (by decide) (by decide)))) das_nil rfl) rfl) (by decide) rfl rfl)) rfl))).pt (dss_one (ds_ret de_bool)) dss_nil)) (fun _ => rfl)) (dss_one (ds_ret de_bool))))
def _law_words_F : StF := (sSeq (sAsg 1 (eLst [(eTup [])])) (sSeq (sFor [0, 1, 2, 3, 4] (iRange1 (oVar 0)) (.name 2) (sSeq (sAsg 3 (eLst [])) (sSeq (sFor [0, 1, 2, 3, 4] (iFrz 1 (iSeq (oVar 1))) (.name 4) (sAsg 3 (eBin dAdd (oVar 3) (oOf (eComp [5] (iRange1 (oOf (eCon (.int 4)))) (.name 5) tTrue (eBin dAdd (oVar 4) (oOf (eTup [(eVar 5)])))))))) (sAsg 1 (eVar 3))))) (sRet (eMove 1))))
def _law_words_S : Fun := runF _law_words_F 6 [false]
theorem f__law_words {Γ : Ctx} (D0 : ∃ fd, FunD Γ.K "_law_words" "_law_words" (defArgs Hd.s__law_words) (defBody Hd.s__law_words) (defScope Hd.s__law_words) [] [] (He.fAd Γ.K ("_law_words", none)) fd) (m0 : Γ.mg "_law_words" = some (.ref (He.fAd Γ.K ("_law_words", none)))) (B : Bare Γ) : FnAt Γ false 1 "_law_words" ["places"] [false] _law_words_S := by
  obtain ⟨fd, Fd⟩ := D0
  refine fnAt_of (k := 0) (N := ["places", "words", "k", "longer", "word", "a"]) Fd ⟨by kernel_rfl, by kernel_rfl, by kernel_rfl, by decide +kernel, by decide +kernel, by decide +kernel, by decide +kernel⟩ m0 (FunD.bindsN Fd fun _ _ _ _ _ _ us hl => match us, hl with | [_], _ => rfl) rfl rfl (as := [0, 1, 2, 3, 4]) fun F0 H0 ino X W g hq hc => ?_
  unfold _law_words_F
  exact (dss_cons (ds_asg g.toGdT.toGd rfl (by kernel_rfl) (by decide) (de_lst (des_cons (de_tup des_nil (by decide)) des_nil rfl) (by decide)) rfl) (dss_cons (ds_for g rfl (by decide) (di_range1 g.toGdT.toGd (by kernel_rfl) (B "range" (by decide)) (do_var g.toGdT.toGd rfl (.inl (by kernel_rfl)) (by decide) (by decide)) rfl) (dg_name g.toGdT.toGd rfl (by kernel_rfl)) (dss_cons (ds_asg g.toGdT.toGd rfl (by kernel_rfl) (by decide) (de_lst des_nil (by decide)) rfl) (dss_cons (ds_for g rfl (by decide) (di_frz (di_seq g.toGdT.toGd (do_var g.toGdT.toGd rfl (.inl (by kernel_rfl)) (by decide) (by decide)))) (dg_name g.toGdT.toGd rfl (by kernel_rfl)) (dss_one (ds_asg g.toGdT.toGd rfl (by kernel_rfl) (by decide) (de_binop (o_add g.toGdT.toGd) op2_of (do_var g.toGdT.toGd rfl (.inl (by kernel_rfl)) (by decide) (by decide)) (do_of (de_comp g.toGdT.toGd rfl (di_range1 g.toGdT.toGd (by kernel_rfl) (B "range" (by decide)) (do_of de_int) rfl) (own := [("a", 5)]) (by kernel_rfl) (by decide) (fun p1 o1 X1 g1 => (dg_name g1.toGd rfl (by kernel_rfl))) (fun p1 o1 X1 g1 => dts_nil) (fun p1 o1 X1 g1 => (de_binop (o_add g1.toGd) op2_of (do_var g1.toGd rfl (by first | exact .inl (by decide +kernel) | exact .inr (.inl (by decide +kernel)) | exact .inr (.inr (by decide +kernel))) (by decide) (by decide)) (do_of (de_tup (des_cons (de_var g1.toGd rfl (by first | exact .inl (by decide +kernel) | exact .inr (.inl (by decide +kernel)) | exact .inr (.inr (by decide +kernel))) (by decide) (by decide)) des_nil rfl) (by decide))))) (fun _ => rfl)))) rfl)) (fun _ => rfl)) (dss_one (ds_asg g.toGdT.toGd rfl (by kernel_rfl) (by decide) (de_var g.toGdT.toGd rfl (.inl (by kernel_rfl)) (by decide) (by decide)) rfl)))) (fun _ => rfl)) (dss_one (ds_ret (de_move g.toGdT.toGd rfl (.inl (by kernel_rfl)) (by decide) (by decide))))))
def _law_signed_F : StF := (sSeq (sAsg 2 (eCall _law_words_S [.val (eVar 1)])) (sRet (eTup [(eCall _law_draw_S [.ref 0, .val (eCon (.int 2))]), (eBin dIx (oVar 2) (oOf (eCall _law_draw_S [.ref 0, .val (eOps dLen [(oVar 2)])])))])))
def _law_signed_S : Fun := runF _law_signed_F 3 [true, false]
theorem f__law_signed {Γ : Ctx} (h__law_draw : FnAt Γ false 1 "_law_draw" ["box", "many"] [true, false] _law_draw_S) (h__law_words : FnAt Γ false 1 "_law_words" ["places"] [false] _law_words_S) (D0 : ∃ fd, FunD Γ.K "_law_signed" "_law_signed" (defArgs Hd.s__law_signed) (defBody Hd.s__law_signed) (defScope Hd.s__law_signed) [] [] (He.fAd Γ.K ("_law_signed", none)) fd) (m0 : Γ.mg "_law_signed" = some (.ref (He.fAd Γ.K ("_law_signed", none)))) (B : Bare Γ) : FnAt Γ false 2 "_law_signed" ["box", "places"] [true, false] _law_signed_S := by
  obtain ⟨fd, Fd⟩ := D0
  refine fnAt_of (k := 1) (N := ["box", "places", "words"]) Fd ⟨by kernel_rfl, by kernel_rfl, by kernel_rfl, by decide +kernel, by decide +kernel, by decide +kernel, by decide +kernel⟩ m0 (FunD.bindsN Fd fun _ _ _ _ _ _ us hl => match us, hl with | [_, _], _ => rfl) rfl rfl (as := [0, 1, 2]) fun F0 H0 ino X W g hq hc => ?_
  unfold _law_signed_F
  exact (dss_cons (ds_asg g.toGdT.toGd rfl (by kernel_rfl) (by decide) (de_callA g.toGdT rfl ((h__law_words.mono (by omega)).to ⟨rfl, rfl, rfl, rfl, rfl, rfl, rfl⟩) (fun h => by cases h) (by kernel_rfl) rfl (das_val (de_var g.toGdT.toGd rfl (.inl (by kernel_rfl)) (by decide) (by decide)) das_nil rfl) (by decide) rfl rfl) rfl) (dss_one (ds_ret (de_tup (des_cons (de_callA g.toGdT rfl ((h__law_draw.mono (by omega)).to ⟨rfl, rfl, rfl, rfl, rfl, rfl, rfl⟩) (fun h => by cases h) (by kernel_rfl) rfl (das_ref g.toGdT.toGd rfl (.inl (by kernel_rfl)) (by decide) (by decide) (das_val de_int das_nil rfl) rfl) (by decide) rfl rfl) (des_cons (de_ix (o_ix g.toGdT.toGd) op2_of (do_var g.toGdT.toGd rfl (.inl (by kernel_rfl)) (by decide) (by decide)) (do_of (de_callA g.toGdT rfl ((h__law_draw.mono (by omega)).to ⟨rfl, rfl, rfl, rfl, rfl, rfl, rfl⟩) (fun h => by cases h) (by kernel_rfl) rfl (das_ref g.toGdT.toGd rfl (.inl (by kernel_rfl)) (by decide) (by decide) (das_val (de_blt g.toGdT.toGd (c_len g.toGdT.toGd) (by kernel_rfl) (B "len" (by decide)) (by decide +kernel) (da_cons (do_var g.toGdT.toGd rfl (.inl (by kernel_rfl)) (by decide) (by decide)) da_nil rfl) (by decide) (by decide) rfl rfl) das_nil rfl) rfl) (by decide) rfl rfl)) (fun _ _ => rfl)) des_nil rfl) rfl) (by decide)))))
def go_together_F : StF := (sRet (eBin dEq (oOf (eBin dMod (oOf (eOps dSum [(oOf (eComp [2, 3] (iZip (oVar 0) (oVar 1)) (.tup [(.name 2), (.name 3)]) tTrue (eOps dInt [(oOf (eAnd2 (eBin dNe (oVar 2) (oOf (eCon (.int 0)))) (eAnd2 (eBin dNe (oVar 3) (oOf (eCon (.int 0)))) (eBin dNe (oVar 2) (oVar 3)))))])))])) (oOf (eCon (.int 2))))) (oOf (eCon (.int 0)))))
def go_together_S : Fun := runF go_together_F 4 [false, false]
theorem f_go_together {Γ : Ctx} (D0 : ∃ fd, FunD Γ.K "go_together" "go_together" (defArgs Hd.s_go_together) (defBody Hd.s_go_together) (defScope Hd.s_go_together) [] [] (He.fAd Γ.K ("go_together", none)) fd) (m0 : Γ.mg "go_together" = some (.ref (He.fAd Γ.K ("go_together", none)))) (B : Bare Γ) : FnAt Γ false 1 "go_together" ["first", "second"] [false, false] go_together_S := by
  obtain ⟨fd, Fd⟩ := D0
  refine fnAt_of (k := 0) (N := ["first", "second", "one", "other"]) Fd ⟨by kernel_rfl, by kernel_rfl, by kernel_rfl, by decide +kernel, by decide +kernel, by decide +kernel, by decide +kernel⟩ m0 (FunD.bindsN Fd fun _ _ _ _ _ _ us hl => match us, hl with | [_, _], _ => rfl) rfl rfl (as := [0, 1]) fun F0 H0 ino X W g hq hc => ?_
  unfold go_together_F
  exact (dss_one (ds_ret (de_cmp (o_eq g.toGdT.toGd) op2_of (do_of (de_binop (o_mod) op2_of (do_of (de_blt g.toGdT.toGd (c_sum g.toGdT.toGd rfl) (by kernel_rfl) (B "sum" (by decide)) (by decide +kernel) (da_cons (do_of (de_comp g.toGdT.toGd rfl (di_zip g.toGdT.toGd (by kernel_rfl) (B "zip" (by decide)) (do_var g.toGdT.toGd rfl (.inl (by kernel_rfl)) (by decide) (by decide)) (do_var g.toGdT.toGd rfl (.inl (by kernel_rfl)) (by decide) (by decide)) rfl rfl) (own := [("one", 2), ("other", 3)]) (by kernel_rfl) (by decide) (fun p1 o1 X1 g1 => (dg_tup g1.toGd rfl (dgs_cons (dg_name g1.toGd rfl (by kernel_rfl)) (dgs_cons (dg_name g1.toGd rfl (by kernel_rfl)) dgs_nil rfl) rfl) rfl rfl rfl)) (fun p1 o1 X1 g1 => dts_nil) (fun p1 o1 X1 g1 => (de_bty g1.toGd (c_int) (by kernel_rfl) (B "int" (by decide)) (by decide +kernel) (da_cons (do_of (de_and (de_cmp (o_ne g1.toGd) op2_of (do_var g1.toGd rfl (by first | exact .inl (by decide +kernel) | exact .inr (.inl (by decide +kernel)) | exact .inr (.inr (by decide +kernel))) (by decide) (by decide)) (do_of de_int) rfl) (de_and (de_cmp (o_ne g1.toGd) op2_of (do_var g1.toGd rfl (by first | exact .inl (by decide +kernel) | exact .inr (.inl (by decide +kernel)) | exact .inr (.inr (by decide +kernel))) (by decide) (by decide)) (do_of de_int) rfl) (de_and1 (de_cmp (o_ne g1.toGd) op2_of (do_var g1.toGd rfl (by first | exact .inl (by decide +kernel) | exact .inr (.inl (by decide +kernel)) | exact .inr (.inr (by decide +kernel))) (by decide) (by decide)) (do_var g1.toGd rfl (by first | exact .inl (by decide +kernel) | exact .inr (.inl (by decide +kernel)) | exact .inr (.inr (by decide +kernel))) (by decide) (by decide)) rfl) rfl)))) da_nil rfl) (by decide) (by decide) rfl rfl)) (fun _ => rfl))) da_nil rfl) (by decide) (by decide) rfl rfl)) (do_of de_int))) (do_of de_int) rfl)))
def is_word_F : StF := (sSeq (sIf (tOr2 (tNot1 (tVal (eUn (dIsi "tuple") (oVar 0)))) (tVal (eBin dNe (oOf (eOps dLen [(oVar 0)])) (oVar 1)))) (sRet (eCon (.bool false))) sNx) (sRet (eOps dAll [(oOf (eComp [2] (iSeq (oVar 0)) (.name 2) tTrue (eAnd2 (eUn (dIsi "int") (oVar 2)) (eChain dLe dLe (oOf (eCon (.int 0))) (oVar 2) (oOf (eCon (.int 3)))))))])))
def is_word_S : Fun := runF is_word_F 3 [false, false]
theorem f_is_word {Γ : Ctx} (D0 : ∃ fd, FunD Γ.K "is_word" "is_word" (defArgs Hd.s_is_word) (defBody Hd.s_is_word) (defScope Hd.s_is_word) [] [] (He.fAd Γ.K ("is_word", none)) fd) (m0 : Γ.mg "is_word" = some (.ref (He.fAd Γ.K ("is_word", none)))) (B : Bare Γ) : FnAt Γ false 1 "is_word" ["word", "places"] [false, false] is_word_S := by
  obtain ⟨fd, Fd⟩ := D0
  refine fnAt_of (k := 0) (N := ["word", "places", "sign"]) Fd ⟨by kernel_rfl, by kernel_rfl, by kernel_rfl, by decide +kernel, by decide +kernel, by decide +kernel, by decide +kernel⟩ m0 (FunD.bindsN Fd fun _ _ _ _ _ _ us hl => match us, hl with | [_, _], _ => rfl) rfl rfl (as := [0, 1]) fun F0 H0 ino X W g hq hc => ?_
  unfold is_word_F
  exact (dss_cons (ds_if (dw_or (dt_not (dt_val (de_isi g.toGdT.toGd (by kernel_rfl) (B "isinstance" (by decide)) (by kernel_rfl) (B "tuple" (by decide)) (by decide +kernel) (by decide) (by decide) (do_var g.toGdT.toGd rfl (.inl (by kernel_rfl)) (by decide) (by decide)) rfl rfl rfl) (fun _ => rfl))) (dw_or1 (dt_cmp (o_ne g.toGdT.toGd) op2_of (do_of (de_blt g.toGdT.toGd (c_len g.toGdT.toGd) (by kernel_rfl) (B "len" (by decide)) (by decide +kernel) (da_cons (do_var g.toGdT.toGd rfl (.inl (by kernel_rfl)) (by decide) (by decide)) da_nil rfl) (by decide) (by decide) rfl rfl)) (do_var g.toGdT.toGd rfl (.inl (by kernel_rfl)) (by decide) (by decide)) rfl))).pt (dss_one (ds_ret de_bool)) dss_nil) (dss_one (ds_ret (de_blt g.toGdT.toGd (c_all g.toGdT.toGd rfl) (by kernel_rfl) (B "all" (by decide)) (by decide +kernel) (da_cons (do_of (de_comp g.toGdT.toGd rfl (di_seq g.toGdT.toGd (do_var g.toGdT.toGd rfl (.inl (by kernel_rfl)) (by decide) (by decide))) (own := [("sign", 2)]) (by kernel_rfl) (by decide) (fun p1 o1 X1 g1 => (dg_name g1.toGd rfl (by kernel_rfl))) (fun p1 o1 X1 g1 => dts_nil) (fun p1 o1 X1 g1 => (de_and (de_isi g1.toGd (by kernel_rfl) (B "isinstance" (by decide)) (by kernel_rfl) (B "int" (by decide)) (by decide +kernel) (by decide) (by decide) (do_var g1.toGd rfl (by first | exact .inl (by decide +kernel) | exact .inr (.inl (by decide +kernel)) | exact .inr (.inr (by decide +kernel))) (by decide) (by decide)) rfl rfl rfl) (de_and1 (de_chain (o_le g1.toGd) (o_le g1.toGd) op2_of op2_of (do_of de_int) (do_var g1.toGd rfl (by first | exact .inl (by decide +kernel) | exact .inr (.inl (by decide +kernel)) | exact .inr (.inr (by decide +kernel))) (by decide) (by decide)) (do_of de_int) rfl) rfl))) (fun _ => rfl))) da_nil rfl) (by decide) (by decide) rfl rfl))))
def is_signed_F : StF := (sSeq (sIf (tOr2 (tNot1 (tVal (eUn (dIsi "tuple") (oVar 0)))) (tOr2 (tVal (eBin dNe (oOf (eOps dLen [(oVar 0)])) (oOf (eCon (.int 2))))) (tNot1 (tVal (eUn (dIsi "int") (oOf (eBin dIx (oVar 0) (oOf (eCon (.int 0)))))))))) (sRet (eCon (.bool false))) sNx) (sRet (eAnd2 (eBin dIn (oOf (eBin dIx (oVar 0) (oOf (eCon (.int 0))))) (oOf (eTup [(eCon (.int 0)), (eCon (.int 1))]))) (eCall is_word_S [.val (eBin dIx (oVar 0) (oOf (eCon (.int 1)))), .val (eVar 1)]))))
def is_signed_S : Fun := runF is_signed_F 2 [false, false]
theorem f_is_signed {Γ : Ctx} (h_is_word : FnAt Γ false 1 "is_word" ["word", "places"] [false, false] is_word_S) (D0 : ∃ fd, FunD Γ.K "is_signed" "is_signed" (defArgs Hd.s_is_signed) (defBody Hd.s_is_signed) (defScope Hd.s_is_signed) [] [] (He.fAd Γ.K ("is_signed", none)) fd) (m0 : Γ.mg "is_signed" = some (.ref (He.fAd Γ.K ("is_signed", none)))) (B : Bare Γ) : FnAt Γ false 2 "is_signed" ["value", "places"] [false, false] is_signed_S := by
  obtain ⟨fd, Fd⟩ := D0
  refine fnAt_of (k := 1) (N := ["value", "places"]) Fd ⟨by kernel_rfl, by kernel_rfl, by kernel_rfl, by decide +kernel, by decide +kernel, by decide +kernel, by decide +kernel⟩ m0 (FunD.bindsN Fd fun _ _ _ _ _ _ us hl => match us, hl with | [_, _], _ => rfl) rfl rfl (as := [0, 1]) fun F0 H0 ino X W g hq hc => ?_
  unfold is_signed_F
  exact (dss_cons (ds_if (dw_or (dt_not (dt_val (de_isi g.toGdT.toGd (by kernel_rfl) (B "isinstance" (by decide)) (by kernel_rfl) (B "tuple" (by decide)) (by decide +kernel) (by decide) (by decide) (do_var g.toGdT.toGd rfl (.inl (by kernel_rfl)) (by decide) (by decide)) rfl rfl rfl) (fun _ => rfl))) (dw_or (dt_cmp (o_ne g.toGdT.toGd) op2_of (do_of (de_blt g.toGdT.toGd (c_len g.toGdT.toGd) (by kernel_rfl) (B "len" (by decide)) (by decide +kernel) (da_cons (do_var g.toGdT.toGd rfl (.inl (by kernel_rfl)) (by decide) (by decide)) da_nil rfl) (by decide) (by decide) rfl rfl)) (do_of de_int) rfl) (dw_or1 (dt_not (dt_val (de_isi g.toGdT.toGd (by kernel_rfl) (B "isinstance" (by decide)) (by kernel_rfl) (B "int" (by decide)) (by decide +kernel) (by decide) (by decide) (do_of (de_ix (o_ix g.toGdT.toGd) op2_of (do_var g.toGdT.toGd rfl (.inl (by kernel_rfl)) (by decide) (by decide)) (do_of de_int) (fun _ _ => rfl))) rfl rfl rfl) (fun _ => rfl)))))).pt (dss_one (ds_ret de_bool)) dss_nil) (dss_one (ds_ret (de_and (de_cmp (o_in g.toGdT.toGd) op2_of (do_of (de_ix (o_ix g.toGdT.toGd) op2_of (do_var g.toGdT.toGd rfl (.inl (by kernel_rfl)) (by decide) (by decide)) (do_of de_int) (fun _ _ => rfl))) (do_of (de_tup (des_cons de_int (des_cons de_int des_nil rfl) rfl) (by decide))) rfl) (de_and1 (de_callA g.toGdT rfl ((h_is_word.mono (by omega)).to ⟨rfl, rfl, rfl, rfl, rfl, rfl, rfl⟩) (fun h => by cases h) (by kernel_rfl) rfl (das_val (de_ix (o_ix g.toGdT.toGd) op2_of (do_var g.toGdT.toGd rfl (.inl (by kernel_rfl)) (by decide) (by decide)) (do_of de_int) (fun _ _ => rfl)) (das_val (de_var g.toGdT.toGd rfl (.inl (by kernel_rfl)) (by decide) (by decide)) das_nil rfl) rfl) (by decide) rfl rfl) rfl)))))
def places_of_F : StF := (sSeq (sIf (tAnd2 (tVal (eUn (dIsi "tuple") (oVar 0))) (tAnd2 (tVal (eBin dEq (oOf (eOps dLen [(oVar 0)])) (oOf (eCon (.int 2))))) (tVal (eUn (dIsi "tuple") (oOf (eBin dIx (oVar 0) (oOf (eCon (.int 1))))))))) (sRet (eOps dLen [(oOf (eBin dIx (oVar 0) (oOf (eCon (.int 1)))))])) sNx) (sRet (eCon (.int 0))))
def places_of_S : Fun := runF places_of_F 1 [false]
theorem f_places_of {Γ : Ctx} (D0 : ∃ fd, FunD Γ.K "places_of" "places_of" (defArgs Hd.s_places_of) (defBody Hd.s_places_of) (defScope Hd.s_places_of) [] [] (He.fAd Γ.K ("places_of", none)) fd) (m0 : Γ.mg "places_of" = some (.ref (He.fAd Γ.K ("places_of", none)))) (B : Bare Γ) : FnAt Γ false 1 "places_of" ["value"] [false] places_of_S := by
  obtain ⟨fd, Fd⟩ := D0
  refine fnAt_of (k := 0) (N := ["value"]) Fd ⟨by kernel_rfl, by kernel_rfl, by kernel_rfl, by decide +kernel, by decide +kernel, by decide +kernel, by decide +kernel⟩ m0 (FunD.bindsN Fd fun _ _ _ _ _ _ us hl => match us, hl with | [_], _ => rfl) rfl rfl (as := [0]) fun F0 H0 ino X W g hq hc => ?_
  unfold places_of_F
  exact (dss_cons (ds_if (dw_and (dt_val (de_isi g.toGdT.toGd (by kernel_rfl) (B "isinstance" (by decide)) (by kernel_rfl) (B "tuple" (by decide)) (by decide +kernel) (by decide) (by decide) (do_var g.toGdT.toGd rfl (.inl (by kernel_rfl)) (by decide) (by decide)) rfl rfl rfl) (fun _ => rfl)) (dw_and (dt_cmp (o_eq g.toGdT.toGd) op2_of (do_of (de_blt g.toGdT.toGd (c_len g.toGdT.toGd) (by kernel_rfl) (B "len" (by decide)) (by decide +kernel) (da_cons (do_var g.toGdT.toGd rfl (.inl (by kernel_rfl)) (by decide) (by decide)) da_nil rfl) (by decide) (by decide) rfl rfl)) (do_of de_int) rfl) (dw_and1 (dt_val (de_isi g.toGdT.toGd (by kernel_rfl) (B "isinstance" (by decide)) (by kernel_rfl) (B "tuple" (by decide)) (by decide +kernel) (by decide) (by decide) (do_of (de_ix (o_ix g.toGdT.toGd) op2_of (do_var g.toGdT.toGd rfl (.inl (by kernel_rfl)) (by decide) (by decide)) (do_of de_int) (fun _ _ => rfl))) rfl rfl rfl) (fun _ => rfl))))).pt (dss_one (ds_ret (de_blt g.toGdT.toGd (c_len g.toGdT.toGd) (by kernel_rfl) (B "len" (by decide)) (by decide +kernel) (da_cons (do_of (de_ix (o_ix g.toGdT.toGd) op2_of (do_var g.toGdT.toGd rfl (.inl (by kernel_rfl)) (by decide) (by decide)) (do_of de_int) (fun _ _ => rfl))) da_nil rfl) (by decide) (by decide) rfl rfl))) dss_nil) (dss_one (ds_ret de_int)))
def third_F : StF := (sSeq (sIf (tOr2 (tVal (eBin dEq (oVar 0) (oOf (eCon (.int 0))))) (tVal (eBin dEq (oVar 1) (oOf (eCon (.int 0)))))) (sRet (eBin dAdd (oVar 0) (oVar 1))) sNx) (sRet (eIte (tVal (eBin dEq (oVar 0) (oVar 1))) (eCon (.int 0)) (eBin dSub (oOf (eBin dSub (oOf (eCon (.int 6))) (oVar 0))) (oVar 1)))))
def third_S : Fun := runF third_F 2 [false, false]
theorem f_third {Γ : Ctx} (D0 : ∃ fd, FunD Γ.K "third" "third" (defArgs Hd.s_third) (defBody Hd.s_third) (defScope Hd.s_third) [] [] (He.fAd Γ.K ("third", none)) fd) (m0 : Γ.mg "third" = some (.ref (He.fAd Γ.K ("third", none)))) (B : Bare Γ) : FnAt Γ false 1 "third" ["one", "other"] [false, false] third_S := by
  obtain ⟨fd, Fd⟩ := D0
  refine fnAt_of (k := 0) (N := ["one", "other"]) Fd ⟨by kernel_rfl, by kernel_rfl, by kernel_rfl, by decide +kernel, by decide +kernel, by decide +kernel, by decide +kernel⟩ m0 (FunD.bindsN Fd fun _ _ _ _ _ _ us hl => match us, hl with | [_, _], _ => rfl) rfl rfl (as := [0, 1]) fun F0 H0 ino X W g hq hc => ?_
  unfold third_F
  exact (dss_cons (ds_if (dw_or (dt_cmp (o_eq g.toGdT.toGd) op2_of (do_var g.toGdT.toGd rfl (.inl (by kernel_rfl)) (by decide) (by decide)) (do_of de_int) rfl) (dw_or1 (dt_cmp (o_eq g.toGdT.toGd) op2_of (do_var g.toGdT.toGd rfl (.inl (by kernel_rfl)) (by decide) (by decide)) (do_of de_int) rfl))).pt (dss_one (ds_ret (de_binop (o_add g.toGdT.toGd) op2_of (do_var g.toGdT.toGd rfl (.inl (by kernel_rfl)) (by decide) (by decide)) (do_var g.toGdT.toGd rfl (.inl (by kernel_rfl)) (by decide) (by decide))))) dss_nil) (dss_one (ds_ret (de_ite (dt_cmp (o_eq g.toGdT.toGd) op2_of (do_var g.toGdT.toGd rfl (.inl (by kernel_rfl)) (by decide) (by decide)) (do_var g.toGdT.toGd rfl (.inl (by kernel_rfl)) (by decide) (by decide)) rfl) de_int (de_binop (o_sub) op2_of (do_of (de_binop (o_sub) op2_of (do_of de_int) (do_var g.toGdT.toGd rfl (.inl (by kernel_rfl)) (by decide) (by decide)))) (do_var g.toGdT.toGd rfl (.inl (by kernel_rfl)) (by decide) (by decide)))))))
def turns_F : StF := (sSeq (sAsg 2 (eCon (.int 0))) (sSeq (sFor [0, 1, 2, 3] (iZipT (oVar 0) (oVar 1)) (.name 3) (sSeq (sIf (tVal (eBin dIn (oVar 3) (oOf (eTup [(eTup [(eCon (.int 1)), (eCon (.int 2))]), (eTup [(eCon (.int 2)), (eCon (.int 3))]), (eTup [(eCon (.int 3)), (eCon (.int 1))])])))) (sAug 2 (fun x y => x + y) (eCon (.int 1))) sNx) (sIf (tVal (eBin dIn (oVar 3) (oOf (eTup [(eTup [(eCon (.int 2)), (eCon (.int 1))]), (eTup [(eCon (.int 3)), (eCon (.int 2))]), (eTup [(eCon (.int 1)), (eCon (.int 3))])])))) (sAug 2 (fun x y => x - y) (eCon (.int 1))) sNx))) (sRet (eMove 2))))
def turns_S : Fun := runF turns_F 4 [false, false]
theorem f_turns {Γ : Ctx} (D0 : ∃ fd, FunD Γ.K "turns" "turns" (defArgs Hd.s_turns) (defBody Hd.s_turns) (defScope Hd.s_turns) [] [] (He.fAd Γ.K ("turns", none)) fd) (m0 : Γ.mg "turns" = some (.ref (He.fAd Γ.K ("turns", none)))) (B : Bare Γ) : FnAt Γ false 1 "turns" ["first", "second"] [false, false] turns_S := by
  obtain ⟨fd, Fd⟩ := D0
  refine fnAt_of (k := 0) (N := ["first", "second", "found", "pair"]) Fd ⟨by kernel_rfl, by kernel_rfl, by kernel_rfl, by decide +kernel, by decide +kernel, by decide +kernel, by decide +kernel⟩ m0 (FunD.bindsN Fd fun _ _ _ _ _ _ us hl => match us, hl with | [_, _], _ => rfl) rfl rfl (as := [0, 1, 2, 3]) fun F0 H0 ino X W g hq hc => ?_
  unfold turns_F
  exact (dss_cons (ds_asg g.toGdT.toGd rfl (by kernel_rfl) (by decide) de_int rfl) (dss_cons (ds_for g rfl (by decide) (di_zipN g.toGdT.toGd (by kernel_rfl) (B "zip" (by decide)) (do_var g.toGdT.toGd rfl (.inl (by kernel_rfl)) (by decide) (by decide)) (do_var g.toGdT.toGd rfl (.inl (by kernel_rfl)) (by decide) (by decide)) rfl rfl) (dg_name g.toGdT.toGd rfl (by kernel_rfl)) (dss_cons (ds_if (dt_cmp (o_in g.toGdT.toGd) op2_of (do_var g.toGdT.toGd rfl (.inl (by kernel_rfl)) (by decide) (by decide)) (do_of (de_tup (des_cons (de_tup (des_cons de_int (des_cons de_int des_nil rfl) rfl) (by decide)) (des_cons (de_tup (des_cons de_int (des_cons de_int des_nil rfl) rfl) (by decide)) (des_cons (de_tup (des_cons de_int (des_cons de_int des_nil rfl) rfl) (by decide)) des_nil rfl) rfl) rfl) (by decide))) rfl) (dss_one (ds_aug g.toGdT.toGd rfl (by kernel_rfl) (by decide) de_int ip_add)) dss_nil) (dss_one (ds_if (dt_cmp (o_in g.toGdT.toGd) op2_of (do_var g.toGdT.toGd rfl (.inl (by kernel_rfl)) (by decide) (by decide)) (do_of (de_tup (des_cons (de_tup (des_cons de_int (des_cons de_int des_nil rfl) rfl) (by decide)) (des_cons (de_tup (des_cons de_int (des_cons de_int des_nil rfl) rfl) (by decide)) (des_cons (de_tup (des_cons de_int (des_cons de_int des_nil rfl) rfl) (by decide)) des_nil rfl) rfl) rfl) (by decide))) rfl) (dss_one (ds_aug g.toGdT.toGd rfl (by kernel_rfl) (by decide) de_int ip_sub)) dss_nil))) (fun _ => rfl)) (dss_one (ds_ret (de_move g.toGdT.toGd rfl (.inl (by kernel_rfl)) (by decide) (by decide))))))
def product_F : StF := (sSeq (sAsg 2 (eOps dTuple [(oOf (eComp [3, 4] (iZip (oOf (eBin dIx (oVar 0) (oOf (eCon (.int 1))))) (oOf (eBin dIx (oVar 1) (oOf (eCon (.int 1)))))) (.tup [(.name 3), (.name 4)]) tTrue (eCall third_S [.val (eVar 3), .val (eVar 4)])))])) (sRet (eTup [(eBin dMod (oOf (eBin dAdd (oOf (eBin dAdd (oOf (eBin dIx (oVar 0) (oOf (eCon (.int 0))))) (oOf (eBin dIx (oVar 1) (oOf (eCon (.int 0))))))) (oOf (eBin dDiv (oOf (eCall turns_S [.val (eBin dIx (oVar 0) (oOf (eCon (.int 1)))), .val (eBin dIx (oVar 1) (oOf (eCon (.int 1))))])) (oOf (eCon (.int 2))))))) (oOf (eCon (.int 2)))), (eVar 2)])))
def product_S : Fun := runF product_F 5 [false, false]
theorem f_product {Γ : Ctx} (h_third : FnAt Γ false 1 "third" ["one", "other"] [false, false] third_S) (h_turns : FnAt Γ false 1 "turns" ["first", "second"] [false, false] turns_S) (D0 : ∃ fd, FunD Γ.K "product" "product" (defArgs Hd.s_product) (defBody Hd.s_product) (defScope Hd.s_product) [] [] (He.fAd Γ.K ("product", none)) fd) (m0 : Γ.mg "product" = some (.ref (He.fAd Γ.K ("product", none)))) (B : Bare Γ) : FnAt Γ false 2 "product" ["first", "second"] [false, false] product_S := by
  obtain ⟨fd, Fd⟩ := D0
  refine fnAt_of (k := 1) (N := ["first", "second", "word", "one", "other"]) Fd ⟨by kernel_rfl, by kernel_rfl, by kernel_rfl, by decide +kernel, by decide +kernel, by decide +kernel, by decide +kernel⟩ m0 (FunD.bindsN Fd fun _ _ _ _ _ _ us hl => match us, hl with | [_, _], _ => rfl) rfl rfl (as := [0, 1, 2]) fun F0 H0 ino X W g hq hc => ?_
  unfold product_F
  exact (dss_cons (ds_asg g.toGdT.toGd rfl (by kernel_rfl) (by decide) (de_bty g.toGdT.toGd (c_tuple g.toGdT.toGd) (by kernel_rfl) (B "tuple" (by decide)) (by decide +kernel) (da_cons (do_of (de_comp g.toGdT.toGd rfl (di_zip g.toGdT.toGd (by kernel_rfl) (B "zip" (by decide)) (do_of (de_ix (o_ix g.toGdT.toGd) op2_of (do_var g.toGdT.toGd rfl (.inl (by kernel_rfl)) (by decide) (by decide)) (do_of de_int) (fun _ _ => rfl))) (do_of (de_ix (o_ix g.toGdT.toGd) op2_of (do_var g.toGdT.toGd rfl (.inl (by kernel_rfl)) (by decide) (by decide)) (do_of de_int) (fun _ _ => rfl))) rfl rfl) (own := [("one", 3), ("other", 4)]) (by kernel_rfl) (by decide) (fun p1 o1 X1 g1 => (dg_tup g1.toGd rfl (dgs_cons (dg_name g1.toGd rfl (by kernel_rfl)) (dgs_cons (dg_name g1.toGd rfl (by kernel_rfl)) dgs_nil rfl) rfl) rfl rfl rfl)) (fun p1 o1 X1 g1 => dts_nil) (fun p1 o1 X1 g1 => (de_callA g1 rfl ((h_third.mono (by omega)).to ⟨rfl, rfl, rfl, rfl, rfl, rfl, rfl⟩) (fun h => by cases h) (by kernel_rfl) rfl (das_val (de_var g1.toGd rfl (by first | exact .inl (by decide +kernel) | exact .inr (.inl (by decide +kernel)) | exact .inr (.inr (by decide +kernel))) (by decide) (by decide)) (das_val (de_var g1.toGd rfl (by first | exact .inl (by decide +kernel) | exact .inr (.inl (by decide +kernel)) | exact .inr (.inr (by decide +kernel))) (by decide) (by decide)) das_nil rfl) rfl) (by decide) rfl rfl)) (fun _ => rfl))) da_nil rfl) (by decide) (by decide) rfl rfl) rfl) (dss_one (ds_ret (de_tup (des_cons (de_binop (o_mod) op2_of (do_of (de_binop (o_add g.toGdT.toGd) op2_of (do_of (de_binop (o_add g.toGdT.toGd) op2_of (do_of (de_ix (o_ix g.toGdT.toGd) op2_of (do_var g.toGdT.toGd rfl (.inl (by kernel_rfl)) (by decide) (by decide)) (do_of de_int) (fun _ _ => rfl))) (do_of (de_ix (o_ix g.toGdT.toGd) op2_of (do_var g.toGdT.toGd rfl (.inl (by kernel_rfl)) (by decide) (by decide)) (do_of de_int) (fun _ _ => rfl))))) (do_of (de_binop (o_div) op2_of (do_of (de_callA g.toGdT rfl ((h_turns.mono (by omega)).to ⟨rfl, rfl, rfl, rfl, rfl, rfl, rfl⟩) (fun h => by cases h) (by kernel_rfl) rfl (das_val (de_ix (o_ix g.toGdT.toGd) op2_of (do_var g.toGdT.toGd rfl (.inl (by kernel_rfl)) (by decide) (by decide)) (do_of de_int) (fun _ _ => rfl)) (das_val (de_ix (o_ix g.toGdT.toGd) op2_of (do_var g.toGdT.toGd rfl (.inl (by kernel_rfl)) (by decide) (by decide)) (do_of de_int) (fun _ _ => rfl)) das_nil rfl) rfl) (by decide) rfl rfl)) (do_of de_int))))) (do_of de_int)) (des_cons (de_var g.toGdT.toGd rfl (.inl (by kernel_rfl)) (by decide) (by decide)) des_nil rfl) rfl) (by decide)))))
def multiply_F : StF := (sSeq (sAsg 2 (eCall places_of_S [.val (eVar 0)])) (sSeq (sIf (tOr2 (tNot1 (tVal (eChain dLe dLe (oOf (eCon (.int 1))) (oVar 2) (oOf (eCon (.int 4)))))) (tOr2 (tNot1 (tVal (eCall is_signed_S [.val (eVar 0), .val (eVar 2)]))) (tNot1 (tVal (eCall is_signed_S [.val (eVar 1), .val (eVar 2)]))))) (sRaise "BadState") sNx) (sSeq (sIf (tNot1 (tVal (eCall go_together_S [.val (eBin dIx (oVar 0) (oOf (eCon (.int 1)))), .val (eBin dIx (oVar 1) (oOf (eCon (.int 1))))]))) (sRaise "BadState") sNx) (sRet (eCall product_S [.val (eVar 0), .val (eVar 1)])))))
def multiply_S : Fun := runF multiply_F 3 [false, false]
theorem f_multiply {Γ : Ctx} (h_go_together : FnAt Γ false 1 "go_together" ["first", "second"] [false, false] go_together_S) (h_is_signed : FnAt Γ false 2 "is_signed" ["value", "places"] [false, false] is_signed_S) (h_places_of : FnAt Γ false 1 "places_of" ["value"] [false] places_of_S) (h_product : FnAt Γ false 2 "product" ["first", "second"] [false, false] product_S) (D0 : ∃ fd, FunD Γ.K "multiply" "multiply" (defArgs Hd.s_multiply) (defBody Hd.s_multiply) (defScope Hd.s_multiply) [] [] (He.fAd Γ.K ("multiply", none)) fd) (m0 : Γ.mg "multiply" = some (.ref (He.fAd Γ.K ("multiply", none)))) (B : Bare Γ) (C : Ints Γ) (R : Errs Γ) : FnAt Γ false 3 "multiply" ["first", "second"] [false, false] multiply_S := by
  obtain ⟨fd, Fd⟩ := D0
  refine fnAt_of (k := 2) (N := ["first", "second", "places"]) Fd ⟨by kernel_rfl, by kernel_rfl, by kernel_rfl, by decide +kernel, by decide +kernel, by decide +kernel, by decide +kernel⟩ m0 (FunD.bindsN Fd fun _ _ _ _ _ _ us hl => match us, hl with | [_, _], _ => rfl) rfl rfl (as := [0, 1, 2]) fun F0 H0 ino X W g hq hc => ?_
  unfold multiply_F
  exact (dss_cons (ds_asg g.toGdT.toGd rfl (by kernel_rfl) (by decide) (de_callA g.toGdT rfl ((h_places_of.mono (by omega)).to ⟨rfl, rfl, rfl, rfl, rfl, rfl, rfl⟩) (fun h => by cases h) (by kernel_rfl) rfl (das_val (de_var g.toGdT.toGd rfl (.inl (by kernel_rfl)) (by decide) (by decide)) das_nil rfl) (by decide) rfl rfl) rfl) (dss_cons (ds_if (dw_or (dt_not (dt_chain (o_le g.toGdT.toGd) (o_le g.toGdT.toGd) op2_of op2_of (do_of de_int) (do_var g.toGdT.toGd rfl (.inl (by kernel_rfl)) (by decide) (by decide)) (do_of (de_gint g.toGdT.toGd (by kernel_rfl) (C.c_MOST_PLACES) (by decide))) rfl)) (dw_or (dt_not (dt_val (de_callA g.toGdT rfl ((h_is_signed.mono (by omega)).to ⟨rfl, rfl, rfl, rfl, rfl, rfl, rfl⟩) (fun h => by cases h) (by kernel_rfl) rfl (das_val (de_var g.toGdT.toGd rfl (.inl (by kernel_rfl)) (by decide) (by decide)) (das_val (de_var g.toGdT.toGd rfl (.inl (by kernel_rfl)) (by decide) (by decide)) das_nil rfl) rfl) (by decide) rfl rfl) (fun _ => rfl))) (dw_or1 (dt_not (dt_val (de_callA g.toGdT rfl ((h_is_signed.mono (by omega)).to ⟨rfl, rfl, rfl, rfl, rfl, rfl, rfl⟩) (fun h => by cases h) (by kernel_rfl) rfl (das_val (de_var g.toGdT.toGd rfl (.inl (by kernel_rfl)) (by decide) (by decide)) (das_val (de_var g.toGdT.toGd rfl (.inl (by kernel_rfl)) (by decide) (by decide)) das_nil rfl) rfl) (by decide) rfl rfl) (fun _ => rfl)))))).pt (dss_one (ds_raiseA g rfl (R.r_BadState.to ⟨rfl, rfl, rfl, rfl, rfl, rfl, rfl⟩) (by kernel_rfl) (by decide))) dss_nil) (dss_cons (ds_if (dt_not (dt_val (de_callA g.toGdT rfl ((h_go_together.mono (by omega)).to ⟨rfl, rfl, rfl, rfl, rfl, rfl, rfl⟩) (fun h => by cases h) (by kernel_rfl) rfl (das_val (de_ix (o_ix g.toGdT.toGd) op2_of (do_var g.toGdT.toGd rfl (.inl (by kernel_rfl)) (by decide) (by decide)) (do_of de_int) (fun _ _ => rfl)) (das_val (de_ix (o_ix g.toGdT.toGd) op2_of (do_var g.toGdT.toGd rfl (.inl (by kernel_rfl)) (by decide) (by decide)) (do_of de_int) (fun _ _ => rfl)) das_nil rfl) rfl) (by decide) rfl rfl) (fun _ => rfl))) (dss_one (ds_raiseA g rfl (R.r_BadState.to ⟨rfl, rfl, rfl, rfl, rfl, rfl, rfl⟩) (by kernel_rfl) (by decide))) dss_nil) (dss_one (ds_ret (de_callA g.toGdT rfl ((h_product.mono (by omega)).to ⟨rfl, rfl, rfl, rfl, rfl, rfl, rfl⟩) (fun h => by cases h) (by kernel_rfl) rfl (das_val (de_var g.toGdT.toGd rfl (.inl (by kernel_rfl)) (by decide) (by decide)) (das_val (de_var g.toGdT.toGd rfl (.inl (by kernel_rfl)) (by decide) (by decide)) das_nil rfl) rfl) (by decide) rfl rfl))))))
def _law_multiply_right_F : StF := (sSeq (sAsgT (.tup [(.name 2), (.name 3)]) (eTup [(eCall _law_signed_S [.ref 0, .val (eVar 1)]), (eCall _law_signed_S [.ref 0, .val (eIte (tVal (eBin dEq (oOf (eCall _law_draw_S [.ref 0, .val (eCon (.int 6))])) (oOf (eCon (.int 0))))) (eBin dAdd (oOf (eCon (.int 1))) (oOf (eCall _law_draw_S [.ref 0, .val (eCon (.int 4))]))) (eVar 1))])])) (sSeq (sIf (tVal (eBin dEq (oOf (eCall _law_draw_S [.ref 0, .val (eCon (.int 6))])) (oOf (eCon (.int 0))))) (sAsg 3 (eBin dIx (oOf (eLst [(eTup [(eBin dIx (oVar 3) (oOf (eCon (.int 0)))), (eBin dIx (oVar 3) (oOf (eCon (.int 1)))), (eCon (.int 0))]), (eTup [(eCon (.int 2)), (eBin dIx (oVar 3) (oOf (eCon (.int 1))))]), (eTup [(eCon (.int 0)), (eBin dMul (oOf (eTup [(eCon (.int 4))])) (oVar 1))]), (eBin dIx (oVar 3) (oOf (eCon (.int 1)))), (eCon (.int 3)), (eCon .none), (eTup [(eCon (.int 0)), (eTup [])]), (eTup [(eCon (.str "1")), (eBin dIx (oVar 3) (oOf (eCon (.int 1))))]), (eTup [(eCon (.int 0)), (eBin dMul (oOf (eTup [(eCon (.int 1))])) (oOf (eCon (.int 5))))])])) (oOf (eCall _law_draw_S [.ref 0, .val (eCon (.int 9))])))) sNx) (sSeq (sAsg 4 (eTup [(eCon (.int 1)), (eCon (.str "state"))])) (sSeq (sIf (tAnd2 (tVal (eCall _law_is_signed_S [.val (eVar 1), .val (eVar 3)])) (tNot1 (tVal (eCall _law_parts_S [.val (eBin dIx (oVar 2) (oOf (eCon (.int 1)))), .val (eBin dIx (oVar 3) (oOf (eCon (.int 1))))])))) (sAsg 4 (eTup [(eCon (.int 0)), (eCall _law_times_S [.val (eVar 2), .val (eVar 3)])])) sNx) (sSeq (sIf (tVal (eBin dNe (oOf (eTold readD2 toldWord (eCall multiply_S [.val (eVar 2), .val (eVar 3)]))) (oVar 4))) (sRet (eCon (.bool false))) sNx) (sRet (eOr2 (eBin dEq (oOf (eBin dIx (oVar 4) (oOf (eCon (.int 0))))) (oOf (eCon (.int 0)))) (eBin dEq (oOf (eTold readD2 toldWord (eCall multiply_S [.val (eVar 3), .val (eVar 2)]))) (oOf (eTup [(eCon (.int 1)), (eCon (.str "state"))]))))))))))
def _law_multiply_right_S : Fun := runF _law_multiply_right_F 5 [true, false]
theorem f__law_multiply_right {Γ : Ctx} (h__law_draw : FnAt Γ false 1 "_law_draw" ["box", "many"] [true, false] _law_draw_S) (h__law_is_signed : FnAt Γ false 2 "_law_is_signed" ["places", "one"] [false, false] _law_is_signed_S) (h__law_parts : FnAt Γ false 1 "_law_parts" ["one", "two"] [false, false] _law_parts_S) (h__law_signed : FnAt Γ false 2 "_law_signed" ["box", "places"] [true, false] _law_signed_S) (h__law_times : FnAt Γ false 1 "_law_times" ["one", "two"] [false, false] _law_times_S) (h_multiply : FnAt Γ false 3 "multiply" ["first", "second"] [false, false] multiply_S) (D0 : ∃ fd, FunD Γ.K "_law_multiply_right" "_law_multiply_right" (defArgs Hd.s__law_multiply_right) (defBody Hd.s__law_multiply_right) (defScope Hd.s__law_multiply_right) [] [] (He.fAd Γ.K ("_law_multiply_right", none)) fd) (m0 : Γ.mg "_law_multiply_right" = some (.ref (He.fAd Γ.K ("_law_multiply_right", none)))) (B : Bare Γ) (Td : ToldAt Γ "_law_told" 8 readD2 toldWord) (TB : TabB Γ.base Γ.mg (He.cT Γ.K ("_law_multiply_right", none)).1 (He.cT Γ.K ("_law_multiply_right", none)).2) (hT1 : ((He.cT Γ.K ("_law_multiply_right", none)).2, ("_law_multiply_right" ++ ".<locals>." ++ "<lambda>" : Str)) ∈ Γ.T) (hT2 : ∀ p ∈ Γ.T, p.1 = (He.cT Γ.K ("_law_multiply_right", none)).2 → p.2 = ("_law_multiply_right" ++ ".<locals>." ++ "<lambda>" : Str)) : FnAt Γ false 10 "_law_multiply_right" ["box", "places"] [true, false] _law_multiply_right_S := by
  obtain ⟨fd, Fd⟩ := D0
  refine fnAt_of (k := 9) (N := ["box", "places", "one", "two", "due"]) Fd ⟨by kernel_rfl, by kernel_rfl, by kernel_rfl, by decide +kernel, by decide +kernel, by decide +kernel, by decide +kernel⟩ m0 (FunD.bindsN Fd fun _ _ _ _ _ _ us hl => match us, hl with | [_, _], _ => rfl) rfl rfl (as := [0, 1, 2, 3, 4]) fun F0 H0 ino X W g hq hc => ?_
  unfold _law_multiply_right_F
  exact (dss_cons (ds_asgT (by decide) (de_tup (des_cons (de_callA g.toGdT rfl ((h__law_signed.mono (by omega)).to ⟨rfl, rfl, rfl, rfl, rfl, rfl, rfl⟩) (fun h => by cases h) (by kernel_rfl) rfl (das_ref g.toGdT.toGd rfl (.inl (by kernel_rfl)) (by decide) (by decide) (das_val (de_var g.toGdT.toGd rfl (.inl (by kernel_rfl)) (by decide) (by decide)) das_nil rfl) rfl) (by decide) rfl rfl) (des_cons (de_callA g.toGdT rfl ((h__law_signed.mono (by omega)).to ⟨rfl, rfl, rfl, rfl, rfl, rfl, rfl⟩) (fun h => by cases h) (by kernel_rfl) rfl (das_ref g.toGdT.toGd rfl (.inl (by kernel_rfl)) (by decide) (by decide) (das_val (de_ite (dt_cmp (o_eq g.toGdT.toGd) op2_of (do_of (de_callA g.toGdT rfl ((h__law_draw.mono (by omega)).to ⟨rfl, rfl, rfl, rfl, rfl, rfl, rfl⟩) (fun h => by cases h) (by kernel_rfl) rfl (das_ref g.toGdT.toGd rfl (.inl (by kernel_rfl)) (by decide) (by decide) (das_val de_int das_nil rfl) rfl) (by decide) rfl rfl)) (do_of de_int) rfl) (de_binop (o_add g.toGdT.toGd) op2_of (do_of de_int) (do_of (de_callA g.toGdT rfl ((h__law_draw.mono (by omega)).to ⟨rfl, rfl, rfl, rfl, rfl, rfl, rfl⟩) (fun h => by cases h) (by kernel_rfl) rfl (das_ref g.toGdT.toGd rfl (.inl (by kernel_rfl)) (by decide) (by decide) (das_val de_int das_nil rfl) rfl) (by decide) rfl rfl))) (de_var g.toGdT.toGd rfl (.inl (by kernel_rfl)) (by decide) (by decide))) das_nil rfl) rfl) (by decide) rfl rfl) des_nil rfl) rfl) (by decide)) (dg_tup g.toGdT.toGd rfl (dgs_cons (dg_name g.toGdT.toGd rfl (by kernel_rfl)) (dgs_cons (dg_name g.toGdT.toGd rfl (by kernel_rfl)) dgs_nil rfl) rfl) rfl rfl rfl) rfl (sp_cell g.toGdT.toGd (by kernel_rfl) rfl) rfl) (dss_cons (ds_if (dt_cmp (o_eq g.toGdT.toGd) op2_of (do_of (de_callA g.toGdT rfl ((h__law_draw.mono (by omega)).to ⟨rfl, rfl, rfl, rfl, rfl, rfl, rfl⟩) (fun h => by cases h) (by kernel_rfl) rfl (das_ref g.toGdT.toGd rfl (.inl (by kernel_rfl)) (by decide) (by decide) (das_val de_int das_nil rfl) rfl) (by decide) rfl rfl)) (do_of de_int) rfl) (dss_one (ds_asg g.toGdT.toGd rfl (by kernel_rfl) (by decide) (de_ix (o_ix g.toGdT.toGd) op2_of (do_of (de_lst (des_cons (de_tup (des_cons (de_ix (o_ix g.toGdT.toGd) op2_of (do_var g.toGdT.toGd rfl (.inr (.inl (by kernel_rfl))) (by decide) (by decide)) (do_of de_int) (fun _ _ => rfl)) (des_cons (de_ix (o_ix g.toGdT.toGd) op2_of (do_var g.toGdT.toGd rfl (.inr (.inl (by kernel_rfl))) (by decide) (by decide)) (do_of de_int) (fun _ _ => rfl)) (des_cons de_int des_nil rfl) rfl) rfl) (by decide)) (des_cons (de_tup (des_cons de_int (des_cons (de_ix (o_ix g.toGdT.toGd) op2_of (do_var g.toGdT.toGd rfl (.inr (.inl (by kernel_rfl))) (by decide) (by decide)) (do_of de_int) (fun _ _ => rfl)) des_nil rfl) rfl) (by decide)) (des_cons (de_tup (des_cons de_int (des_cons (de_binop (o_mul g.toGdT.toGd) op2_of (do_of (de_tup (des_cons de_int des_nil rfl) (by decide))) (do_var g.toGdT.toGd rfl (.inl (by kernel_rfl)) (by decide) (by decide))) des_nil rfl) rfl) (by decide)) (des_cons (de_ix (o_ix g.toGdT.toGd) op2_of (do_var g.toGdT.toGd rfl (.inr (.inl (by kernel_rfl))) (by decide) (by decide)) (do_of de_int) (fun _ _ => rfl)) (des_cons de_int (des_cons de_none (des_cons (de_tup (des_cons de_int (des_cons (de_tup des_nil (by decide)) des_nil rfl) rfl) (by decide)) (des_cons (de_tup (des_cons de_str (des_cons (de_ix (o_ix g.toGdT.toGd) op2_of (do_var g.toGdT.toGd rfl (.inr (.inl (by kernel_rfl))) (by decide) (by decide)) (do_of de_int) (fun _ _ => rfl)) des_nil rfl) rfl) (by decide)) (des_cons (de_tup (des_cons de_int (des_cons (de_binop (o_mul g.toGdT.toGd) op2_of (do_of (de_tup (des_cons de_int des_nil rfl) (by decide))) (do_of de_int)) des_nil rfl) rfl) (by decide)) des_nil rfl) rfl) rfl) rfl) rfl) rfl) rfl) rfl) rfl) (by decide))) (do_of (de_callA g.toGdT rfl ((h__law_draw.mono (by omega)).to ⟨rfl, rfl, rfl, rfl, rfl, rfl, rfl⟩) (fun h => by cases h) (by kernel_rfl) rfl (das_ref g.toGdT.toGd rfl (.inl (by kernel_rfl)) (by decide) (by decide) (das_val de_int das_nil rfl) rfl) (by decide) rfl rfl)) (fun _ _ => rfl)) rfl)) dss_nil) (dss_cons (ds_asg g.toGdT.toGd rfl (by kernel_rfl) (by decide) (de_tup (des_cons de_int (des_cons de_str des_nil rfl) rfl) (by decide)) rfl) (dss_cons (ds_if (dw_and (dt_val (de_callA g.toGdT rfl ((h__law_is_signed.mono (by omega)).to ⟨rfl, rfl, rfl, rfl, rfl, rfl, rfl⟩) (fun h => by cases h) (by kernel_rfl) rfl (das_val (de_var g.toGdT.toGd rfl (.inl (by kernel_rfl)) (by decide) (by decide)) (das_val (de_var g.toGdT.toGd rfl (.inr (.inl (by kernel_rfl))) (by decide) (by decide)) das_nil rfl) rfl) (by decide) rfl rfl) (fun _ => rfl)) (dw_and1 (dt_not (dt_val (de_callA g.toGdT rfl ((h__law_parts.mono (by omega)).to ⟨rfl, rfl, rfl, rfl, rfl, rfl, rfl⟩) (fun h => by cases h) (by kernel_rfl) rfl (das_val (de_ix (o_ix g.toGdT.toGd) op2_of (do_var g.toGdT.toGd rfl (.inr (.inl (by kernel_rfl))) (by decide) (by decide)) (do_of de_int) (fun _ _ => rfl)) (das_val (de_ix (o_ix g.toGdT.toGd) op2_of (do_var g.toGdT.toGd rfl (.inr (.inl (by kernel_rfl))) (by decide) (by decide)) (do_of de_int) (fun _ _ => rfl)) das_nil rfl) rfl) (by decide) rfl rfl) (fun _ => rfl))))).pt (dss_one (ds_asg g.toGdT.toGd rfl (by kernel_rfl) (by decide) (de_tup (des_cons de_int (des_cons (de_callA g.toGdT rfl ((h__law_times.mono (by omega)).to ⟨rfl, rfl, rfl, rfl, rfl, rfl, rfl⟩) (fun h => by cases h) (by kernel_rfl) rfl (das_val (de_var g.toGdT.toGd rfl (.inr (.inl (by kernel_rfl))) (by decide) (by decide)) (das_val (de_var g.toGdT.toGd rfl (.inr (.inl (by kernel_rfl))) (by decide) (by decide)) das_nil rfl) rfl) (by decide) rfl rfl) des_nil rfl) rfl) (by decide)) rfl)) dss_nil) (dss_cons (ds_if (dt_cmp (o_ne g.toGdT.toGd) op2_of (do_of (Td.rule (kk := 7) g.toGdT (by omega) (by omega) (by kernel_rfl) TB (hc.trans (fund_code Fd)) (by rw [hq]; exact hT1) (fun p hp e => by rw [hq]; exact hT2 p hp e) (lamS_by (by kernel_rfl)) rfl (fun _ _ _ _ _ => rfl) (fun F1 H1 i1 X1 W1 g1 => (de_callA g1 rfl ((h_multiply.mono (by omega)).to ⟨rfl, rfl, rfl, rfl, rfl, rfl, rfl⟩) (fun h => by cases h) (by kernel_rfl) rfl (das_val (de_var g1.toGd rfl (by first | exact .inl (by decide +kernel) | exact .inr (.inl (by decide +kernel)) | exact .inr (.inr (by decide +kernel))) (by decide) (by decide)) (das_val (de_var g1.toGd rfl (by first | exact .inl (by decide +kernel) | exact .inr (.inl (by decide +kernel)) | exact .inr (.inr (by decide +kernel))) (by decide) (by decide)) das_nil rfl) rfl) (by decide) rfl rfl)))) (do_var g.toGdT.toGd rfl (.inl (by kernel_rfl)) (by decide) (by decide)) rfl) (dss_one (ds_ret de_bool)) dss_nil) (dss_one (ds_ret (de_or (de_cmp (o_eq g.toGdT.toGd) op2_of (do_of (de_ix (o_ix g.toGdT.toGd) op2_of (do_var g.toGdT.toGd rfl (.inl (by kernel_rfl)) (by decide) (by decide)) (do_of de_int) (fun _ _ => rfl))) (do_of de_int) rfl) (de_or1 (de_cmp (o_eq g.toGdT.toGd) op2_of (do_of (Td.rule (kk := 7) g.toGdT (by omega) (by omega) (by kernel_rfl) TB (hc.trans (fund_code Fd)) (by rw [hq]; exact hT1) (fun p hp e => by rw [hq]; exact hT2 p hp e) (lamS_by (by kernel_rfl)) rfl (fun _ _ _ _ _ => rfl) (fun F2 H2 i2 X2 W2 g2 => (de_callA g2 rfl ((h_multiply.mono (by omega)).to ⟨rfl, rfl, rfl, rfl, rfl, rfl, rfl⟩) (fun h => by cases h) (by kernel_rfl) rfl (das_val (de_var g2.toGd rfl (by first | exact .inl (by decide +kernel) | exact .inr (.inl (by decide +kernel)) | exact .inr (.inr (by decide +kernel))) (by decide) (by decide)) (das_val (de_var g2.toGd rfl (by first | exact .inl (by decide +kernel) | exact .inr (.inl (by decide +kernel)) | exact .inr (.inr (by decide +kernel))) (by decide) (by decide)) das_nil rfl) rfl) (by decide) rfl rfl)))) (do_of (de_tup (des_cons de_int (des_cons de_str des_nil rfl) rfl) (by decide))) rfl) rfl)))))))))
def _law_other_state_F : StF := (sSeq (sAsg 2 (eOps dLen [(oVar 1)])) (sSeq (sAsg 3 (eCall _law_draw_S [.ref 0, .val (eVar 2)])) (sSeq (sAsg 4 (eCall _law_signed_S [.ref 0, .val (eVar 2)])) (sSeq (sAsg 5 (eLst [(eBin dAdd (oOf (eBin dAdd (oOf (eSlice (oVar 1) none (some (oVar 3)))) (oOf (eTup [(eVar 4)])))) (oOf (eSlice (oVar 1) (some (oOf (eBin dAdd (oVar 3) (oOf (eCon (.int 1)))))) none))), (eSlice (oVar 1) (some (oOf (eCon (.int 1)))) none), (eBin dAdd (oVar 1) (oOf (eTup [(eVar 4)]))), (eBin dAdd (oOf (eBin dAdd (oOf (eSlice (oVar 1) none (some (oVar 3)))) (oOf (eTup [(eTup [(eCon (.int 0)), (eBin dMul (oOf (eTup [(eCon (.int 0))])) (oVar 2))])])))) (oOf (eSlice (oVar 1) (some (oOf (eBin dAdd (oVar 3) (oOf (eCon (.int 1)))))) none))), (eUn dRev (oVar 1)), (eTup [])])) (sSeq (sAsg 5 (eBin dAdd (oVar 5) (oOf (eLst [(eBin dAdd (oOf (eBin dAdd (oOf (eSlice (oVar 1) none (some (oVar 3)))) (oOf (eTup [(eTup [(eCon (.int 2)), (eBin dIx (oOf (eBin dIx (oVar 1) (oVar 3))) (oOf (eCon (.int 1))))])])))) (oOf (eSlice (oVar 1) (some (oOf (eBin dAdd (oVar 3) (oOf (eCon (.int 1)))))) none))), (eBin dAdd (oOf (eBin dAdd (oOf (eSlice (oVar 1) none (some (oVar 3)))) (oOf (eTup [(eTup [(eCon (.int 0)), (eBin dAdd (oOf (eTup [(eCon (.int 4))])) (oOf (eBin dMul (oOf (eTup [(eCon (.int 0))])) (oOf (eBin dSub (oVar 2) (oOf (eCon (.int 1))))))))])])))) (oOf (eSlice (oVar 1) (some (oOf (eBin dAdd (oVar 3) (oOf (eCon (.int 1)))))) none))), (eCon .none), (eCon (.int 3)), (eCon (.str "state"))])))) (sSeq (sAsg 5 (eBin dAdd (oVar 5) (oOf (eLst [(eBin dAdd (oOf (eBin dAdd (oOf (eSlice (oVar 1) none (some (oVar 3)))) (oOf (eTup [(eBin dIx (oOf (eBin dIx (oVar 1) (oVar 3))) (oOf (eCon (.int 1))))])))) (oOf (eSlice (oVar 1) (some (oOf (eBin dAdd (oVar 3) (oOf (eCon (.int 1)))))) none))), (eBin dAdd (oOf (eBin dAdd (oOf (eSlice (oVar 1) none (some (oVar 3)))) (oOf (eTup [(eTup [(eCon (.int 0)), (eBin dAdd (oOf (eBin dIx (oOf (eBin dIx (oVar 1) (oVar 3))) (oOf (eCon (.int 1))))) (oOf (eTup [(eCon (.int 0))])))])])))) (oOf (eSlice (oVar 1) (some (oOf (eBin dAdd (oVar 3) (oOf (eCon (.int 1)))))) none))), (eBin dAdd (oOf (eBin dAdd (oOf (eSlice (oVar 1) none (some (oVar 3)))) (oOf (eTup [(eBin dAdd (oOf (eBin dIx (oVar 1) (oVar 3))) (oOf (eTup [(eCon (.int 0))])))])))) (oOf (eSlice (oVar 1) (some (oOf (eBin dAdd (oVar 3) (oOf (eCon (.int 1)))))) none)))])))) (sSeq (sAsg 5 (eBin dAdd (oVar 5) (oOf (eLst [(eBin dAdd (oOf (eOps dTuple [(oOf (eComp [6, 7] (iSeq (oVar 1)) (.tup [(.name 6), (.name 7)]) tTrue (eTup [(eVar 6), (eBin dAdd (oVar 7) (oOf (eBin dMul (oOf (eTup [(eCon (.int 0))])) (oOf (eBin dSub (oOf (eCon (.int 5))) (oVar 2))))))])))])) (oOf (eBin dMul (oOf (eTup [(eTup [(eCon (.int 0)), (eBin dMul (oOf (eTup [(eCon (.int 1))])) (oOf (eCon (.int 5))))])])) (oOf (eBin dSub (oOf (eCon (.int 5))) (oVar 2)))))), (eBin dAdd (oOf (eBin dAdd (oOf (eSlice (oVar 1) none (some (oVar 3)))) (oOf (eTup [(eTup [(eCon (.str "0")), (eBin dIx (oOf (eBin dIx (oVar 1) (oVar 3))) (oOf (eCon (.int 1))))])])))) (oOf (eSlice (oVar 1) (some (oOf (eBin dAdd (oVar 3) (oOf (eCon (.int 1)))))) none)))])))) (sSeq (sIf (tVal (eBin dGt (oVar 2) (oOf (eCon (.int 1))))) (sSeq (sApp 5 (eBin dAdd (oOf (eBin dAdd (oOf (eSlice (oVar 1) none (some (oVar 3)))) (oOf (eTup [(eCall _law_times_S [.val (eBin dIx (oVar 1) (oVar 3)), .val (eBin dIx (oVar 1) (oOf (eBin dSub (oVar 3) (oOf (eCon (.int 1))))))])])))) (oOf (eSlice (oVar 1) (some (oOf (eBin dAdd (oVar 3) (oOf (eCon (.int 1)))))) none)))) (sApp 5 (eBin dAdd (oOf (eBin dAdd (oOf (eSlice (oVar 1) none (some (oVar 3)))) (oOf (eTup [(eBin dIx (oVar 1) (oOf (eBin dSub (oVar 3) (oOf (eCon (.int 1))))))])))) (oOf (eSlice (oVar 1) (some (oOf (eBin dAdd (oVar 3) (oOf (eCon (.int 1)))))) none))))) sNx) (sRet (eBin dIx (oVar 5) (oOf (eCall _law_draw_S [.ref 0, .val (eOps dLen [(oVar 5)])]))))))))))))
def _law_other_state_S : Fun := runF _law_other_state_F 8 [true, false]
theorem f__law_other_state {Γ : Ctx} (h__law_draw : FnAt Γ false 1 "_law_draw" ["box", "many"] [true, false] _law_draw_S) (h__law_signed : FnAt Γ false 2 "_law_signed" ["box", "places"] [true, false] _law_signed_S) (h__law_times : FnAt Γ false 1 "_law_times" ["one", "two"] [false, false] _law_times_S) (D0 : ∃ fd, FunD Γ.K "_law_other_state" "_law_other_state" (defArgs Hd.s__law_other_state) (defBody Hd.s__law_other_state) (defScope Hd.s__law_other_state) [] [] (He.fAd Γ.K ("_law_other_state", none)) fd) (m0 : Γ.mg "_law_other_state" = some (.ref (He.fAd Γ.K ("_law_other_state", none)))) (B : Bare Γ) : FnAt Γ false 3 "_law_other_state" ["box", "state"] [true, false] _law_other_state_S := by
  obtain ⟨fd, Fd⟩ := D0
  refine fnAt_of (k := 2) (N := ["box", "state", "places", "at", "one", "bad", "s", "w"]) Fd ⟨by kernel_rfl, by kernel_rfl, by kernel_rfl, by decide +kernel, by decide +kernel, by decide +kernel, by decide +kernel⟩ m0 (FunD.bindsN Fd fun _ _ _ _ _ _ us hl => match us, hl with | [_, _], _ => rfl) rfl rfl (as := [0, 1, 2, 3, 4, 5]) fun F0 H0 ino X W g hq hc => ?_
  unfold _law_other_state_F
  exact (dss_cons (ds_asg g.toGdT.toGd rfl (by kernel_rfl) (by decide) (de_blt g.toGdT.toGd (c_len g.toGdT.toGd) (by kernel_rfl) (B "len" (by decide)) (by decide +kernel) (da_cons (do_var g.toGdT.toGd rfl (.inl (by kernel_rfl)) (by decide) (by decide)) da_nil rfl) (by decide) (by decide) rfl rfl) rfl) (dss_cons (ds_asg g.toGdT.toGd rfl (by kernel_rfl) (by decide) (de_callA g.toGdT rfl ((h__law_draw.mono (by omega)).to ⟨rfl, rfl, rfl, rfl, rfl, rfl, rfl⟩) (fun h => by cases h) (by kernel_rfl) rfl (das_ref g.toGdT.toGd rfl (.inl (by kernel_rfl)) (by decide) (by decide) (das_val (de_var g.toGdT.toGd rfl (.inr (.inl (by kernel_rfl))) (by decide) (by decide)) das_nil rfl) rfl) (by decide) rfl rfl) rfl) (dss_cons (ds_asg g.toGdT.toGd rfl (by kernel_rfl) (by decide) (de_callA g.toGdT rfl ((h__law_signed.mono (by omega)).to ⟨rfl, rfl, rfl, rfl, rfl, rfl, rfl⟩) (fun h => by cases h) (by kernel_rfl) rfl (das_ref g.toGdT.toGd rfl (.inl (by kernel_rfl)) (by decide) (by decide) (das_val (de_var g.toGdT.toGd rfl (.inr (.inl (by kernel_rfl))) (by decide) (by decide)) das_nil rfl) rfl) (by decide) rfl rfl) rfl) (dss_cons (ds_asg g.toGdT.toGd rfl (by kernel_rfl) (by decide) (de_lst (des_cons (de_binop (o_add g.toGdT.toGd) op2_of (do_of (de_binop (o_add g.toGdT.toGd) op2_of (do_of (de_slice g.toGdT.toGd (do_var g.toGdT.toGd rfl (.inl (by kernel_rfl)) (by decide) (by decide)) dp_none (dp_some (do_var g.toGdT.toGd rfl (.inl (by kernel_rfl)) (by decide) (by decide))))) (do_of (de_tup (des_cons (de_var g.toGdT.toGd rfl (.inl (by kernel_rfl)) (by decide) (by decide)) des_nil rfl) (by decide))))) (do_of (de_slice g.toGdT.toGd (do_var g.toGdT.toGd rfl (.inl (by kernel_rfl)) (by decide) (by decide)) (dp_some (do_of (de_binop (o_add g.toGdT.toGd) op2_of (do_var g.toGdT.toGd rfl (.inl (by kernel_rfl)) (by decide) (by decide)) (do_of de_int)))) dp_none))) (des_cons (de_slice g.toGdT.toGd (do_var g.toGdT.toGd rfl (.inl (by kernel_rfl)) (by decide) (by decide)) (dp_some (do_of de_int)) dp_none) (des_cons (de_binop (o_add g.toGdT.toGd) op2_of (do_var g.toGdT.toGd rfl (.inl (by kernel_rfl)) (by decide) (by decide)) (do_of (de_tup (des_cons (de_var g.toGdT.toGd rfl (.inl (by kernel_rfl)) (by decide) (by decide)) des_nil rfl) (by decide)))) (des_cons (de_binop (o_add g.toGdT.toGd) op2_of (do_of (de_binop (o_add g.toGdT.toGd) op2_of (do_of (de_slice g.toGdT.toGd (do_var g.toGdT.toGd rfl (.inl (by kernel_rfl)) (by decide) (by decide)) dp_none (dp_some (do_var g.toGdT.toGd rfl (.inl (by kernel_rfl)) (by decide) (by decide))))) (do_of (de_tup (des_cons (de_tup (des_cons de_int (des_cons (de_binop (o_mul g.toGdT.toGd) op2_of (do_of (de_tup (des_cons de_int des_nil rfl) (by decide))) (do_var g.toGdT.toGd rfl (.inr (.inl (by kernel_rfl))) (by decide) (by decide))) des_nil rfl) rfl) (by decide)) des_nil rfl) (by decide))))) (do_of (de_slice g.toGdT.toGd (do_var g.toGdT.toGd rfl (.inl (by kernel_rfl)) (by decide) (by decide)) (dp_some (do_of (de_binop (o_add g.toGdT.toGd) op2_of (do_var g.toGdT.toGd rfl (.inl (by kernel_rfl)) (by decide) (by decide)) (do_of de_int)))) dp_none))) (des_cons (de_rev g.toGdT.toGd (do_var g.toGdT.toGd rfl (.inl (by kernel_rfl)) (by decide) (by decide))) (des_cons (de_tup des_nil (by decide)) des_nil rfl) rfl) rfl) rfl) rfl) rfl) (by decide)) rfl) (dss_cons (ds_asg g.toGdT.toGd rfl (by kernel_rfl) (by decide) (de_binop (o_add g.toGdT.toGd) op2_of (do_var g.toGdT.toGd rfl (.inl (by kernel_rfl)) (by decide) (by decide)) (do_of (de_lst (des_cons (de_binop (o_add g.toGdT.toGd) op2_of (do_of (de_binop (o_add g.toGdT.toGd) op2_of (do_of (de_slice g.toGdT.toGd (do_var g.toGdT.toGd rfl (.inl (by kernel_rfl)) (by decide) (by decide)) dp_none (dp_some (do_var g.toGdT.toGd rfl (.inl (by kernel_rfl)) (by decide) (by decide))))) (do_of (de_tup (des_cons (de_tup (des_cons de_int (des_cons (de_ix (o_ix g.toGdT.toGd) op2_of (do_of (de_ix (o_ix g.toGdT.toGd) op2_of (do_var g.toGdT.toGd rfl (.inl (by kernel_rfl)) (by decide) (by decide)) (do_var g.toGdT.toGd rfl (.inl (by kernel_rfl)) (by decide) (by decide)) (fun _ _ => rfl))) (do_of de_int) (fun _ _ => rfl)) des_nil rfl) rfl) (by decide)) des_nil rfl) (by decide))))) (do_of (de_slice g.toGdT.toGd (do_var g.toGdT.toGd rfl (.inl (by kernel_rfl)) (by decide) (by decide)) (dp_some (do_of (de_binop (o_add g.toGdT.toGd) op2_of (do_var g.toGdT.toGd rfl (.inl (by kernel_rfl)) (by decide) (by decide)) (do_of de_int)))) dp_none))) (des_cons (de_binop (o_add g.toGdT.toGd) op2_of (do_of (de_binop (o_add g.toGdT.toGd) op2_of (do_of (de_slice g.toGdT.toGd (do_var g.toGdT.toGd rfl (.inl (by kernel_rfl)) (by decide) (by decide)) dp_none (dp_some (do_var g.toGdT.toGd rfl (.inl (by kernel_rfl)) (by decide) (by decide))))) (do_of (de_tup (des_cons (de_tup (des_cons de_int (des_cons (de_binop (o_add g.toGdT.toGd) op2_of (do_of (de_tup (des_cons de_int des_nil rfl) (by decide))) (do_of (de_binop (o_mul g.toGdT.toGd) op2_of (do_of (de_tup (des_cons de_int des_nil rfl) (by decide))) (do_of (de_binop (o_sub) op2_of (do_var g.toGdT.toGd rfl (.inr (.inl (by kernel_rfl))) (by decide) (by decide)) (do_of de_int)))))) des_nil rfl) rfl) (by decide)) des_nil rfl) (by decide))))) (do_of (de_slice g.toGdT.toGd (do_var g.toGdT.toGd rfl (.inl (by kernel_rfl)) (by decide) (by decide)) (dp_some (do_of (de_binop (o_add g.toGdT.toGd) op2_of (do_var g.toGdT.toGd rfl (.inl (by kernel_rfl)) (by decide) (by decide)) (do_of de_int)))) dp_none))) (des_cons de_none (des_cons de_int (des_cons de_str des_nil rfl) rfl) rfl) rfl) rfl) (by decide)))) rfl) (dss_cons (ds_asg g.toGdT.toGd rfl (by kernel_rfl) (by decide) (de_binop (o_add g.toGdT.toGd) op2_of (do_var g.toGdT.toGd rfl (.inl (by kernel_rfl)) (by decide) (by decide)) (do_of (de_lst (des_cons (de_binop (o_add g.toGdT.toGd) op2_of (do_of (de_binop (o_add g.toGdT.toGd) op2_of (do_of (de_slice g.toGdT.toGd (do_var g.toGdT.toGd rfl (.inl (by kernel_rfl)) (by decide) (by decide)) dp_none (dp_some (do_var g.toGdT.toGd rfl (.inl (by kernel_rfl)) (by decide) (by decide))))) (do_of (de_tup (des_cons (de_ix (o_ix g.toGdT.toGd) op2_of (do_of (de_ix (o_ix g.toGdT.toGd) op2_of (do_var g.toGdT.toGd rfl (.inl (by kernel_rfl)) (by decide) (by decide)) (do_var g.toGdT.toGd rfl (.inl (by kernel_rfl)) (by decide) (by decide)) (fun _ _ => rfl))) (do_of de_int) (fun _ _ => rfl)) des_nil rfl) (by decide))))) (do_of (de_slice g.toGdT.toGd (do_var g.toGdT.toGd rfl (.inl (by kernel_rfl)) (by decide) (by decide)) (dp_some (do_of (de_binop (o_add g.toGdT.toGd) op2_of (do_var g.toGdT.toGd rfl (.inl (by kernel_rfl)) (by decide) (by decide)) (do_of de_int)))) dp_none))) (des_cons (de_binop (o_add g.toGdT.toGd) op2_of (do_of (de_binop (o_add g.toGdT.toGd) op2_of (do_of (de_slice g.toGdT.toGd (do_var g.toGdT.toGd rfl (.inl (by kernel_rfl)) (by decide) (by decide)) dp_none (dp_some (do_var g.toGdT.toGd rfl (.inl (by kernel_rfl)) (by decide) (by decide))))) (do_of (de_tup (des_cons (de_tup (des_cons de_int (des_cons (de_binop (o_add g.toGdT.toGd) op2_of (do_of (de_ix (o_ix g.toGdT.toGd) op2_of (do_of (de_ix (o_ix g.toGdT.toGd) op2_of (do_var g.toGdT.toGd rfl (.inl (by kernel_rfl)) (by decide) (by decide)) (do_var g.toGdT.toGd rfl (.inl (by kernel_rfl)) (by decide) (by decide)) (fun _ _ => rfl))) (do_of de_int) (fun _ _ => rfl))) (do_of (de_tup (des_cons de_int des_nil rfl) (by decide)))) des_nil rfl) rfl) (by decide)) des_nil rfl) (by decide))))) (do_of (de_slice g.toGdT.toGd (do_var g.toGdT.toGd rfl (.inl (by kernel_rfl)) (by decide) (by decide)) (dp_some (do_of (de_binop (o_add g.toGdT.toGd) op2_of (do_var g.toGdT.toGd rfl (.inl (by kernel_rfl)) (by decide) (by decide)) (do_of de_int)))) dp_none))) (des_cons (de_binop (o_add g.toGdT.toGd) op2_of (do_of (de_binop (o_add g.toGdT.toGd) op2_of (do_of (de_slice g.toGdT.toGd (do_var g.toGdT.toGd rfl (.inl (by kernel_rfl)) (by decide) (by decide)) dp_none (dp_some (do_var g.toGdT.toGd rfl (.inl (by kernel_rfl)) (by decide) (by decide))))) (do_of (de_tup (des_cons (de_binop (o_add g.toGdT.toGd) op2_of (do_of (de_ix (o_ix g.toGdT.toGd) op2_of (do_var g.toGdT.toGd rfl (.inl (by kernel_rfl)) (by decide) (by decide)) (do_var g.toGdT.toGd rfl (.inl (by kernel_rfl)) (by decide) (by decide)) (fun _ _ => rfl))) (do_of (de_tup (des_cons de_int des_nil rfl) (by decide)))) des_nil rfl) (by decide))))) (do_of (de_slice g.toGdT.toGd (do_var g.toGdT.toGd rfl (.inl (by kernel_rfl)) (by decide) (by decide)) (dp_some (do_of (de_binop (o_add g.toGdT.toGd) op2_of (do_var g.toGdT.toGd rfl (.inl (by kernel_rfl)) (by decide) (by decide)) (do_of de_int)))) dp_none))) des_nil rfl) rfl) rfl) (by decide)))) rfl) (dss_cons (ds_asg g.toGdT.toGd rfl (by kernel_rfl) (by decide) (de_binop (o_add g.toGdT.toGd) op2_of (do_var g.toGdT.toGd rfl (.inl (by kernel_rfl)) (by decide) (by decide)) (do_of (de_lst (des_cons (de_binop (o_add g.toGdT.toGd) op2_of (do_of (de_bty g.toGdT.toGd (c_tuple g.toGdT.toGd) (by kernel_rfl) (B "tuple" (by decide)) (by decide +kernel) (da_cons (do_of (de_comp g.toGdT.toGd rfl (di_seq g.toGdT.toGd (do_var g.toGdT.toGd rfl (.inl (by kernel_rfl)) (by decide) (by decide))) (own := [("s", 6), ("w", 7)]) (by kernel_rfl) (by decide) (fun p1 o1 X1 g1 => (dg_tup g1.toGd rfl (dgs_cons (dg_name g1.toGd rfl (by kernel_rfl)) (dgs_cons (dg_name g1.toGd rfl (by kernel_rfl)) dgs_nil rfl) rfl) rfl rfl rfl)) (fun p1 o1 X1 g1 => dts_nil) (fun p1 o1 X1 g1 => (de_tup (des_cons (de_var g1.toGd rfl (by first | exact .inl (by decide +kernel) | exact .inr (.inl (by decide +kernel)) | exact .inr (.inr (by decide +kernel))) (by decide) (by decide)) (des_cons (de_binop (o_add g1.toGd) op2_of (do_var g1.toGd rfl (by first | exact .inl (by decide +kernel) | exact .inr (.inl (by decide +kernel)) | exact .inr (.inr (by decide +kernel))) (by decide) (by decide)) (do_of (de_binop (o_mul g1.toGd) op2_of (do_of (de_tup (des_cons de_int des_nil rfl) (by decide))) (do_of (de_binop (o_sub) op2_of (do_of de_int) (do_var g1.toGd rfl (by first | exact .inl (by decide +kernel) | exact .inr (.inl (by decide +kernel)) | exact .inr (.inr (by decide +kernel))) (by decide) (by decide))))))) des_nil rfl) rfl) (by decide))) (fun _ => rfl))) da_nil rfl) (by decide) (by decide) rfl rfl)) (do_of (de_binop (o_mul g.toGdT.toGd) op2_of (do_of (de_tup (des_cons (de_tup (des_cons de_int (des_cons (de_binop (o_mul g.toGdT.toGd) op2_of (do_of (de_tup (des_cons de_int des_nil rfl) (by decide))) (do_of de_int)) des_nil rfl) rfl) (by decide)) des_nil rfl) (by decide))) (do_of (de_binop (o_sub) op2_of (do_of de_int) (do_var g.toGdT.toGd rfl (.inr (.inl (by kernel_rfl))) (by decide) (by decide))))))) (des_cons (de_binop (o_add g.toGdT.toGd) op2_of (do_of (de_binop (o_add g.toGdT.toGd) op2_of (do_of (de_slice g.toGdT.toGd (do_var g.toGdT.toGd rfl (.inl (by kernel_rfl)) (by decide) (by decide)) dp_none (dp_some (do_var g.toGdT.toGd rfl (.inl (by kernel_rfl)) (by decide) (by decide))))) (do_of (de_tup (des_cons (de_tup (des_cons de_str (des_cons (de_ix (o_ix g.toGdT.toGd) op2_of (do_of (de_ix (o_ix g.toGdT.toGd) op2_of (do_var g.toGdT.toGd rfl (.inl (by kernel_rfl)) (by decide) (by decide)) (do_var g.toGdT.toGd rfl (.inl (by kernel_rfl)) (by decide) (by decide)) (fun _ _ => rfl))) (do_of de_int) (fun _ _ => rfl)) des_nil rfl) rfl) (by decide)) des_nil rfl) (by decide))))) (do_of (de_slice g.toGdT.toGd (do_var g.toGdT.toGd rfl (.inl (by kernel_rfl)) (by decide) (by decide)) (dp_some (do_of (de_binop (o_add g.toGdT.toGd) op2_of (do_var g.toGdT.toGd rfl (.inl (by kernel_rfl)) (by decide) (by decide)) (do_of de_int)))) dp_none))) des_nil rfl) rfl) (by decide)))) rfl) (dss_cons (ds_if (dt_cmp (o_gt g.toGdT.toGd) op2_of (do_var g.toGdT.toGd rfl (.inr (.inl (by kernel_rfl))) (by decide) (by decide)) (do_of de_int) rfl) (dss_cons (ds_app g.toGdT.toGd rfl (.inl (by kernel_rfl)) (by decide) (by decide) (de_binop (o_add g.toGdT.toGd) op2_of (do_of (de_binop (o_add g.toGdT.toGd) op2_of (do_of (de_slice g.toGdT.toGd (do_var g.toGdT.toGd rfl (.inl (by kernel_rfl)) (by decide) (by decide)) dp_none (dp_some (do_var g.toGdT.toGd rfl (.inl (by kernel_rfl)) (by decide) (by decide))))) (do_of (de_tup (des_cons (de_callA g.toGdT rfl ((h__law_times.mono (by omega)).to ⟨rfl, rfl, rfl, rfl, rfl, rfl, rfl⟩) (fun h => by cases h) (by kernel_rfl) rfl (das_val (de_ix (o_ix g.toGdT.toGd) op2_of (do_var g.toGdT.toGd rfl (.inl (by kernel_rfl)) (by decide) (by decide)) (do_var g.toGdT.toGd rfl (.inl (by kernel_rfl)) (by decide) (by decide)) (fun _ _ => rfl)) (das_val (de_ix (o_ix g.toGdT.toGd) op2_of (do_var g.toGdT.toGd rfl (.inl (by kernel_rfl)) (by decide) (by decide)) (do_of (de_binop (o_sub) op2_of (do_var g.toGdT.toGd rfl (.inl (by kernel_rfl)) (by decide) (by decide)) (do_of de_int))) (fun _ _ => rfl)) das_nil rfl) rfl) (by decide) rfl rfl) des_nil rfl) (by decide))))) (do_of (de_slice g.toGdT.toGd (do_var g.toGdT.toGd rfl (.inl (by kernel_rfl)) (by decide) (by decide)) (dp_some (do_of (de_binop (o_add g.toGdT.toGd) op2_of (do_var g.toGdT.toGd rfl (.inl (by kernel_rfl)) (by decide) (by decide)) (do_of de_int)))) dp_none))) rfl rfl rfl rfl) (dss_one (ds_app g.toGdT.toGd rfl (.inl (by kernel_rfl)) (by decide) (by decide) (de_binop (o_add g.toGdT.toGd) op2_of (do_of (de_binop (o_add g.toGdT.toGd) op2_of (do_of (de_slice g.toGdT.toGd (do_var g.toGdT.toGd rfl (.inl (by kernel_rfl)) (by decide) (by decide)) dp_none (dp_some (do_var g.toGdT.toGd rfl (.inl (by kernel_rfl)) (by decide) (by decide))))) (do_of (de_tup (des_cons (de_ix (o_ix g.toGdT.toGd) op2_of (do_var g.toGdT.toGd rfl (.inl (by kernel_rfl)) (by decide) (by decide)) (do_of (de_binop (o_sub) op2_of (do_var g.toGdT.toGd rfl (.inl (by kernel_rfl)) (by decide) (by decide)) (do_of de_int))) (fun _ _ => rfl)) des_nil rfl) (by decide))))) (do_of (de_slice g.toGdT.toGd (do_var g.toGdT.toGd rfl (.inl (by kernel_rfl)) (by decide) (by decide)) (dp_some (do_of (de_binop (o_add g.toGdT.toGd) op2_of (do_var g.toGdT.toGd rfl (.inl (by kernel_rfl)) (by decide) (by decide)) (do_of de_int)))) dp_none))) rfl rfl rfl rfl))) dss_nil) (dss_one (ds_ret (de_ix (o_ix g.toGdT.toGd) op2_of (do_var g.toGdT.toGd rfl (.inl (by kernel_rfl)) (by decide) (by decide)) (do_of (de_callA g.toGdT rfl ((h__law_draw.mono (by omega)).to ⟨rfl, rfl, rfl, rfl, rfl, rfl, rfl⟩) (fun h => by cases h) (by kernel_rfl) rfl (das_ref g.toGdT.toGd rfl (.inl (by kernel_rfl)) (by decide) (by decide) (das_val (de_blt g.toGdT.toGd (c_len g.toGdT.toGd) (by kernel_rfl) (B "len" (by decide)) (by decide +kernel) (da_cons (do_var g.toGdT.toGd rfl (.inl (by kernel_rfl)) (by decide) (by decide)) da_nil rfl) (by decide) (by decide) rfl rfl) das_nil rfl) rfl) (by decide) rfl rfl)) (fun _ _ => rfl))))))))))))
def _law_state_F : StF := (sSeq (sAsg 2 (eTup [])) (sSeq (sFor [0, 1, 2, 3, 4, 5] (iRange1 (oVar 1)) (.name 3) (sSeq (sAsg 4 (eCall _law_held_S [.val (eVar 1), .val (eVar 2)])) (sSeq (sAsg 5 (eComp [6] (iSeq (oOf (eCall _law_words_S [.val (eVar 1)]))) (.name 6) (tAnd2 (tVal (eBin dNotIn (oVar 6) (oVar 4))) (tVal (eBin dEq (oOf (eOps dLen [(oOf (eComp [7] (iSeq (oVar 2)) (.name 7) (tVal (eCall _law_parts_S [.val (eBin dIx (oVar 7) (oOf (eCon (.int 1)))), .val (eVar 6)])) (eCon (.int 1))))])) (oOf (eCon (.int 0)))))) (eVar 6))) (sAsg 2 (eBin dAdd (oVar 2) (oOf (eTup [(eTup [(eCall _law_draw_S [.ref 0, .val (eCon (.int 2))]), (eBin dIx (oVar 5) (oOf (eCall _law_draw_S [.ref 0, .val (eOps dLen [(oVar 5)])])))])]))))))) (sRet (eMove 2))))
def _law_state_S : Fun := runF _law_state_F 8 [true, false]
theorem f__law_state {Γ : Ctx} (h__law_draw : FnAt Γ false 1 "_law_draw" ["box", "many"] [true, false] _law_draw_S) (h__law_held : FnAt Γ false 2 "_law_held" ["places", "state"] [false, false] _law_held_S) (h__law_parts : FnAt Γ false 1 "_law_parts" ["one", "two"] [false, false] _law_parts_S) (h__law_words : FnAt Γ false 1 "_law_words" ["places"] [false] _law_words_S) (D0 : ∃ fd, FunD Γ.K "_law_state" "_law_state" (defArgs Hd.s__law_state) (defBody Hd.s__law_state) (defScope Hd.s__law_state) [] [] (He.fAd Γ.K ("_law_state", none)) fd) (m0 : Γ.mg "_law_state" = some (.ref (He.fAd Γ.K ("_law_state", none)))) (B : Bare Γ) : FnAt Γ false 3 "_law_state" ["box", "places"] [true, false] _law_state_S := by
  obtain ⟨fd, Fd⟩ := D0
  refine fnAt_of (k := 2) (N := ["box", "places", "state", "k", "held", "free", "word", "one"]) Fd ⟨by kernel_rfl, by kernel_rfl, by kernel_rfl, by decide +kernel, by decide +kernel, by decide +kernel, by decide +kernel⟩ m0 (FunD.bindsN Fd fun _ _ _ _ _ _ us hl => match us, hl with | [_, _], _ => rfl) rfl rfl (as := [0, 1, 2, 3, 4, 5]) fun F0 H0 ino X W g hq hc => ?_
  unfold _law_state_F
  exact (dss_cons (ds_asg g.toGdT.toGd rfl (by kernel_rfl) (by decide) (de_tup des_nil (by decide)) rfl) (dss_cons (ds_for g rfl (by decide) (di_range1 g.toGdT.toGd (by kernel_rfl) (B "range" (by decide)) (do_var g.toGdT.toGd rfl (.inl (by kernel_rfl)) (by decide) (by decide)) rfl) (dg_name g.toGdT.toGd rfl (by kernel_rfl)) (dss_cons (ds_asg g.toGdT.toGd rfl (by kernel_rfl) (by decide) (de_callA g.toGdT rfl ((h__law_held.mono (by omega)).to ⟨rfl, rfl, rfl, rfl, rfl, rfl, rfl⟩) (fun h => by cases h) (by kernel_rfl) rfl (das_val (de_var g.toGdT.toGd rfl (.inl (by kernel_rfl)) (by decide) (by decide)) (das_val (de_var g.toGdT.toGd rfl (.inr (.inl (by kernel_rfl))) (by decide) (by decide)) das_nil rfl) rfl) (by decide) rfl rfl) rfl) (dss_cons (ds_asgC g.toGdT.toGd rfl rfl (by kernel_rfl) (by kernel_rfl) (by decide) rfl (by decide +kernel) (di_seq g.toGdT.toGd (do_of (de_callA g.toGdT rfl ((h__law_words.mono (by omega)).to ⟨rfl, rfl, rfl, rfl, rfl, rfl, rfl⟩) (fun h => by cases h) (by kernel_rfl) rfl (das_val (de_var g.toGdT.toGd rfl (.inl (by kernel_rfl)) (by decide) (by decide)) das_nil rfl) (by decide) rfl rfl))) (own := [("word", 6)]) (by kernel_rfl) (by decide) (fun p1 o1 X1 g1 => (dg_name g1.toGd rfl (by kernel_rfl))) (fun p1 o1 X1 g1 => (pts_one (dw_and (dt_cmp (o_notIn g1.toGd) op2_of (do_var g1.toGd rfl (by first | exact .inl (by decide +kernel) | exact .inr (.inl (by decide +kernel)) | exact .inr (.inr (by decide +kernel))) (by decide) (by decide)) (do_var g1.toGd rfl (by first | exact .inl (by decide +kernel) | exact .inr (.inl (by decide +kernel)) | exact .inr (.inr (by decide +kernel))) (by decide) (by decide)) rfl) (dw_and1 (dt_cmp (o_eq g1.toGd) op2_of (do_of (de_blt g1.toGd (c_len g1.toGd) (by kernel_rfl) (B "len" (by decide)) (by decide +kernel) (da_cons (do_of (de_comp g1.toGd rfl (di_seq g1.toGd (do_var g1.toGd rfl (by first | exact .inl (by decide +kernel) | exact .inr (.inl (by decide +kernel)) | exact .inr (.inr (by decide +kernel))) (by decide) (by decide))) (own := [("one", 7)]) (by kernel_rfl) (by decide) (fun p2 o2 X2 g2 => (dg_name g2.toGd rfl (by kernel_rfl))) (fun p2 o2 X2 g2 => (pts_one (dt_val (de_callA g2 rfl ((h__law_parts.mono (by omega)).to ⟨rfl, rfl, rfl, rfl, rfl, rfl, rfl⟩) (fun h => by cases h) (by kernel_rfl) rfl (das_val (de_ix (o_ix g2.toGd) op2_of (do_var g2.toGd rfl (by first | exact .inl (by decide +kernel) | exact .inr (.inl (by decide +kernel)) | exact .inr (.inr (by decide +kernel))) (by decide) (by decide)) (do_of de_int) (fun _ _ => rfl)) (das_val (de_var g2.toGd rfl (by first | exact .inl (by decide +kernel) | exact .inr (.inl (by decide +kernel)) | exact .inr (.inr (by decide +kernel))) (by decide) (by decide)) das_nil rfl) rfl) (by decide) rfl rfl) (fun _ => rfl)))) (fun p2 o2 X2 g2 => de_int) (fun _ => rfl))) da_nil rfl) (by decide) (by decide) rfl rfl)) (do_of de_int) rfl))).pt)) (fun p1 o1 X1 g1 => (de_var g1.toGd rfl (by first | exact .inl (by decide +kernel) | exact .inr (.inl (by decide +kernel)) | exact .inr (.inr (by decide +kernel))) (by decide) (by decide))) (fun _ => rfl)) (dss_one (ds_asg g.toGdT.toGd rfl (by kernel_rfl) (by decide) (de_binop (o_add g.toGdT.toGd) op2_of (do_var g.toGdT.toGd rfl (.inr (.inl (by kernel_rfl))) (by decide) (by decide)) (do_of (de_tup (des_cons (de_tup (des_cons (de_callA g.toGdT rfl ((h__law_draw.mono (by omega)).to ⟨rfl, rfl, rfl, rfl, rfl, rfl, rfl⟩) (fun h => by cases h) (by kernel_rfl) rfl (das_ref g.toGdT.toGd rfl (.inl (by kernel_rfl)) (by decide) (by decide) (das_val de_int das_nil rfl) rfl) (by decide) rfl rfl) (des_cons (de_ix (o_ix g.toGdT.toGd) op2_of (do_var g.toGdT.toGd rfl (.inl (by kernel_rfl)) (by decide) (by decide)) (do_of (de_callA g.toGdT rfl ((h__law_draw.mono (by omega)).to ⟨rfl, rfl, rfl, rfl, rfl, rfl, rfl⟩) (fun h => by cases h) (by kernel_rfl) rfl (das_ref g.toGdT.toGd rfl (.inl (by kernel_rfl)) (by decide) (by decide) (das_val (de_blt g.toGdT.toGd (c_len g.toGdT.toGd) (by kernel_rfl) (B "len" (by decide)) (by decide +kernel) (da_cons (do_var g.toGdT.toGd rfl (.inl (by kernel_rfl)) (by decide) (by decide)) da_nil rfl) (by decide) (by decide) rfl rfl) das_nil rfl) rfl) (by decide) rfl rfl)) (fun _ _ => rfl)) des_nil rfl) rfl) (by decide)) des_nil rfl) (by decide)))) rfl)))) (fun _ => rfl)) (dss_one (ds_ret (de_move g.toGdT.toGd rfl (.inr (.inl (by kernel_rfl))) (by decide) (by decide))))))
def _law_cell_F : StF := (sRet (eIte (tVal (eBin dLt (oVar 1) (oOf (eOps dLen [(oVar 0)])))) (eOps dInt [(oOf (eBin dIx (oVar 0) (oVar 1)))]) (eCon (.int 0))))
def _law_cell_S : Fun := runF _law_cell_F 2 [false, false]
theorem f__law_cell {Γ : Ctx} (D0 : ∃ fd, FunD Γ.K "_law_cell" "_law_cell" (defArgs Hd.s__law_cell) (defBody Hd.s__law_cell) (defScope Hd.s__law_cell) [] [] (He.fAd Γ.K ("_law_cell", none)) fd) (m0 : Γ.mg "_law_cell" = some (.ref (He.fAd Γ.K ("_law_cell", none)))) (B : Bare Γ) : FnAt Γ false 1 "_law_cell" ["script", "k"] [false, false] _law_cell_S := by
  obtain ⟨fd, Fd⟩ := D0
  refine fnAt_of (k := 0) (N := ["script", "k"]) Fd ⟨by kernel_rfl, by kernel_rfl, by kernel_rfl, by decide +kernel, by decide +kernel, by decide +kernel, by decide +kernel⟩ m0 (FunD.bindsN Fd fun _ _ _ _ _ _ us hl => match us, hl with | [_, _], _ => rfl) rfl rfl (as := [0, 1]) fun F0 H0 ino X W g hq hc => ?_
  unfold _law_cell_F
  exact (dss_one (ds_ret (de_ite (dt_cmp (o_lt g.toGdT.toGd) op2_of (do_var g.toGdT.toGd rfl (.inl (by kernel_rfl)) (by decide) (by decide)) (do_of (de_blt g.toGdT.toGd (c_len g.toGdT.toGd) (by kernel_rfl) (B "len" (by decide)) (by decide +kernel) (da_cons (do_var g.toGdT.toGd rfl (.inl (by kernel_rfl)) (by decide) (by decide)) da_nil rfl) (by decide) (by decide) rfl rfl)) rfl) (de_bty g.toGdT.toGd (c_int) (by kernel_rfl) (B "int" (by decide)) (by decide +kernel) (da_cons (do_of (de_ix (o_ix g.toGdT.toGd) op2_of (do_var g.toGdT.toGd rfl (.inl (by kernel_rfl)) (by decide) (by decide)) (do_var g.toGdT.toGd rfl (.inl (by kernel_rfl)) (by decide) (by decide)) (fun _ _ => rfl))) da_nil rfl) (by decide) (by decide) rfl rfl) de_int)))
def _law_stream_F : StF := (sRet (eLst [(eOps dAbs [(oOf (eCall _law_cell_S [.val (eVar 0), .val (eVar 1)]))]), (eBin dAdd (oOf (eBin dMod (oOf (eOps dAbs [(oOf (eCall _law_cell_S [.val (eVar 0), .val (eVar 1)]))])) (oOf (eCon (.int 1000003))))) (oOf (eCon (.int 7))))]))
def _law_stream_S : Fun := runF _law_stream_F 2 [false, false]
theorem f__law_stream {Γ : Ctx} (h__law_cell : FnAt Γ false 1 "_law_cell" ["script", "k"] [false, false] _law_cell_S) (D0 : ∃ fd, FunD Γ.K "_law_stream" "_law_stream" (defArgs Hd.s__law_stream) (defBody Hd.s__law_stream) (defScope Hd.s__law_stream) [] [] (He.fAd Γ.K ("_law_stream", none)) fd) (m0 : Γ.mg "_law_stream" = some (.ref (He.fAd Γ.K ("_law_stream", none)))) (B : Bare Γ) : FnAt Γ false 2 "_law_stream" ["script", "k"] [false, false] _law_stream_S := by
  obtain ⟨fd, Fd⟩ := D0
  refine fnAt_of (k := 1) (N := ["script", "k"]) Fd ⟨by kernel_rfl, by kernel_rfl, by kernel_rfl, by decide +kernel, by decide +kernel, by decide +kernel, by decide +kernel⟩ m0 (FunD.bindsN Fd fun _ _ _ _ _ _ us hl => match us, hl with | [_, _], _ => rfl) rfl rfl (as := [0, 1]) fun F0 H0 ino X W g hq hc => ?_
  unfold _law_stream_F
  exact (dss_one (ds_ret (de_lst (des_cons (de_blt g.toGdT.toGd (c_abs) (by kernel_rfl) (B "abs" (by decide)) (by decide +kernel) (da_cons (do_of (de_callA g.toGdT rfl ((h__law_cell.mono (by omega)).to ⟨rfl, rfl, rfl, rfl, rfl, rfl, rfl⟩) (fun h => by cases h) (by kernel_rfl) rfl (das_val (de_var g.toGdT.toGd rfl (.inl (by kernel_rfl)) (by decide) (by decide)) (das_val (de_var g.toGdT.toGd rfl (.inl (by kernel_rfl)) (by decide) (by decide)) das_nil rfl) rfl) (by decide) rfl rfl)) da_nil rfl) (by decide) (by decide) rfl rfl) (des_cons (de_binop (o_add g.toGdT.toGd) op2_of (do_of (de_binop (o_mod) op2_of (do_of (de_blt g.toGdT.toGd (c_abs) (by kernel_rfl) (B "abs" (by decide)) (by decide +kernel) (da_cons (do_of (de_callA g.toGdT rfl ((h__law_cell.mono (by omega)).to ⟨rfl, rfl, rfl, rfl, rfl, rfl, rfl⟩) (fun h => by cases h) (by kernel_rfl) rfl (das_val (de_var g.toGdT.toGd rfl (.inl (by kernel_rfl)) (by decide) (by decide)) (das_val (de_var g.toGdT.toGd rfl (.inl (by kernel_rfl)) (by decide) (by decide)) das_nil rfl) rfl) (by decide) rfl rfl)) da_nil rfl) (by decide) (by decide) rfl rfl)) (do_of de_int))) (do_of de_int)) des_nil rfl) rfl) (by decide))))
def products_F : StF := (sSeq (sAsg 2 (eLst [(eTup [(eCon (.int 0)), (eBin dMul (oOf (eTup [(eCon (.int 0))])) (oVar 1))])])) (sSeq (sFor [0, 1, 2, 3] (iSeq (oVar 0)) (.name 3) (sAsg 2 (eBin dAdd (oVar 2) (oOf (eComp [4] (iSeq (oVar 2)) (.name 4) tTrue (eCall product_S [.val (eVar 4), .val (eVar 3)])))))) (sRet (eMove 2))))
def products_S : Fun := runF products_F 5 [false, false]
theorem f_products {Γ : Ctx} (h_product : FnAt Γ false 2 "product" ["first", "second"] [false, false] product_S) (D0 : ∃ fd, FunD Γ.K "products" "products" (defArgs Hd.s_products) (defBody Hd.s_products) (defScope Hd.s_products) [] [] (He.fAd Γ.K ("products", none)) fd) (m0 : Γ.mg "products" = some (.ref (He.fAd Γ.K ("products", none)))) (B : Bare Γ) : FnAt Γ false 3 "products" ["words", "places"] [false, false] products_S := by
  obtain ⟨fd, Fd⟩ := D0
  refine fnAt_of (k := 2) (N := ["words", "places", "found", "word", "told"]) Fd ⟨by kernel_rfl, by kernel_rfl, by kernel_rfl, by decide +kernel, by decide +kernel, by decide +kernel, by decide +kernel⟩ m0 (FunD.bindsN Fd fun _ _ _ _ _ _ us hl => match us, hl with | [_, _], _ => rfl) rfl rfl (as := [0, 1, 2, 3]) fun F0 H0 ino X W g hq hc => ?_
  unfold products_F
  exact (dss_cons (ds_asg g.toGdT.toGd rfl (by kernel_rfl) (by decide) (de_lst (des_cons (de_tup (des_cons de_int (des_cons (de_binop (o_mul g.toGdT.toGd) op2_of (do_of (de_tup (des_cons de_int des_nil rfl) (by decide))) (do_var g.toGdT.toGd rfl (.inl (by kernel_rfl)) (by decide) (by decide))) des_nil rfl) rfl) (by decide)) des_nil rfl) (by decide)) rfl) (dss_cons (ds_for g rfl (by decide) (di_seq g.toGdT.toGd (do_var g.toGdT.toGd rfl (.inl (by kernel_rfl)) (by decide) (by decide))) (dg_name g.toGdT.toGd rfl (by kernel_rfl)) (dss_one (ds_asg g.toGdT.toGd rfl (by kernel_rfl) (by decide) (de_binop (o_add g.toGdT.toGd) op2_of (do_var g.toGdT.toGd rfl (.inl (by kernel_rfl)) (by decide) (by decide)) (do_of (de_comp g.toGdT.toGd rfl (di_seq g.toGdT.toGd (do_var g.toGdT.toGd rfl (.inl (by kernel_rfl)) (by decide) (by decide))) (own := [("told", 4)]) (by kernel_rfl) (by decide) (fun p1 o1 X1 g1 => (dg_name g1.toGd rfl (by kernel_rfl))) (fun p1 o1 X1 g1 => dts_nil) (fun p1 o1 X1 g1 => (de_callA g1 rfl ((h_product.mono (by omega)).to ⟨rfl, rfl, rfl, rfl, rfl, rfl, rfl⟩) (fun h => by cases h) (by kernel_rfl) rfl (das_val (de_var g1.toGd rfl (by first | exact .inl (by decide +kernel) | exact .inr (.inl (by decide +kernel)) | exact .inr (.inr (by decide +kernel))) (by decide) (by decide)) (das_val (de_var g1.toGd rfl (by first | exact .inl (by decide +kernel) | exact .inr (.inl (by decide +kernel)) | exact .inr (.inr (by decide +kernel))) (by decide) (by decide)) das_nil rfl) rfl) (by decide) rfl rfl)) (fun _ => rfl)))) rfl)) (fun _ => rfl)) (dss_one (ds_ret (de_move g.toGdT.toGd rfl (.inl (by kernel_rfl)) (by decide) (by decide))))))
def is_state_F : StF := (sSeq (sIf (tOr2 (tNot1 (tVal (eUn (dIsi "tuple") (oVar 0)))) (tNot1 (tVal (eChain dLe dLe (oOf (eCon (.int 1))) (oOf (eOps dLen [(oVar 0)])) (oOf (eCon (.int 4))))))) (sRet (eCon (.bool false))) sNx) (sSeq (sIf (tNot1 (tVal (eOps dAll [(oOf (eComp [1] (iSeq (oVar 0)) (.name 1) tTrue (eCall is_signed_S [.val (eVar 1), .val (eOps dLen [(oVar 0)])])))]))) (sRet (eCon (.bool false))) sNx) (sSeq (sIf (tNot1 (tVal (eOps dAll [(oOf (eComp2 [2, 3] [3] (iSeq (oVar 0)) (.name 2) tTrue (iSeq (oVar 0)) (.name 3) tTrue (eCall go_together_S [.val (eBin dIx (oVar 2) (oOf (eCon (.int 1)))), .val (eBin dIx (oVar 3) (oOf (eCon (.int 1))))])))]))) (sRet (eCon (.bool false))) sNx) (sRet (eOps dAll [(oOf (eComp [4, 5] (iSeq (oOf (eSlice (oOf (eCall products_S [.val (eVar 0), .val (eOps dLen [(oVar 0)])])) (some (oOf (eCon (.int 1)))) none))) (.tup [(.name 4), (.name 5)]) tTrue (eOps dAny [(oOf (eComp [6] (iSeq (oVar 5)) (.name 6) tTrue (eBin dNe (oVar 6) (oOf (eCon (.int 0))))))])))])))))
def is_state_S : Fun := runF is_state_F 7 [false]
theorem f_is_state {Γ : Ctx} (h_go_together : FnAt Γ false 1 "go_together" ["first", "second"] [false, false] go_together_S) (h_is_signed : FnAt Γ false 2 "is_signed" ["value", "places"] [false, false] is_signed_S) (h_products : FnAt Γ false 3 "products" ["words", "places"] [false, false] products_S) (D0 : ∃ fd, FunD Γ.K "is_state" "is_state" (defArgs Hd.s_is_state) (defBody Hd.s_is_state) (defScope Hd.s_is_state) [] [] (He.fAd Γ.K ("is_state", none)) fd) (m0 : Γ.mg "is_state" = some (.ref (He.fAd Γ.K ("is_state", none)))) (B : Bare Γ) (C : Ints Γ) : FnAt Γ false 4 "is_state" ["state"] [false] is_state_S := by
  obtain ⟨fd, Fd⟩ := D0
  refine fnAt_of (k := 3) (N := ["state", "value", "first", "second", "_", "word", "sign"]) Fd ⟨by kernel_rfl, by kernel_rfl, by kernel_rfl, by decide +kernel, by decide +kernel, by decide +kernel, by decide +kernel⟩ m0 (FunD.bindsN Fd fun _ _ _ _ _ _ us hl => match us, hl with | [_], _ => rfl) rfl rfl (as := [0]) fun F0 H0 ino X W g hq hc => ?_
  unfold is_state_F
  exact (dss_cons (ds_if (dw_or (dt_not (dt_val (de_isi g.toGdT.toGd (by kernel_rfl) (B "isinstance" (by decide)) (by kernel_rfl) (B "tuple" (by decide)) (by decide +kernel) (by decide) (by decide) (do_var g.toGdT.toGd rfl (.inr (.inl (by kernel_rfl))) (by decide) (by decide)) rfl rfl rfl) (fun _ => rfl))) (dw_or1 (dt_not (dt_chain (o_le g.toGdT.toGd) (o_le g.toGdT.toGd) op2_of op2_of (do_of de_int) (do_of (de_blt g.toGdT.toGd (c_len g.toGdT.toGd) (by kernel_rfl) (B "len" (by decide)) (by decide +kernel) (da_cons (do_var g.toGdT.toGd rfl (.inr (.inl (by kernel_rfl))) (by decide) (by decide)) da_nil rfl) (by decide) (by decide) rfl rfl)) (do_of (de_gint g.toGdT.toGd (by kernel_rfl) (C.c_MOST_PLACES) (by decide))) rfl)))).pt (dss_one (ds_ret de_bool)) dss_nil) (dss_cons (ds_if (dt_not (dt_val (de_blt g.toGdT.toGd (c_all g.toGdT.toGd rfl) (by kernel_rfl) (B "all" (by decide)) (by decide +kernel) (da_cons (do_of (de_comp g.toGdT.toGd rfl (di_seq g.toGdT.toGd (do_var g.toGdT.toGd rfl (.inr (.inl (by kernel_rfl))) (by decide) (by decide))) (own := [("value", 1)]) (by kernel_rfl) (by decide) (fun p1 o1 X1 g1 => (dg_name g1.toGd rfl (by kernel_rfl))) (fun p1 o1 X1 g1 => dts_nil) (fun p1 o1 X1 g1 => (de_callA g1 rfl ((h_is_signed.mono (by omega)).to ⟨rfl, rfl, rfl, rfl, rfl, rfl, rfl⟩) (fun h => by cases h) (by kernel_rfl) rfl (das_val (de_var g1.toGd rfl (by first | exact .inl (by decide +kernel) | exact .inr (.inl (by decide +kernel)) | exact .inr (.inr (by decide +kernel))) (by decide) (by decide)) (das_val (de_blt g1.toGd (c_len g1.toGd) (by kernel_rfl) (B "len" (by decide)) (by decide +kernel) (da_cons (do_var g1.toGd rfl (by first | exact .inl (by decide +kernel) | exact .inr (.inl (by decide +kernel)) | exact .inr (.inr (by decide +kernel))) (by decide) (by decide)) da_nil rfl) (by decide) (by decide) rfl rfl) das_nil rfl) rfl) (by decide) rfl rfl)) (fun _ => rfl))) da_nil rfl) (by decide) (by decide) rfl rfl) (fun _ => rfl))) (dss_one (ds_ret de_bool)) dss_nil) (dss_cons (ds_if (dt_not (dt_val (de_blt g.toGdT.toGd (c_all g.toGdT.toGd rfl) (by kernel_rfl) (B "all" (by decide)) (by decide +kernel) (da_cons (do_of (de_comp2 g.toGdT.toGd rfl (di_seq g.toGdT.toGd (do_var g.toGdT.toGd rfl (.inr (.inl (by kernel_rfl))) (by decide) (by decide))) (own := [("first", 2), ("second", 3)]) (vs1 := [3]) (by kernel_rfl) (by decide) (by decide) (by decide) (fun p2 o2 X2 g2 => (dg_name g2.toGd rfl (by kernel_rfl))) (fun p2 o2 X2 g2 => dts_nil) (fun p2 o2 X2 g2 => (di_seq g2.toGd (do_var g2.toGd rfl (by first | exact .inl (by decide +kernel) | exact .inr (.inl (by decide +kernel)) | exact .inr (.inr (by decide +kernel))) (by decide) (by decide)))) (fun p2 o2 X2 g2 => (dg_name g2.toGd rfl (by kernel_rfl))) (fun p2 o2 X2 g2 => dts_nil) (fun p2 o2 X2 g2 => (de_callA g2 rfl ((h_go_together.mono (by omega)).to ⟨rfl, rfl, rfl, rfl, rfl, rfl, rfl⟩) (fun h => by cases h) (by kernel_rfl) rfl (das_val (de_ix (o_ix g2.toGd) op2_of (do_var g2.toGd rfl (by first | exact .inl (by decide +kernel) | exact .inr (.inl (by decide +kernel)) | exact .inr (.inr (by decide +kernel))) (by decide) (by decide)) (do_of de_int) (fun _ _ => rfl)) (das_val (de_ix (o_ix g2.toGd) op2_of (do_var g2.toGd rfl (by first | exact .inl (by decide +kernel) | exact .inr (.inl (by decide +kernel)) | exact .inr (.inr (by decide +kernel))) (by decide) (by decide)) (do_of de_int) (fun _ _ => rfl)) das_nil rfl) rfl) (by decide) rfl rfl)) (fun _ => rfl) (fun _ _ => rfl))) da_nil rfl) (by decide) (by decide) rfl rfl) (fun _ => rfl))) (dss_one (ds_ret de_bool)) dss_nil) (dss_one (ds_ret (de_blt g.toGdT.toGd (c_all g.toGdT.toGd rfl) (by kernel_rfl) (B "all" (by decide)) (by decide +kernel) (da_cons (do_of (de_comp g.toGdT.toGd rfl (di_seq g.toGdT.toGd (do_of (de_slice g.toGdT.toGd (do_of (de_callA g.toGdT rfl ((h_products.mono (by omega)).to ⟨rfl, rfl, rfl, rfl, rfl, rfl, rfl⟩) (fun h => by cases h) (by kernel_rfl) rfl (das_val (de_var g.toGdT.toGd rfl (.inr (.inl (by kernel_rfl))) (by decide) (by decide)) (das_val (de_blt g.toGdT.toGd (c_len g.toGdT.toGd) (by kernel_rfl) (B "len" (by decide)) (by decide +kernel) (da_cons (do_var g.toGdT.toGd rfl (.inr (.inl (by kernel_rfl))) (by decide) (by decide)) da_nil rfl) (by decide) (by decide) rfl rfl) das_nil rfl) rfl) (by decide) rfl rfl)) (dp_some (do_of de_int)) dp_none))) (own := [("_", 4), ("word", 5)]) (by kernel_rfl) (by decide) (fun p3 o3 X3 g3 => (dg_tup g3.toGd rfl (dgs_cons (dg_name g3.toGd rfl (by kernel_rfl)) (dgs_cons (dg_name g3.toGd rfl (by kernel_rfl)) dgs_nil rfl) rfl) rfl rfl rfl)) (fun p3 o3 X3 g3 => dts_nil) (fun p3 o3 X3 g3 => (de_blt g3.toGd (c_any g3.toGd rfl) (by kernel_rfl) (B "any" (by decide)) (by decide +kernel) (da_cons (do_of (de_comp g3.toGd rfl (di_seq g3.toGd (do_var g3.toGd rfl (by first | exact .inl (by decide +kernel) | exact .inr (.inl (by decide +kernel)) | exact .inr (.inr (by decide +kernel))) (by decide) (by decide))) (own := [("sign", 6)]) (by kernel_rfl) (by decide) (fun p4 o4 X4 g4 => (dg_name g4.toGd rfl (by kernel_rfl))) (fun p4 o4 X4 g4 => dts_nil) (fun p4 o4 X4 g4 => (de_cmp (o_ne g4.toGd) op2_of (do_var g4.toGd rfl (by first | exact .inl (by decide +kernel) | exact .inr (.inl (by decide +kernel)) | exact .inr (.inr (by decide +kernel))) (by decide) (by decide)) (do_of de_int) rfl)) (fun _ => rfl))) da_nil rfl) (by decide) (by decide) rfl rfl)) (fun _ => rfl))) da_nil rfl) (by decide) (by decide) rfl rfl))))))
def check_state_F : StF := (sIf (tNot1 (tVal (eCall is_state_S [.val (eVar 0)]))) (sRaise "BadState") sNx)
def check_state_S : Fun := runF check_state_F 1 [false]
theorem f_check_state {Γ : Ctx} (h_is_state : FnAt Γ false 4 "is_state" ["state"] [false] is_state_S) (D0 : ∃ fd, FunD Γ.K "check_state" "check_state" (defArgs Hd.s_check_state) (defBody Hd.s_check_state) (defScope Hd.s_check_state) [] [] (He.fAd Γ.K ("check_state", none)) fd) (m0 : Γ.mg "check_state" = some (.ref (He.fAd Γ.K ("check_state", none)))) (B : Bare Γ) (R : Errs Γ) : FnAt Γ false 5 "check_state" ["state"] [false] check_state_S := by
  obtain ⟨fd, Fd⟩ := D0
  refine fnAt_of (k := 4) (N := ["state"]) Fd ⟨by kernel_rfl, by kernel_rfl, by kernel_rfl, by decide +kernel, by decide +kernel, by decide +kernel, by decide +kernel⟩ m0 (FunD.bindsN Fd fun _ _ _ _ _ _ us hl => match us, hl with | [_], _ => rfl) rfl rfl (as := [0]) fun F0 H0 ino X W g hq hc => ?_
  unfold check_state_F
  exact (dss_one (ds_if (dt_not (dt_val (de_callA g.toGdT rfl ((h_is_state.mono (by omega)).to ⟨rfl, rfl, rfl, rfl, rfl, rfl, rfl⟩) (fun h => by cases h) (by kernel_rfl) rfl (das_val (de_var g.toGdT.toGd rfl (.inl (by kernel_rfl)) (by decide) (by decide)) das_nil rfl) (by decide) rfl rfl) (fun _ => rfl))) (dss_one (ds_raiseA g rfl (R.r_BadState.to ⟨rfl, rfl, rfl, rfl, rfl, rfl, rfl⟩) (by kernel_rfl) (by decide))) dss_nil))
def held_by_F : StF := (sRet (eDc [1, 2] (iSeq (oOf (eCall products_S [.val (eVar 0), .val (eOps dLen [(oVar 0)])]))) (.tup [(.name 1), (.name 2)]) tTrue (eVar 2) (eVar 1)))
def held_by_S : Fun := runF held_by_F 3 [false]
theorem f_held_by {Γ : Ctx} (h_products : FnAt Γ false 3 "products" ["words", "places"] [false, false] products_S) (D0 : ∃ fd, FunD Γ.K "held_by" "held_by" (defArgs Hd.s_held_by) (defBody Hd.s_held_by) (defScope Hd.s_held_by) [] [] (He.fAd Γ.K ("held_by", none)) fd) (m0 : Γ.mg "held_by" = some (.ref (He.fAd Γ.K ("held_by", none)))) (B : Bare Γ) : FnAt Γ false 4 "held_by" ["state"] [false] held_by_S := by
  obtain ⟨fd, Fd⟩ := D0
  refine fnAt_of (k := 3) (N := ["state", "sign", "word"]) Fd ⟨by kernel_rfl, by kernel_rfl, by kernel_rfl, by decide +kernel, by decide +kernel, by decide +kernel, by decide +kernel⟩ m0 (FunD.bindsN Fd fun _ _ _ _ _ _ us hl => match us, hl with | [_], _ => rfl) rfl rfl (as := [0]) fun F0 H0 ino X W g hq hc => ?_
  unfold held_by_F
  exact (dss_one (ds_ret (de_dc g.toGdT.toGd rfl (di_seq g.toGdT.toGd (do_of (de_callA g.toGdT rfl ((h_products.mono (by omega)).to ⟨rfl, rfl, rfl, rfl, rfl, rfl, rfl⟩) (fun h => by cases h) (by kernel_rfl) rfl (das_val (de_var g.toGdT.toGd rfl (.inl (by kernel_rfl)) (by decide) (by decide)) (das_val (de_blt g.toGdT.toGd (c_len g.toGdT.toGd) (by kernel_rfl) (B "len" (by decide)) (by decide +kernel) (da_cons (do_var g.toGdT.toGd rfl (.inl (by kernel_rfl)) (by decide) (by decide)) da_nil rfl) (by decide) (by decide) rfl rfl) das_nil rfl) rfl) (by decide) rfl rfl))) (own := [("sign", 1), ("word", 2)]) (by kernel_rfl) (by decide) (fun p1 o1 X1 g1 => (dg_tup g1.toGd rfl (dgs_cons (dg_name g1.toGd rfl (by kernel_rfl)) (dgs_cons (dg_name g1.toGd rfl (by kernel_rfl)) dgs_nil rfl) rfl) rfl rfl rfl)) (fun p1 o1 X1 g1 => dts_nil) (fun p1 o1 X1 g1 => (de_var g1.toGd rfl (by first | exact .inl (by decide +kernel) | exact .inr (.inl (by decide +kernel)) | exact .inr (.inr (by decide +kernel))) (by decide) (by decide))) (fun p1 o1 X1 g1 => (de_var g1.toGd rfl (by first | exact .inl (by decide +kernel) | exact .inr (.inl (by decide +kernel)) | exact .inr (.inr (by decide +kernel))) (by decide) (by decide))) (fun _ => rfl))))
def holds_F : StF := (sSeq (sDrop (eCall check_state_S [.val (eVar 0)])) (sSeq (sIf (tNot1 (tVal (eCall is_word_S [.val (eVar 1), .val (eOps dLen [(oVar 0)])]))) (sRaise "BadState") sNx) (sRet (eGet (oOf (eCall held_by_S [.val (eVar 0)])) [(oVar 1)]))))
def holds_S : Fun := runF holds_F 2 [false, false]
theorem f_holds {Γ : Ctx} (h_check_state : FnAt Γ false 5 "check_state" ["state"] [false] check_state_S) (h_held_by : FnAt Γ false 4 "held_by" ["state"] [false] held_by_S) (h_is_word : FnAt Γ false 1 "is_word" ["word", "places"] [false, false] is_word_S) (D0 : ∃ fd, FunD Γ.K "holds" "holds" (defArgs Hd.s_holds) (defBody Hd.s_holds) (defScope Hd.s_holds) [] [] (He.fAd Γ.K ("holds", none)) fd) (m0 : Γ.mg "holds" = some (.ref (He.fAd Γ.K ("holds", none)))) (B : Bare Γ) (R : Errs Γ) : FnAt Γ false 6 "holds" ["state", "word"] [false, false] holds_S := by
  obtain ⟨fd, Fd⟩ := D0
  refine fnAt_of (k := 5) (N := ["state", "word"]) Fd ⟨by kernel_rfl, by kernel_rfl, by kernel_rfl, by decide +kernel, by decide +kernel, by decide +kernel, by decide +kernel⟩ m0 (FunD.bindsN Fd fun _ _ _ _ _ _ us hl => match us, hl with | [_, _], _ => rfl) rfl rfl (as := [0, 1]) fun F0 H0 ino X W g hq hc => ?_
  unfold holds_F
  exact (dss_cons (ds_drop (de_callA g.toGdT rfl ((h_check_state.mono (by omega)).to ⟨rfl, rfl, rfl, rfl, rfl, rfl, rfl⟩) (fun h => by cases h) (by kernel_rfl) rfl (das_val (de_var g.toGdT.toGd rfl (.inl (by kernel_rfl)) (by decide) (by decide)) das_nil rfl) (by decide) rfl rfl) rfl) (dss_cons (ds_if (dt_not (dt_val (de_callA g.toGdT rfl ((h_is_word.mono (by omega)).to ⟨rfl, rfl, rfl, rfl, rfl, rfl, rfl⟩) (fun h => by cases h) (by kernel_rfl) rfl (das_val (de_var g.toGdT.toGd rfl (.inl (by kernel_rfl)) (by decide) (by decide)) (das_val (de_blt g.toGdT.toGd (c_len g.toGdT.toGd) (by kernel_rfl) (B "len" (by decide)) (by decide +kernel) (da_cons (do_var g.toGdT.toGd rfl (.inl (by kernel_rfl)) (by decide) (by decide)) da_nil rfl) (by decide) (by decide) rfl rfl) das_nil rfl) rfl) (by decide) rfl rfl) (fun _ => rfl))) (dss_one (ds_raiseA g rfl (R.r_BadState.to ⟨rfl, rfl, rfl, rfl, rfl, rfl, rfl⟩) (by kernel_rfl) (by decide))) dss_nil) (dss_one (ds_ret (de_get g.toGdT.toGd (do_of (de_callA g.toGdT rfl ((h_held_by.mono (by omega)).to ⟨rfl, rfl, rfl, rfl, rfl, rfl, rfl⟩) (fun h => by cases h) (by kernel_rfl) rfl (das_val (de_var g.toGdT.toGd rfl (.inl (by kernel_rfl)) (by decide) (by decide)) das_nil rfl) (by decide) rfl rfl)) (da_cons (do_var g.toGdT.toGd rfl (.inl (by kernel_rfl)) (by decide) (by decide)) da_nil rfl))))))
def law_F : StF := (sSeq (sFor [0, 1, 2, 3, 4, 5, 6, 7, 8, 9, 10, 12, 13] (iRange1 (oOf (eCon (.int 3)))) (.name 1) (sSeq (sAsg 2 (eCall _law_stream_S [.val (eVar 0), .val (eVar 1)])) (sSeq (sAsg 3 (eBin dAdd (oOf (eCon (.int 1))) (oOf (eCall _law_draw_S [.ref 2, .val (eCon (.int 4))])))) (sSeq (sAsg 4 (eCall _law_state_S [.ref 2, .val (eVar 3)])) (sSeq (sAsg 5 (eOps dRepr [(oVar 4)])) (sSeq (sAsg 6 (eCall _law_other_state_S [.ref 2, .val (eVar 4)])) (sSeq (sFor [0, 1, 2, 3, 4, 5, 6, 7, 8, 9, 10, 12, 13] (iSeq (oOf (eLst [(eVar 4), (eVar 6)]))) (.name 7) (sIf (tVal (eBin dNe (oOf (eTold readD2 toldWord (eCall check_state_S [.val (eVar 7)]))) (oOf (eIte (tVal (eCall _law_is_state_S [.val (eVar 7)])) (eTup [(eCon (.int 0)), (eCon .none)]) (eTup [(eCon (.int 1)), (eCon (.str "state"))]))))) (sRet (eCon (.bool false))) sNx)) (sSeq (sAsg 8 (eCall _law_held_S [.val (eVar 3), .val (eVar 4)])) (sSeq (sAsg 9 (eCall _law_words_S [.val (eVar 3)])) (sSeq (sAsg 10 (eBin dAdd (oOf (eOps dSorted2 [(oVar 8)])) (oOf (eComp [11] (iRange1 (oOf (eCon (.int 8)))) (.name 11) tTrue (eBin dIx (oVar 9) (oOf (eCall _law_draw_S [.ref 2, .val (eOps dLen [(oVar 9)])]))))))) (sSeq (sFor [0, 1, 2, 3, 4, 5, 6, 7, 8, 9, 10, 12, 13] (iFrz 10 (iSeq (oVar 10))) (.name 12) (sIf (tVal (eBin dNe (oOf (eTold readD2 toldWord (eCall holds_S [.val (eVar 4), .val (eVar 12)]))) (oOf (eTup [(eCon (.int 0)), (eGet (oVar 8) [(oVar 12)])])))) (sRet (eCon (.bool false))) sNx)) (sSeq (sAsg 13 (eBin dIx (oOf (eLst [(eBin dMul (oOf (eTup [(eCon (.int 0))])) (oOf (eBin dAdd (oVar 3) (oOf (eCon (.int 1)))))), (eBin dMul (oOf (eTup [(eCon (.int 4))])) (oVar 3)), (eCon (.int 3)), (eCon .none), (eBin dMul (oOf (eCon (.str "1"))) (oVar 3)), (eTup []), (eBin dMul (oOf (eTup [(eCon (.str "1"))])) (oVar 3)), (eBin dIx (oVar 4) (oOf (eCon (.int 0))))])) (oOf (eCall _law_draw_S [.ref 2, .val (eCon (.int 8))])))) (sSeq (sIf (tAnd2 (tNot1 (tVal (eCall _law_is_word_S [.val (eVar 3), .val (eVar 13)]))) (tVal (eBin dNe (oOf (eTold readD2 toldWord (eCall holds_S [.val (eVar 4), .val (eVar 13)]))) (oOf (eTup [(eCon (.int 1)), (eCon (.str "state"))]))))) (sRet (eCon (.bool false))) sNx) (sSeq (sIf (tAnd2 (tNot1 (tVal (eCall _law_is_state_S [.val (eVar 6)]))) (tVal (eBin dNe (oOf (eFrz 10 (eTold readD2 toldWord (eCall holds_S [.val (eVar 6), .val (eBin dIx (oVar 10) (oOf (eCon (.int 0))))])))) (oOf (eTup [(eCon (.int 1)), (eCon (.str "state"))]))))) (sRet (eCon (.bool false))) sNx) (sIf (tOr2 (tVal (eBin dGt (oOf (eOps dLen [(oOf (eComp [11] (iRange1 (oOf (eCon (.int 6)))) (.name 11) (tNot1 (tVal (eCall _law_multiply_right_S [.ref 2, .val (eVar 3)]))) (eVar 11)))])) (oOf (eCon (.int 0))))) (tVal (eBin dNe (oOf (eOps dRepr [(oVar 4)])) (oVar 5)))) (sRet (eCon (.bool false))) sNx))))))))))))))) (sRet (eCon (.bool true))))
def law_S : Fun := runF law_F 14 [false]
theorem f_law {Γ : Ctx} (h__law_draw : FnAt Γ false 1 "_law_draw" ["box", "many"] [true, false] _law_draw_S) (h__law_held : FnAt Γ false 2 "_law_held" ["places", "state"] [false, false] _law_held_S) (h__law_is_state : FnAt Γ false 3 "_law_is_state" ["state"] [false] _law_is_state_S) (h__law_is_word : FnAt Γ false 1 "_law_is_word" ["places", "word"] [false, false] _law_is_word_S) (h__law_multiply_right : FnAt Γ false 10 "_law_multiply_right" ["box", "places"] [true, false] _law_multiply_right_S) (h__law_other_state : FnAt Γ false 3 "_law_other_state" ["box", "state"] [true, false] _law_other_state_S) (h__law_state : FnAt Γ false 3 "_law_state" ["box", "places"] [true, false] _law_state_S) (h__law_stream : FnAt Γ false 2 "_law_stream" ["script", "k"] [false, false] _law_stream_S) (h__law_words : FnAt Γ false 1 "_law_words" ["places"] [false] _law_words_S) (h_check_state : FnAt Γ false 5 "check_state" ["state"] [false] check_state_S) (h_holds : FnAt Γ false 6 "holds" ["state", "word"] [false, false] holds_S) {fd : FuncData} (Fd : FunD Γ.K "law" "law" (defArgs Hd.s_law) (defBody Hd.s_law) (defScope Hd.s_law) [] [] (He.fAd Γ.K ("law", none)) fd) (B : Bare Γ) (Td : ToldAt Γ "_law_told" 8 readD2 toldWord) (TB : TabB Γ.base Γ.mg (He.cT Γ.K ("law", none)).1 (He.cT Γ.K ("law", none)).2) (hT1 : ((He.cT Γ.K ("law", none)).2, ("law" ++ ".<locals>." ++ "<lambda>" : Str)) ∈ Γ.T) (hT2 : ∀ p ∈ Γ.T, p.1 = (He.cT Γ.K ("law", none)).2 → p.2 = ("law" ++ ".<locals>." ++ "<lambda>" : Str)) : FnG Γ true 11 (He.fAd Γ.K ("law", none)) fd ["script"] [false] law_S := by
  refine fnG_of (k := 10) (N := ["script", "turn", "box", "places", "state", "kept", "other", "one", "held", "words", "some", "k", "word", "bad"]) Fd ⟨by kernel_rfl, by kernel_rfl, by kernel_rfl, by decide +kernel, by decide +kernel, by decide +kernel, by decide +kernel⟩ rfl rfl (as := [0, 1, 2, 3, 4, 5, 6, 7, 8, 9, 10, 12, 13]) fun F0 H0 ino X W g hq hc => ?_
  unfold law_F
  exact (dss_cons (ds_for g rfl (by decide) (di_range1 g.toGdT.toGd (by kernel_rfl) (B "range" (by decide)) (do_of de_int) rfl) (dg_name g.toGdT.toGd rfl (by kernel_rfl)) (dss_cons (ds_asg g.toGdT.toGd rfl (by kernel_rfl) (by decide) (de_callA g.toGdT rfl ((h__law_stream.mono (by omega)).to ⟨rfl, rfl, rfl, rfl, rfl, rfl, rfl⟩) (fun h => by cases h) (by kernel_rfl) rfl (das_val (de_var g.toGdT.toGd rfl (.inl (by kernel_rfl)) (by decide) (by decide)) (das_val (de_var g.toGdT.toGd rfl (.inl (by kernel_rfl)) (by decide) (by decide)) das_nil rfl) rfl) (by decide) rfl rfl) rfl) (dss_cons (ds_asg g.toGdT.toGd rfl (by kernel_rfl) (by decide) (de_binop (o_add g.toGdT.toGd) op2_of (do_of de_int) (do_of (de_callA g.toGdT rfl ((h__law_draw.mono (by omega)).to ⟨rfl, rfl, rfl, rfl, rfl, rfl, rfl⟩) (fun h => by cases h) (by kernel_rfl) rfl (das_ref g.toGdT.toGd rfl (.inr (.inl (by kernel_rfl))) (by decide) (by decide) (das_val de_int das_nil rfl) rfl) (by decide) rfl rfl))) rfl) (dss_cons (ds_asg g.toGdT.toGd rfl (by kernel_rfl) (by decide) (de_callA g.toGdT rfl ((h__law_state.mono (by omega)).to ⟨rfl, rfl, rfl, rfl, rfl, rfl, rfl⟩) (fun h => by cases h) (by kernel_rfl) rfl (das_ref g.toGdT.toGd rfl (.inr (.inl (by kernel_rfl))) (by decide) (by decide) (das_val (de_var g.toGdT.toGd rfl (.inr (.inl (by kernel_rfl))) (by decide) (by decide)) das_nil rfl) rfl) (by decide) rfl rfl) rfl) (dss_cons (ds_asg g.toGdT.toGd rfl (by kernel_rfl) (by decide) (de_blt g.toGdT.toGd (c_repr g.toGdT.toGd rfl) (by kernel_rfl) (B "repr" (by decide)) (by decide +kernel) (da_cons (do_var g.toGdT.toGd rfl (.inr (.inl (by kernel_rfl))) (by decide) (by decide)) da_nil rfl) (by decide) (by decide) rfl rfl) rfl) (dss_cons (ds_asg g.toGdT.toGd rfl (by kernel_rfl) (by decide) (de_callA g.toGdT rfl ((h__law_other_state.mono (by omega)).to ⟨rfl, rfl, rfl, rfl, rfl, rfl, rfl⟩) (fun h => by cases h) (by kernel_rfl) rfl (das_ref g.toGdT.toGd rfl (.inr (.inl (by kernel_rfl))) (by decide) (by decide) (das_val (de_var g.toGdT.toGd rfl (.inr (.inl (by kernel_rfl))) (by decide) (by decide)) das_nil rfl) rfl) (by decide) rfl rfl) rfl) (dss_cons (ds_for g rfl (by decide) (di_seq g.toGdT.toGd (do_of (de_lst (des_cons (de_var g.toGdT.toGd rfl (.inr (.inl (by kernel_rfl))) (by decide) (by decide)) (des_cons (de_var g.toGdT.toGd rfl (.inr (.inl (by kernel_rfl))) (by decide) (by decide)) des_nil rfl) rfl) (by decide)))) (dg_name g.toGdT.toGd rfl (by kernel_rfl)) (dss_one (ds_if (dt_cmp (o_ne g.toGdT.toGd) op2_of (do_of (Td.rule (kk := 7) g.toGdT (by omega) (by omega) (by kernel_rfl) TB (hc.trans (fund_code Fd)) (by rw [hq]; exact hT1) (fun p hp e => by rw [hq]; exact hT2 p hp e) (lamS_by (by kernel_rfl)) rfl (fun _ _ _ _ _ => rfl) (fun F1 H1 i1 X1 W1 g1 => (de_callA g1 rfl ((h_check_state.mono (by omega)).to ⟨rfl, rfl, rfl, rfl, rfl, rfl, rfl⟩) (fun h => by cases h) (by kernel_rfl) rfl (das_val (de_var g1.toGd rfl (by first | exact .inl (by decide +kernel) | exact .inr (.inl (by decide +kernel)) | exact .inr (.inr (by decide +kernel))) (by decide) (by decide)) das_nil rfl) (by decide) rfl rfl)))) (do_of (de_ite (dt_val (de_callA g.toGdT rfl ((h__law_is_state.mono (by omega)).to ⟨rfl, rfl, rfl, rfl, rfl, rfl, rfl⟩) (fun h => by cases h) (by kernel_rfl) rfl (das_val (de_var g.toGdT.toGd rfl (.inr (.inl (by kernel_rfl))) (by decide) (by decide)) das_nil rfl) (by decide) rfl rfl) (fun _ => rfl)) (de_tup (des_cons de_int (des_cons de_none des_nil rfl) rfl) (by decide)) (de_tup (des_cons de_int (des_cons de_str des_nil rfl) rfl) (by decide)))) rfl) (dss_one (ds_ret de_bool)) dss_nil)) (fun _ => rfl)) (dss_cons (ds_asg g.toGdT.toGd rfl (by kernel_rfl) (by decide) (de_callA g.toGdT rfl ((h__law_held.mono (by omega)).to ⟨rfl, rfl, rfl, rfl, rfl, rfl, rfl⟩) (fun h => by cases h) (by kernel_rfl) rfl (das_val (de_var g.toGdT.toGd rfl (.inr (.inl (by kernel_rfl))) (by decide) (by decide)) (das_val (de_var g.toGdT.toGd rfl (.inr (.inl (by kernel_rfl))) (by decide) (by decide)) das_nil rfl) rfl) (by decide) rfl rfl) rfl) (dss_cons (ds_asg g.toGdT.toGd rfl (by kernel_rfl) (by decide) (de_callA g.toGdT rfl ((h__law_words.mono (by omega)).to ⟨rfl, rfl, rfl, rfl, rfl, rfl, rfl⟩) (fun h => by cases h) (by kernel_rfl) rfl (das_val (de_var g.toGdT.toGd rfl (.inr (.inl (by kernel_rfl))) (by decide) (by decide)) das_nil rfl) (by decide) rfl rfl) rfl) (dss_cons (ds_asg g.toGdT.toGd rfl (by kernel_rfl) (by decide) (de_binop (o_add g.toGdT.toGd) op2_of (do_of (de_blt g.toGdT.toGd (c_sorted2 g.toGdT.toGd rfl) (by kernel_rfl) (B "sorted" (by decide)) (by decide +kernel) (da_cons (do_var g.toGdT.toGd rfl (.inl (by kernel_rfl)) (by decide) (by decide)) da_nil rfl) (by decide) (by decide) rfl rfl)) (do_of (de_comp g.toGdT.toGd rfl (di_range1 g.toGdT.toGd (by kernel_rfl) (B "range" (by decide)) (do_of de_int) rfl) (own := [("k", 11)]) (by kernel_rfl) (by decide) (fun p2 o2 X2 g2 => (dg_name g2.toGd rfl (by kernel_rfl))) (fun p2 o2 X2 g2 => dts_nil) (fun p2 o2 X2 g2 => (de_ix (o_ix g2.toGd) op2_of (do_var g2.toGd rfl (by first | exact .inl (by decide +kernel) | exact .inr (.inl (by decide +kernel)) | exact .inr (.inr (by decide +kernel))) (by decide) (by decide)) (do_of (de_callA g2 rfl ((h__law_draw.mono (by omega)).to ⟨rfl, rfl, rfl, rfl, rfl, rfl, rfl⟩) (fun h => by cases h) (by kernel_rfl) rfl (das_ref g2.toGd rfl (by first | exact .inl (by decide +kernel) | exact .inr (.inl (by decide +kernel)) | exact .inr (.inr (by decide +kernel))) (by decide) (by decide) (das_val (de_blt g2.toGd (c_len g2.toGd) (by kernel_rfl) (B "len" (by decide)) (by decide +kernel) (da_cons (do_var g2.toGd rfl (by first | exact .inl (by decide +kernel) | exact .inr (.inl (by decide +kernel)) | exact .inr (.inr (by decide +kernel))) (by decide) (by decide)) da_nil rfl) (by decide) (by decide) rfl rfl) das_nil rfl) rfl) (by decide) rfl rfl)) (fun _ _ => rfl))) (fun _ => rfl)))) rfl) (dss_cons (ds_for g rfl (by decide) (di_frz (di_seq g.toGdT.toGd (do_var g.toGdT.toGd rfl (.inr (.inl (by kernel_rfl))) (by decide) (by decide)))) (dg_name g.toGdT.toGd rfl (by kernel_rfl)) (dss_one (ds_if (dt_cmp (o_ne g.toGdT.toGd) op2_of (do_of (Td.rule (kk := 7) g.toGdT (by omega) (by omega) (by kernel_rfl) TB (hc.trans (fund_code Fd)) (by rw [hq]; exact hT1) (fun p hp e => by rw [hq]; exact hT2 p hp e) (lamS_by (by kernel_rfl)) rfl (fun _ _ _ _ _ => rfl) (fun F3 H3 i3 X3 W3 g3 => (de_callA g3 rfl ((h_holds.mono (by omega)).to ⟨rfl, rfl, rfl, rfl, rfl, rfl, rfl⟩) (fun h => by cases h) (by kernel_rfl) rfl (das_val (de_var g3.toGd rfl (by first | exact .inl (by decide +kernel) | exact .inr (.inl (by decide +kernel)) | exact .inr (.inr (by decide +kernel))) (by decide) (by decide)) (das_val (de_var g3.toGd rfl (by first | exact .inl (by decide +kernel) | exact .inr (.inl (by decide +kernel)) | exact .inr (.inr (by decide +kernel))) (by decide) (by decide)) das_nil rfl) rfl) (by decide) rfl rfl)))) (do_of (de_tup (des_cons de_int (des_cons (de_get g.toGdT.toGd (do_var g.toGdT.toGd rfl (.inl (by kernel_rfl)) (by decide) (by decide)) (da_cons (do_var g.toGdT.toGd rfl (.inr (.inl (by kernel_rfl))) (by decide) (by decide)) da_nil rfl)) des_nil rfl) rfl) (by decide))) rfl) (dss_one (ds_ret de_bool)) dss_nil)) (fun _ => rfl)) (dss_cons (ds_asg g.toGdT.toGd rfl (by kernel_rfl) (by decide) (de_ix (o_ix g.toGdT.toGd) op2_of (do_of (de_lst (des_cons (de_binop (o_mul g.toGdT.toGd) op2_of (do_of (de_tup (des_cons de_int des_nil rfl) (by decide))) (do_of (de_binop (o_add g.toGdT.toGd) op2_of (do_var g.toGdT.toGd rfl (.inr (.inl (by kernel_rfl))) (by decide) (by decide)) (do_of de_int)))) (des_cons (de_binop (o_mul g.toGdT.toGd) op2_of (do_of (de_tup (des_cons de_int des_nil rfl) (by decide))) (do_var g.toGdT.toGd rfl (.inr (.inl (by kernel_rfl))) (by decide) (by decide))) (des_cons de_int (des_cons de_none (des_cons (de_binop (o_mul g.toGdT.toGd) op2_of (do_of de_str) (do_var g.toGdT.toGd rfl (.inr (.inl (by kernel_rfl))) (by decide) (by decide))) (des_cons (de_tup des_nil (by decide)) (des_cons (de_binop (o_mul g.toGdT.toGd) op2_of (do_of (de_tup (des_cons de_str des_nil rfl) (by decide))) (do_var g.toGdT.toGd rfl (.inr (.inl (by kernel_rfl))) (by decide) (by decide))) (des_cons (de_ix (o_ix g.toGdT.toGd) op2_of (do_var g.toGdT.toGd rfl (.inr (.inl (by kernel_rfl))) (by decide) (by decide)) (do_of de_int) (fun _ _ => rfl)) des_nil rfl) rfl) rfl) rfl) rfl) rfl) rfl) rfl) (by decide))) (do_of (de_callA g.toGdT rfl ((h__law_draw.mono (by omega)).to ⟨rfl, rfl, rfl, rfl, rfl, rfl, rfl⟩) (fun h => by cases h) (by kernel_rfl) rfl (das_ref g.toGdT.toGd rfl (.inr (.inl (by kernel_rfl))) (by decide) (by decide) (das_val de_int das_nil rfl) rfl) (by decide) rfl rfl)) (fun _ _ => rfl)) rfl) (dss_cons (ds_if (dw_and (dt_not (dt_val (de_callA g.toGdT rfl ((h__law_is_word.mono (by omega)).to ⟨rfl, rfl, rfl, rfl, rfl, rfl, rfl⟩) (fun h => by cases h) (by kernel_rfl) rfl (das_val (de_var g.toGdT.toGd rfl (.inr (.inl (by kernel_rfl))) (by decide) (by decide)) (das_val (de_var g.toGdT.toGd rfl (.inr (.inl (by kernel_rfl))) (by decide) (by decide)) das_nil rfl) rfl) (by decide) rfl rfl) (fun _ => rfl))) (dw_and1 (dt_cmp (o_ne g.toGdT.toGd) op2_of (do_of (Td.rule (kk := 7) g.toGdT (by omega) (by omega) (by kernel_rfl) TB (hc.trans (fund_code Fd)) (by rw [hq]; exact hT1) (fun p hp e => by rw [hq]; exact hT2 p hp e) (lamS_by (by kernel_rfl)) rfl (fun _ _ _ _ _ => rfl) (fun F4 H4 i4 X4 W4 g4 => (de_callA g4 rfl ((h_holds.mono (by omega)).to ⟨rfl, rfl, rfl, rfl, rfl, rfl, rfl⟩) (fun h => by cases h) (by kernel_rfl) rfl (das_val (de_var g4.toGd rfl (by first | exact .inl (by decide +kernel) | exact .inr (.inl (by decide +kernel)) | exact .inr (.inr (by decide +kernel))) (by decide) (by decide)) (das_val (de_var g4.toGd rfl (by first | exact .inl (by decide +kernel) | exact .inr (.inl (by decide +kernel)) | exact .inr (.inr (by decide +kernel))) (by decide) (by decide)) das_nil rfl) rfl) (by decide) rfl rfl)))) (do_of (de_tup (des_cons de_int (des_cons de_str des_nil rfl) rfl) (by decide))) rfl))).pt (dss_one (ds_ret de_bool)) dss_nil) (dss_cons (ds_if (dw_and (dt_not (dt_val (de_callA g.toGdT rfl ((h__law_is_state.mono (by omega)).to ⟨rfl, rfl, rfl, rfl, rfl, rfl, rfl⟩) (fun h => by cases h) (by kernel_rfl) rfl (das_val (de_var g.toGdT.toGd rfl (.inr (.inl (by kernel_rfl))) (by decide) (by decide)) das_nil rfl) (by decide) rfl rfl) (fun _ => rfl))) (dw_and1 (dt_cmp (o_ne g.toGdT.toGd) op2_of (do_of (de_frz (Td.rule (kk := 7) g.toGdT (by omega) (by omega) (by kernel_rfl) TB (hc.trans (fund_code Fd)) (by rw [hq]; exact hT1) (fun p hp e => by rw [hq]; exact hT2 p hp e) (lamS_by (by kernel_rfl)) rfl (fun _ _ _ _ _ => rfl) (fun F5 H5 i5 X5 W5 g5 => (de_callA g5 rfl ((h_holds.mono (by omega)).to ⟨rfl, rfl, rfl, rfl, rfl, rfl, rfl⟩) (fun h => by cases h) (by kernel_rfl) rfl (das_val (de_var g5.toGd rfl (by first | exact .inl (by decide +kernel) | exact .inr (.inl (by decide +kernel)) | exact .inr (.inr (by decide +kernel))) (by decide) (by decide)) (das_val (de_ix (o_ix g5.toGd) op2_of (do_var g5.toGd rfl (by first | exact .inl (by decide +kernel) | exact .inr (.inl (by decide +kernel)) | exact .inr (.inr (by decide +kernel))) (by decide) (by decide)) (do_of de_int) (fun _ _ => rfl)) das_nil rfl) rfl) (by decide) rfl rfl))))) (do_of (de_tup (des_cons de_int (des_cons de_str des_nil rfl) rfl) (by decide))) rfl))).pt (dss_one (ds_ret de_bool)) dss_nil) (dss_one (ds_if (dw_or (dt_cmp (o_gt g.toGdT.toGd) op2_of (do_of (de_blt g.toGdT.toGd (c_len g.toGdT.toGd) (by kernel_rfl) (B "len" (by decide)) (by decide +kernel) (da_cons (do_of (de_comp g.toGdT.toGd rfl (di_range1 g.toGdT.toGd (by kernel_rfl) (B "range" (by decide)) (do_of de_int) rfl) (own := [("k", 11)]) (by kernel_rfl) (by decide) (fun p6 o6 X6 g6 => (dg_name g6.toGd rfl (by kernel_rfl))) (fun p6 o6 X6 g6 => (pts_one (dt_not (dt_val (de_callA g6 rfl ((h__law_multiply_right.mono (by omega)).to ⟨rfl, rfl, rfl, rfl, rfl, rfl, rfl⟩) (fun h => by cases h) (by kernel_rfl) rfl (das_ref g6.toGd rfl (by first | exact .inl (by decide +kernel) | exact .inr (.inl (by decide +kernel)) | exact .inr (.inr (by decide +kernel))) (by decide) (by decide) (das_val (de_var g6.toGd rfl (by first | exact .inl (by decide +kernel) | exact .inr (.inl (by decide +kernel)) | exact .inr (.inr (by decide +kernel))) (by decide) (by decide)) das_nil rfl) rfl) (by decide) rfl rfl) (fun _ => rfl))))) (fun p6 o6 X6 g6 => (de_var g6.toGd rfl (by first | exact .inl (by decide +kernel) | exact .inr (.inl (by decide +kernel)) | exact .inr (.inr (by decide +kernel))) (by decide) (by decide))) (fun _ => rfl))) da_nil rfl) (by decide) (by decide) rfl rfl)) (do_of de_int) rfl) (dw_or1 (dt_cmp (o_ne g.toGdT.toGd) op2_of (do_of (de_blt g.toGdT.toGd (c_repr g.toGdT.toGd rfl) (by kernel_rfl) (B "repr" (by decide)) (by decide +kernel) (da_cons (do_var g.toGdT.toGd rfl (.inr (.inl (by kernel_rfl))) (by decide) (by decide)) da_nil rfl) (by decide) (by decide) rfl rfl)) (do_var g.toGdT.toGd rfl (.inl (by kernel_rfl)) (by decide) (by decide)) rfl))).pt (dss_one (ds_ret de_bool)) dss_nil))))))))))))))) (fun _ => rfl)) (dss_one (ds_ret de_bool)))
def _law_read_F (_law_read_R : Fun) : StF := (sSeq (sIf (tOr2 (tVal (eBin dIs (oVar 0) (oOf (eCon .none)))) (tOr2 (tVal (eBin dIs (oVar 0) (oOf (eCon (.bool true))))) (tVal (eBin dIs (oVar 0) (oOf (eCon (.bool false))))))) (sRet (eMove 0)) sNx) (sSeq (sIf (tVal (eUn (dIsi "int") (oVar 0))) (sRet (eOps dInt [(oVar 0)])) sNx) (sSeq (sIf (tVal (eUn (dIsi "str") (oVar 0))) (sRet (eUn (dJoin "") (oOf (eComp [1] (iSeq (oVar 0)) (.name 1) tTrue (eVar 1))))) sNx) (sSeq (sIf (tVal (eUn (dIsi "tuple") (oVar 0))) (sRet (eOps dTuple [(oOf (eComp [2] (iSeq (oVar 0)) (.name 2) tTrue (eCall _law_read_R [.val (eVar 2)])))])) sNx) (sRet (eIte (tVal (eUn (dIsi "list") (oVar 0))) (eComp [2] (iSeq (oVar 0)) (.name 2) tTrue (eCall _law_read_R [.val (eVar 2)])) (eCon (.str "something else"))))))))
def _law_read_S : Nat → Fun
  | 0 => fun _ => none
  | n + 1 => runF (_law_read_F (_law_read_S n)) 3 [false]
theorem f__law_read {Γ : Ctx} (D0 : ∃ fd, FunD Γ.K "_law_read" "_law_read" (defArgs Hd.s__law_read) (defBody Hd.s__law_read) (defScope Hd.s__law_read) [] [] (He.fAd Γ.K ("_law_read", none)) fd) (m0 : Γ.mg "_law_read" = some (.ref (He.fAd Γ.K ("_law_read", none)))) (B : Bare Γ) : ∀ n : Nat, FnAt Γ false (n + 0) "_law_read" ["told"] [false] (_law_read_S n) := by
  obtain ⟨fd, Fd⟩ := D0
  intro n
  induction n with
  | zero => exact FnAt.none Fd m0 (FunD.bindsN Fd fun _ _ _ _ _ _ us hl => match us, hl with | [_], _ => rfl) rfl
  | succ n h__law_read =>
    rw [show n + 1 + 0 = n + 0 + 1 by omega]; refine fnAt_of (k := n + 0) (N := ["told", "sign", "part"]) Fd ⟨by kernel_rfl, by kernel_rfl, by kernel_rfl, by decide +kernel, by decide +kernel, by decide +kernel, by decide +kernel⟩ m0 (FunD.bindsN Fd fun _ _ _ _ _ _ us hl => match us, hl with | [_], _ => rfl) rfl rfl (as := [0]) fun F0 H0 ino X W g hq hc => ?_
    unfold _law_read_F
    exact (dss_cons (ds_if (dw_or (dt_cmp (o_is) op2_of (do_var g.toGdT.toGd rfl (.inl (by kernel_rfl)) (by decide) (by decide)) (do_of de_none) rfl) (dw_or (dt_cmp (o_is) op2_of (do_var g.toGdT.toGd rfl (.inl (by kernel_rfl)) (by decide) (by decide)) (do_of de_bool) rfl) (dw_or1 (dt_cmp (o_is) op2_of (do_var g.toGdT.toGd rfl (.inl (by kernel_rfl)) (by decide) (by decide)) (do_of de_bool) rfl)))).pt (dss_one (ds_ret (de_move g.toGdT.toGd rfl (.inl (by kernel_rfl)) (by decide) (by decide)))) dss_nil) (dss_cons (ds_if (dt_val (de_isi g.toGdT.toGd (by kernel_rfl) (B "isinstance" (by decide)) (by kernel_rfl) (B "int" (by decide)) (by decide +kernel) (by decide) (by decide) (do_var g.toGdT.toGd rfl (.inl (by kernel_rfl)) (by decide) (by decide)) rfl rfl rfl) (fun _ => rfl)) (dss_one (ds_ret (de_bty g.toGdT.toGd (c_int) (by kernel_rfl) (B "int" (by decide)) (by decide +kernel) (da_cons (do_var g.toGdT.toGd rfl (.inl (by kernel_rfl)) (by decide) (by decide)) da_nil rfl) (by decide) (by decide) rfl rfl))) dss_nil) (dss_cons (ds_if (dt_val (de_isi g.toGdT.toGd (by kernel_rfl) (B "isinstance" (by decide)) (by kernel_rfl) (B "str" (by decide)) (by decide +kernel) (by decide) (by decide) (do_var g.toGdT.toGd rfl (.inl (by kernel_rfl)) (by decide) (by decide)) rfl rfl rfl) (fun _ => rfl)) (dss_one (ds_ret (de_join g.toGdT.toGd (do_of (de_comp g.toGdT.toGd rfl (di_seq g.toGdT.toGd (do_var g.toGdT.toGd rfl (.inl (by kernel_rfl)) (by decide) (by decide))) (own := [("sign", 1)]) (by kernel_rfl) (by decide) (fun p1 o1 X1 g1 => (dg_name g1.toGd rfl (by kernel_rfl))) (fun p1 o1 X1 g1 => dts_nil) (fun p1 o1 X1 g1 => (de_var g1.toGd rfl (by first | exact .inl (by decide +kernel) | exact .inr (.inl (by decide +kernel)) | exact .inr (.inr (by decide +kernel))) (by decide) (by decide))) (fun _ => rfl))) rfl rfl rfl))) dss_nil) (dss_cons (ds_if (dt_val (de_isi g.toGdT.toGd (by kernel_rfl) (B "isinstance" (by decide)) (by kernel_rfl) (B "tuple" (by decide)) (by decide +kernel) (by decide) (by decide) (do_var g.toGdT.toGd rfl (.inl (by kernel_rfl)) (by decide) (by decide)) rfl rfl rfl) (fun _ => rfl)) (dss_one (ds_ret (de_bty g.toGdT.toGd (c_tuple g.toGdT.toGd) (by kernel_rfl) (B "tuple" (by decide)) (by decide +kernel) (da_cons (do_of (de_comp g.toGdT.toGd rfl (di_seq g.toGdT.toGd (do_var g.toGdT.toGd rfl (.inl (by kernel_rfl)) (by decide) (by decide))) (own := [("part", 2)]) (by kernel_rfl) (by decide) (fun p2 o2 X2 g2 => (dg_name g2.toGd rfl (by kernel_rfl))) (fun p2 o2 X2 g2 => dts_nil) (fun p2 o2 X2 g2 => (de_callA g2 rfl ((h__law_read.mono (by omega)).to ⟨rfl, rfl, rfl, rfl, rfl, rfl, rfl⟩) (fun h => by cases h) (by kernel_rfl) rfl (das_val (de_var g2.toGd rfl (by first | exact .inl (by decide +kernel) | exact .inr (.inl (by decide +kernel)) | exact .inr (.inr (by decide +kernel))) (by decide) (by decide)) das_nil rfl) (by decide) rfl rfl)) (fun _ => rfl))) da_nil rfl) (by decide) (by decide) rfl rfl))) dss_nil) (dss_one (ds_ret (de_ite (dt_val (de_isi g.toGdT.toGd (by kernel_rfl) (B "isinstance" (by decide)) (by kernel_rfl) (B "list" (by decide)) (by decide +kernel) (by decide) (by decide) (do_var g.toGdT.toGd rfl (.inl (by kernel_rfl)) (by decide) (by decide)) rfl rfl rfl) (fun _ => rfl)) (de_comp g.toGdT.toGd rfl (di_seq g.toGdT.toGd (do_var g.toGdT.toGd rfl (.inl (by kernel_rfl)) (by decide) (by decide))) (own := [("part", 2)]) (by kernel_rfl) (by decide) (fun p3 o3 X3 g3 => (dg_name g3.toGd rfl (by kernel_rfl))) (fun p3 o3 X3 g3 => dts_nil) (fun p3 o3 X3 g3 => (de_callA g3 rfl ((h__law_read.mono (by omega)).to ⟨rfl, rfl, rfl, rfl, rfl, rfl, rfl⟩) (fun h => by cases h) (by kernel_rfl) rfl (das_val (de_var g3.toGd rfl (by first | exact .inl (by decide +kernel) | exact .inr (.inl (by decide +kernel)) | exact .inr (.inr (by decide +kernel))) (by decide) (by decide)) das_nil rfl) (by decide) rfl rfl)) (fun _ => rfl)) de_str)))))))
theorem told_ok {Γ : Ctx} (D0 : ∃ fd, FunD Γ.K "_law_told" "_law_told" (defArgs Hd.s__law_told) (defBody Hd.s__law_told) (defScope Hd.s__law_told) [] [] (He.fAd Γ.K ("_law_told", none)) fd) (m0 : Γ.mg "_law_told" = some (.ref (He.fAd Γ.K ("_law_told", none)))) (B : Bare Γ) (Kd : Kinds Γ "WholeError" toldCs) {kr : Nat} (h_read : FnAt Γ false kr "_law_read" ["told"] [false] (readSem readD2)) : ToldAt Γ "_law_told" kr readD2 toldWord := by
  obtain ⟨fd, Fd⟩ := D0
  obtain ⟨fr, fdr, hF, hm, hk, hbr⟩ := h_read.ex
  obtain ⟨CW, mW, exW⟩ := Kd.top
  obtain ⟨C0, a0, mm0, _⟩ := Kd.ex "BadSchema" (by decide)
  obtain ⟨C1, a1, mm1, _⟩ := Kd.ex "BadKind" (by decide)
  obtain ⟨C2, a2, mm2, _⟩ := Kd.ex "BadTable" (by decide)
  obtain ⟨C3, a3, mm3, _⟩ := Kd.ex "BadPaper" (by decide)
  obtain ⟨C4, a4, mm4, _⟩ := Kd.ex "BadState" (by decide)
  obtain ⟨C5, a5, mm5, _⟩ := Kd.ex "NotAgreeing" (by decide)
  obtain ⟨C6, a6, mm6, _⟩ := Kd.ex "OutOfRange" (by decide)
  refine ⟨fun {N F0 H0 ino gb X sc st k kk W f params body scope p lpos pos c P} g hkk hkr hg TB hcode hmT hu L hdef hbind hbody => ?_⟩
  refine pe_told (Γ := Γ.enter N F0 H0 ino gb) (Ng := ["call", "e", "words", "found", "word", "is_so"]) (a := "call") (as := [2, 3]) (hF := toldH) (ctop := .ref CW) g rfl hkk Fd
    ⟨by kernel_rfl, by kernel_rfl, by kernel_rfl, by decide +kernel, by decide +kernel, by decide +kernel, by decide +kernel⟩ rfl (.inl (by kernel_rfl)) hg m0 (FunD.bindsN Fd fun _ _ _ _ _ _ us hl => match us, hl with | [_], _ => rfl)
    TB hcode hmT hu L hdef hbind hbody rfl (hF.to ⟨rfl, rfl, rfl, rfl, rfl, rfl, rfl⟩) hkr (by kernel_rfl) hm hk hbr rfl (by kernel_rfl) (by kernel_rfl) mW (by decide) (by decide) (by decide) (by decide) (by decide)
    (fun c w h => exW c (word_in h)) (fun c w h => let ⟨C, h1, _, h2⟩ := Kd.ex c (word_in h); ⟨C, h1, h2⟩) (fun c w h F1 H1 X1 aE Dc hDc g1 hot hci => ?_) (fun c w h => toldH_res h)
  have gd := g1.toGd
  have t0 : PySem.W.kitOne Γ.K (.ref Dc) (.ref C0) = some (decide (c = "BadSchema")) := by
    have q := Kd.kit c (word_in h) "BadSchema" (by decide)
    rw [show Γ.cls c = .ref Dc from hDc, a0] at q
    exact q
  have t1 : PySem.W.kitOne Γ.K (.ref Dc) (.ref C1) = some (decide (c = "BadKind")) := by
    have q := Kd.kit c (word_in h) "BadKind" (by decide)
    rw [show Γ.cls c = .ref Dc from hDc, a1] at q
    exact q
  have t2 : PySem.W.kitOne Γ.K (.ref Dc) (.ref C2) = some (decide (c = "BadTable")) := by
    have q := Kd.kit c (word_in h) "BadTable" (by decide)
    rw [show Γ.cls c = .ref Dc from hDc, a2] at q
    exact q
  have t3 : PySem.W.kitOne Γ.K (.ref Dc) (.ref C3) = some (decide (c = "BadPaper")) := by
    have q := Kd.kit c (word_in h) "BadPaper" (by decide)
    rw [show Γ.cls c = .ref Dc from hDc, a3] at q
    exact q
  have t4 : PySem.W.kitOne Γ.K (.ref Dc) (.ref C4) = some (decide (c = "BadState")) := by
    have q := Kd.kit c (word_in h) "BadState" (by decide)
    rw [show Γ.cls c = .ref Dc from hDc, a4] at q
    exact q
  have t5 : PySem.W.kitOne Γ.K (.ref Dc) (.ref C5) = some (decide (c = "NotAgreeing")) := by
    have q := Kd.kit c (word_in h) "NotAgreeing" (by decide)
    rw [show Γ.cls c = .ref Dc from hDc, a5] at q
    exact q
  have t6 : PySem.W.kitOne Γ.K (.ref Dc) (.ref C6) = some (decide (c = "OutOfRange")) := by
    have q := Kd.kit c (word_in h) "OutOfRange" (by decide)
    rw [show Γ.cls c = .ref Dc from hDc, a6] at q
    exact q
  exact dss_cons (ds_asg gd rfl (by kernel_rfl) (by decide) (de_lst (des_cons (de_tup (des_cons de_str (des_cons (de_isexc gd hci rfl (by kernel_rfl) (B "isinstance" (by decide)) rfl (.inl (by kernel_rfl)) (by decide) (by decide) (by kernel_rfl) mm0 (by decide) t0 rfl rfl rfl) des_nil rfl) rfl) (show 2 ≤ sizeLine by decide)) (des_cons (de_tup (des_cons de_str (des_cons (de_isexc gd hci rfl (by kernel_rfl) (B "isinstance" (by decide)) rfl (.inl (by kernel_rfl)) (by decide) (by decide) (by kernel_rfl) mm1 (by decide) t1 rfl rfl rfl) des_nil rfl) rfl) (show 2 ≤ sizeLine by decide)) (des_cons (de_tup (des_cons de_str (des_cons (de_isexc gd hci rfl (by kernel_rfl) (B "isinstance" (by decide)) rfl (.inl (by kernel_rfl)) (by decide) (by decide) (by kernel_rfl) mm2 (by decide) t2 rfl rfl rfl) des_nil rfl) rfl) (show 2 ≤ sizeLine by decide)) (des_cons (de_tup (des_cons de_str (des_cons (de_isexc gd hci rfl (by kernel_rfl) (B "isinstance" (by decide)) rfl (.inl (by kernel_rfl)) (by decide) (by decide) (by kernel_rfl) mm3 (by decide) t3 rfl rfl rfl) des_nil rfl) rfl) (show 2 ≤ sizeLine by decide)) des_nil rfl) rfl) rfl) rfl) (show 4 ≤ sizeLine by decide)) rfl)
    (dss_cons (ds_asg gd rfl (by kernel_rfl) (by decide) (de_binop (o_add gd) op2_of (do_var gd rfl (.inl (by kernel_rfl)) (by decide) (by decide)) (do_of (de_lst (des_cons (de_tup (des_cons de_str (des_cons (de_isexc gd hci rfl (by kernel_rfl) (B "isinstance" (by decide)) rfl (.inl (by kernel_rfl)) (by decide) (by decide) (by kernel_rfl) mm4 (by decide) t4 rfl rfl rfl) des_nil rfl) rfl) (show 2 ≤ sizeLine by decide)) (des_cons (de_tup (des_cons de_str (des_cons (de_isexc gd hci rfl (by kernel_rfl) (B "isinstance" (by decide)) rfl (.inl (by kernel_rfl)) (by decide) (by decide) (by kernel_rfl) mm5 (by decide) t5 rfl rfl rfl) des_nil rfl) rfl) (show 2 ≤ sizeLine by decide)) (des_cons (de_tup (des_cons de_str (des_cons (de_isexc gd hci rfl (by kernel_rfl) (B "isinstance" (by decide)) rfl (.inl (by kernel_rfl)) (by decide) (by decide) (by kernel_rfl) mm6 (by decide) t6 rfl rfl rfl) des_nil rfl) rfl) (show 2 ≤ sizeLine by decide)) des_nil rfl) rfl) rfl) (show 3 ≤ sizeLine by decide)))) rfl)
    (dss_cons (ds_asgCH gd hot rfl (by kernel_rfl) (by kernel_rfl) (by decide) rfl (by decide +kernel) (do_var gd rfl (.inl (by kernel_rfl)) (by decide) (by decide)) (own := [("word", 4), ("is_so", 5)]) (by kernel_rfl) (by decide)
        (fun p2 o2 X2 g2 h2 => dg_tupH g2.toGd h2 (dgs_cons (dg_name g2.toGd rfl (by kernel_rfl)) (dgs_cons (dg_name g2.toGd rfl (by kernel_rfl)) dgs_nil rfl) rfl) rfl rfl rfl)
        (fun p2 o2 X2 g2 h2 => pts_one (dt_val (de_var g2.toGd rfl (.inl (by kernel_rfl)) (by decide) (by decide)) (fun _ => rfl)))
        (fun p2 o2 X2 g2 h2 => de_var g2.toGd rfl (.inl (by kernel_rfl)) (by decide) (by decide)) (fun _ => rfl))
    (dss_one (ds_ret (de_tup (des_cons de_int (des_cons (de_ite (dt_cmp (o_eq gd) op2_of (do_of (de_blt gd (c_len gd) (by kernel_rfl) (B "len" (by decide)) (by decide +kernel) (da_cons (do_var gd rfl (.inl (by kernel_rfl)) (by decide) (by decide)) da_nil rfl) (by decide) (by decide) rfl rfl)) (do_of de_int) rfl)
        (de_ix (o_ix gd) op2_of (do_var gd rfl (.inl (by kernel_rfl)) (by decide) (by decide)) (do_of de_int) (fun _ _ => rfl)) de_str) des_nil rfl) rfl) (by decide))))))
end Ow
namespace Ow
/-! ### words over 0, 1, 2, 3 -/
abbrev Sg := Fin 4
abbrev Wd := List Sg
def x4 (a b : Sg) : Sg := if a = 0 then b else if b = 0 then a else if a = b then 0 else 2 - a - b
def p4 (a b : Sg) : Bool := decide (a ≠ 0) && (decide (b ≠ 0) && decide (a ≠ b))
theorem x4_comm : ∀ a b : Sg, x4 a b = x4 b a := by decide
theorem x4_assoc : ∀ a b c : Sg, x4 (x4 a b) c = x4 a (x4 b c) := by decide
theorem x4_self : ∀ a : Sg, x4 a a = 0 := by decide
theorem x4_zero : ∀ a : Sg, x4 a 0 = a := by decide
theorem x4_eq : ∀ a b : Sg, x4 a b = 0 → a = b := by decide
theorem p4_add : ∀ a b c : Sg, p4 (x4 a b) c = ((p4 a c) != (p4 b c)) := by decide
theorem p4_comm : ∀ a b : Sg, p4 a b = p4 b a := by decide
theorem p4_self : ∀ a : Sg, p4 a a = false := by decide
def xw : Wd → Wd → Wd
  | a :: u, b :: v => x4 a b :: xw u v
  | _, _ => []
def zw (n : Nat) : Wd := List.replicate n 0
/-- whether they part -/
def par : Wd → Wd → Bool
  | a :: u, b :: v => (p4 a b) != (par u v)
  | _, _ => false
theorem xw_len : ∀ {u v : Wd} {n : Nat}, u.length = n → v.length = n → (xw u v).length = n
  | [], [], n, h, _ => h
  | a :: u, b :: v, 0, h, _ => by cases h
  | a :: u, b :: v, n + 1, h, k => by
    simp only [xw, List.length_cons] at *
    rw [xw_len (n := n) (by omega) (by omega)]
  | [], _ :: _, n, h, k => by simp at h k; omega
  | _ :: _, [], n, h, k => by simp at h k; omega
theorem xw_comm : ∀ u v : Wd, xw u v = xw v u
  | [], [] => rfl
  | [], _ :: _ => rfl
  | _ :: _, [] => rfl
  | a :: u, b :: v => by simp only [xw]; rw [x4_comm a b, xw_comm u v]
theorem xw_assoc : ∀ u v w : Wd, xw (xw u v) w = xw u (xw v w)
  | [], v, w => by cases v <;> cases w <;> rfl
  | _ :: _, [], w => by cases w <;> rfl
  | _ :: _, _ :: _, [] => rfl
  | a :: u, b :: v, c :: w => by simp only [xw]; rw [x4_assoc, xw_assoc u v w]
theorem xw_self : ∀ {u : Wd} {n : Nat}, u.length = n → xw u u = zw n
  | [], n, h => by simp at h; subst h; rfl
  | a :: u, 0, h => by cases h
  | a :: u, n + 1, h => by
    simp only [xw, x4_self]
    rw [xw_self (n := n) (by simp at h; exact h)]
    rfl
theorem xw_zero : ∀ {u : Wd} {n : Nat}, u.length = n → xw u (zw n) = u
  | [], n, h => by simp at h; subst h; rfl
  | a :: u, 0, h => by cases h
  | a :: u, n + 1, h => by
    show x4 a 0 :: xw u (zw n) = a :: u
    rw [x4_zero, xw_zero (n := n) (by simp at h; exact h)]
theorem xw_eq : ∀ {u v : Wd} {n : Nat}, u.length = n → v.length = n → (xw u v = zw n ↔ u = v)
  | [], [], n, h, _ => by simp at h; subst h; simp [xw, zw]
  | a :: u, b :: v, 0, h, _ => by cases h
  | a :: u, b :: v, n + 1, h, k => by
    have ih := xw_eq (u := u) (v := v) (n := n) (by simp at h; exact h) (by simp at k; exact k)
    show (x4 a b :: xw u v = 0 :: zw n) ↔ _
    rw [List.cons.injEq, List.cons.injEq, ih]
    constructor
    · rintro ⟨h1, h2⟩
      exact ⟨x4_eq a b h1, h2⟩
    · rintro ⟨h1, h2⟩
      subst h1
      exact ⟨x4_self a, h2⟩
  | [], _ :: _, n, h, k => by simp at h k; omega
  | _ :: _, [], n, h, k => by simp at h k; omega
theorem xw_back {u v : Wd} {n : Nat} (hu : u.length = n) (hv : v.length = n) : xw u (xw u v) = v := by
  rw [← xw_assoc, xw_self hu, xw_comm, xw_zero hv]
theorem par_add : ∀ {u v w : Wd} {n : Nat}, u.length = n → v.length = n → w.length = n → par (xw u v) w = ((par u w) != (par v w))
  | [], [], w, n, h, _, _ => by cases w <;> rfl
  | [], _ :: _, w, n, h, k, _ => by simp at h k; omega
  | _ :: _, [], w, n, h, k, _ => by simp at h k; omega
  | _ :: _, _ :: _, [], n, h, _, l => by simp at h l; omega
  | a :: u, b :: v, c :: w, 0, h, _, _ => by cases h
  | a :: u, b :: v, c :: w, n + 1, h, k, l => by
    simp only [xw, par, p4_add]
    rw [par_add (n := n) (by simp at h; exact h) (by simp at k; exact k) (by simp at l; exact l)]
    cases p4 a c <;> cases p4 b c <;> cases par u w <;> cases par v w <;> rfl
theorem par_comm : ∀ u v : Wd, par u v = par v u
  | [], [] => rfl
  | [], _ :: _ => rfl
  | _ :: _, [] => rfl
  | a :: u, b :: v => by simp only [par]; rw [p4_comm a b, par_comm u v]
theorem par_self : ∀ u : Wd, par u u = false
  | [] => rfl
  | a :: u => by simp only [par, p4_self, par_self u]; rfl
/-! ### all of them -/
def allW : Nat → List Wd
  | 0 => [[]]
  | n + 1 => (allW n).map (0 :: ·) ++ ((allW n).map (1 :: ·) ++ ((allW n).map (2 :: ·) ++ (allW n).map (3 :: ·)))
theorem all_mem : ∀ {n : Nat} {w : Wd}, w ∈ allW n ↔ w.length = n
  | 0, w => by simp [allW]
  | n + 1, [] => by simp [allW]
  | n + 1, a :: w => by
    simp only [allW, List.mem_append, List.mem_map, List.cons.injEq, List.length_cons]
    have ih := all_mem (n := n) (w := w)
    constructor
    · rintro (⟨v, h1, _, rfl⟩ | ⟨v, h1, _, rfl⟩ | ⟨v, h1, _, rfl⟩ | ⟨v, h1, _, rfl⟩) <;> rw [ih.mp h1]
    · intro h
      have h1 : w ∈ allW n := ih.mpr (by omega)
      have h2 : ∀ a : Sg, a = 0 ∨ a = 1 ∨ a = 2 ∨ a = 3 := by decide
      rcases h2 a with rfl | rfl | rfl | rfl
      · exact .inl ⟨w, h1, rfl, rfl⟩
      · exact .inr (.inl ⟨w, h1, rfl, rfl⟩)
      · exact .inr (.inr (.inl ⟨w, h1, rfl, rfl⟩))
      · exact .inr (.inr (.inr ⟨w, h1, rfl, rfl⟩))
theorem all_len : ∀ n : Nat, (allW n).length = 4 ^ n
  | 0 => rfl
  | n + 1 => by
    simp only [allW, List.length_append, List.length_map, all_len n]
    rw [Nat.pow_succ]; omega
theorem nodup_cons_map {a : Sg} : ∀ {L : List Wd}, L.Nodup → (L.map (a :: ·)).Nodup
  | [], _ => List.nodup_nil
  | w :: L, h => by
    rw [List.nodup_cons] at h
    rw [List.map_cons, List.nodup_cons]
    refine ⟨fun q => ?_, nodup_cons_map h.2⟩
    obtain ⟨v, hv, e⟩ := List.mem_map.mp q
    rw [List.cons.injEq] at e
    exact h.1 (e.2 ▸ hv)
theorem all_nodup : ∀ n : Nat, (allW n).Nodup
  | 0 => by simp [allW]
  | n + 1 => by
    have h := all_nodup n
    have d : ∀ {a b : Sg} {u v : Wd}, a ≠ b → u ∈ (allW n).map (a :: ·) → v ∈ (allW n).map (b :: ·) → u ≠ v := fun {a b u v} hn hu hv e => by
      obtain ⟨u', _, rfl⟩ := List.mem_map.mp hu
      obtain ⟨v', _, rfl⟩ := List.mem_map.mp hv
      rw [List.cons.injEq] at e
      exact hn e.1
    refine List.nodup_append.mpr ⟨nodup_cons_map h, List.nodup_append.mpr ⟨nodup_cons_map h, List.nodup_append.mpr ⟨nodup_cons_map h, nodup_cons_map h, ?_⟩, ?_⟩, ?_⟩
    · exact fun u hu v hv => d (by decide) hu hv
    · intro u hu v hv
      rcases List.mem_append.mp hv with hv | hv
      · exact d (by decide) hu hv
      · exact d (by decide) hu hv
    · intro u hu v hv
      rcases List.mem_append.mp hv with hv | hv
      · exact d (by decide) hu hv
      · rcases List.mem_append.mp hv with hv | hv
        · exact d (by decide) hu hv
        · exact d (by decide) hu hv
/-! ### counting -/
theorem nodup_le {α : Type} [DecidableEq α] : ∀ {A B : List α}, A.Nodup → (∀ x ∈ A, x ∈ B) → A.length ≤ B.length
  | [], _, _, _ => Nat.zero_le _
  | a :: A, B, nd, h => by
    rw [List.nodup_cons] at nd
    have ha : a ∈ B := h a (by simp)
    have := nodup_le (A := A) (B := B.erase a) nd.2 fun x hx => by
      have hne : x ≠ a := fun e => nd.1 (e ▸ hx)
      exact (List.mem_erase_of_ne hne).mpr (h x (List.mem_cons_of_mem _ hx))
    rw [List.length_erase_of_mem ha] at this
    have : 0 < B.length := List.length_pos_of_mem ha
    simp only [List.length_cons]
    omega
theorem two_filters {α : Type} (p : α → Bool) : ∀ L : List α, (L.filter p).length + (L.filter fun x => !p x).length = L.length
  | [] => rfl
  | a :: L => by
    have := two_filters p L
    simp only [List.filter_cons]
    cases p a <;> simp <;> omega
theorem nodup_map {α β : Type} {f : α → β} : ∀ {L : List α}, (∀ x ∈ L, ∀ y ∈ L, f x = f y → x = y) → L.Nodup → (L.map f).Nodup
  | [], _, _ => List.nodup_nil
  | a :: L, h, nd => by
    rw [List.nodup_cons] at nd
    rw [List.map_cons, List.nodup_cons]
    refine ⟨fun q => ?_, nodup_map (fun x hx y hy => h x (List.mem_cons_of_mem _ hx) y (List.mem_cons_of_mem _ hy)) nd.2⟩
    obtain ⟨x, hx, e⟩ := List.mem_map.mp q
    exact nd.1 (h x (List.mem_cons_of_mem _ hx) a (by simp) e ▸ hx)
/-- half of a space at least goes together with a word -/
theorem halve {n : Nat} {L : List Wd} {w : Wd} (nd : L.Nodup) (hl : ∀ u ∈ L, u.length = n) (cl : ∀ u ∈ L, ∀ v ∈ L, xw u v ∈ L) (hw : w.length = n) : L.length ≤ 2 * (L.filter fun u => !par u w).length := by
  have t := two_filters (fun u => par u w) L
  by_cases h : ∃ u ∈ L, par u w = true
  · obtain ⟨u, hu, pu⟩ := h
    have le : (L.filter fun u => par u w).length ≤ (L.filter fun u => !par u w).length := by
      have := nodup_le (A := (L.filter fun u => par u w).map (xw u)) (B := L.filter fun u => !par u w) (nodup_map (fun x hx y hy e => by
          have hx' := hl x (List.mem_filter.mp hx).1
          have hy' := hl y (List.mem_filter.mp hy).1
          rw [← xw_back (hl u hu) hx', e, xw_back (hl u hu) hy']) (nd.filter _)) fun x hx => by
        obtain ⟨v, hv, rfl⟩ := List.mem_map.mp hx
        obtain ⟨hv, pv⟩ := List.mem_filter.mp hv
        refine List.mem_filter.mpr ⟨cl u hu v hv, ?_⟩
        rw [par_add (hl u hu) (hl v hv) hw, pu, pv]
        rfl
      rwa [List.length_map] at this
    omega
  · have e : (L.filter fun u => par u w) = [] := List.filter_eq_nil_iff.mpr fun u hu q => h ⟨u, hu, q⟩
    rw [e, List.length_nil] at t
    omega
/-- those that go together with some words -/
def goes (n : Nat) : List Wd → List Wd
  | [] => allW n
  | w :: ws => (goes n ws).filter fun u => !par u w
theorem goes_mem {n : Nat} {u : Wd} : ∀ {ws : List Wd}, u ∈ goes n ws ↔ u.length = n ∧ ∀ w ∈ ws, par u w = false
  | [] => by simp [goes, all_mem]
  | w :: ws => by
    simp only [goes, List.mem_filter, goes_mem (ws := ws), List.mem_cons, forall_eq_or_imp, Bool.not_eq_true']
    constructor
    · rintro ⟨⟨h1, h2⟩, h3⟩; exact ⟨h1, h3, h2⟩
    · rintro ⟨h1, h3, h2⟩; exact ⟨⟨h1, h2⟩, h3⟩
theorem goes_len {n : Nat} : ∀ {ws : List Wd}, (∀ w ∈ ws, w.length = n) → 4 ^ n ≤ 2 ^ ws.length * (goes n ws).length ∧ (goes n ws).Nodup
  | [], _ => ⟨by simp [goes, all_len], all_nodup n⟩
  | w :: ws, h => by
    obtain ⟨ih, nd⟩ := goes_len (ws := ws) fun w hw => h w (List.mem_cons_of_mem _ hw)
    refine ⟨?_, nd.filter _⟩
    have hh := halve (w := w) nd (fun u hu => (goes_mem.mp hu).1) (fun u hu v hv => ?_) (h w (by simp))
    · refine Nat.le_trans ih ?_
      show 2 ^ ws.length * (goes n ws).length ≤ 2 ^ (ws.length + 1) * ((goes n ws).filter fun u => !par u w).length
      rw [Nat.pow_succ, Nat.mul_assoc]
      exact Nat.mul_le_mul_left _ hh
    · have hu' := goes_mem.mp hu
      have hv' := goes_mem.mp hv
      refine goes_mem.mpr ⟨xw_len hu'.1 hv'.1, fun w' hw' => ?_⟩
      rw [par_add hu'.1 hv'.1 (h w' (List.mem_cons_of_mem _ hw')), hu'.2 w' hw', hv'.2 w' hw']
      rfl
/-- all products of some words -/
def span (n : Nat) (ws : List Wd) : List Wd := ws.foldl (fun f w => f ++ f.map fun u => xw u w) [zw n]
theorem span_snoc {n : Nat} {ws : List Wd} {w : Wd} : span n (ws ++ [w]) = span n ws ++ (span n ws).map fun u => xw u w := by
  unfold span
  rw [List.foldl_append] <;> rfl
theorem span_count : ∀ (ws : List Wd) (f : List Wd), (ws.foldl (fun f w => f ++ f.map fun u => xw u w) f).length = 2 ^ ws.length * f.length
  | [], f => by simp
  | w :: ws, f => by
    rw [List.foldl_cons, span_count ws, List.length_append, List.length_map, List.length_cons, Nat.pow_succ, Nat.mul_assoc]
    congr 1
    omega
/-- there is a word apart from the products, and it goes together with all -/
theorem free_word {n : Nat} {ws : List Wd} (h : ∀ w ∈ ws, w.length = n) (k : ws.length < n) : ∃ u : Wd, u.length = n ∧ u ∉ span n ws ∧ ∀ w ∈ ws, par u w = false := by
  apply Classical.byContradiction
  intro hn
  have sub : ∀ u ∈ goes n ws, u ∈ span n ws := fun u hu => by
    apply Classical.byContradiction
    intro hs
    obtain ⟨h1, h2⟩ := goes_mem.mp hu
    exact hn ⟨u, h1, hs, h2⟩
  obtain ⟨c, nd⟩ := goes_len (n := n) h
  have le := nodup_le nd sub
  have e : (span n ws).length = 2 ^ ws.length := by
    unfold span
    rw [span_count, List.length_singleton, Nat.mul_one]
  rw [e] at le
  have c2 : 4 ^ n ≤ 2 ^ ws.length * 2 ^ ws.length := Nat.le_trans c (Nat.mul_le_mul_left _ le)
  rw [← Nat.pow_add, show (4 : Nat) = 2 ^ 2 from rfl, ← Nat.pow_mul] at c2
  have := (Nat.pow_le_pow_iff_right (by decide : 1 < 2)).mp c2
  omega
/-! ### independence, told in two ways -/
theorem span_lens {n : Nat} : ∀ {ws : List Wd} {f : List Wd}, (∀ w ∈ ws, w.length = n) → (∀ u ∈ f, u.length = n) → ∀ u ∈ ws.foldl (fun f w => f ++ f.map fun u => xw u w) f, u.length = n
  | [], f, _, hf, u, hu => hf u hu
  | w :: ws, f, h, hf, u, hu => by
    rw [List.foldl_cons] at hu
    refine span_lens (fun w hw => h w (List.mem_cons_of_mem _ hw)) (fun v hv => ?_) u hu
    rcases List.mem_append.mp hv with hv | hv
    · exact hf v hv
    · obtain ⟨v', hv', rfl⟩ := List.mem_map.mp hv
      exact xw_len (hf v' hv') (h w (by simp))
theorem span_len {n : Nat} {ws : List Wd} (h : ∀ w ∈ ws, w.length = n) : ∀ u ∈ span n ws, u.length = n :=
  span_lens h fun u hu => by
    rw [List.mem_singleton] at hu
    subst hu
    simp [zw]
theorem foldl_ne : ∀ (ws : List Wd) (f : List Wd), f ≠ [] → ws.foldl (fun f w => f ++ f.map fun u => xw u w) f ≠ []
  | [], _, h => h
  | w :: ws, f, h => by
    rw [List.foldl_cons]
    refine foldl_ne ws _ fun e => h (List.append_eq_nil_iff.mp e).1
theorem span_ne {n : Nat} {ws : List Wd} : span n ws ≠ [] := foldl_ne ws _ (by simp)
/-- each word is apart from the products of those ahead of it -/
def apart (n : Nat) (ws : List Wd) : Prop := ∀ k (hk : k < ws.length), ws[k] ∉ span n (ws.take k)
theorem apart_snoc {n : Nat} {ws : List Wd} {w : Wd} : apart n (ws ++ [w]) ↔ apart n ws ∧ w ∉ span n ws := by
  unfold apart
  constructor
  · intro h
    refine ⟨fun k hk => ?_, ?_⟩
    · have := h k (by simp; omega)
      rw [List.getElem_append_left hk, List.take_append_of_le_length (by omega)] at this
      exact this
    · have := h ws.length (by simp)
      rw [List.getElem_append_right (by omega), List.take_append_of_le_length (by omega), List.take_length] at this
      simpa using this
  · rintro ⟨h1, h2⟩ k hk
    by_cases hk' : k < ws.length
    · rw [List.getElem_append_left hk', List.take_append_of_le_length (by omega)]
      exact h1 k hk'
    · have e : k = ws.length := by simp at hk; omega
      subst e
      rw [List.getElem_append_right (by omega), List.take_append_of_le_length (by omega), List.take_length]
      simpa using h2
theorem snoc_rec {P : List Wd → Prop} (h0 : P []) (h1 : ∀ ws w, P ws → P (ws ++ [w])) (ws : List Wd) : P ws := by
  have go : ∀ l : List Wd, P l.reverse := fun l => by
    induction l with
    | nil => exact h0
    | cons a l ih => rw [List.reverse_cons]; exact h1 _ _ ih
  have := go ws.reverse
  rwa [List.reverse_reverse] at this
theorem tail_apart {n : Nat} : ∀ ws : List Wd, (∀ w ∈ ws, w.length = n) → ((∀ u ∈ (span n ws).tail, u ≠ zw n) ↔ apart n ws) := by
  intro ws
  refine snoc_rec (P := fun ws => (∀ w ∈ ws, w.length = n) → ((∀ u ∈ (span n ws).tail, u ≠ zw n) ↔ apart n ws)) (fun _ => by simp [span, apart]) (fun ws w ih h => ?_) ws
  have hw : w.length = n := h w (by simp)
  have hws : ∀ v ∈ ws, v.length = n := fun v hv => h v (by simp [hv])
  rw [span_snoc, apart_snoc, ← ih hws]
  have e : (span n ws ++ (span n ws).map fun u => xw u w).tail = (span n ws).tail ++ (span n ws).map fun u => xw u w := by
    cases hs : span n ws with
    | nil => exact absurd hs span_ne
    | cons a l => rfl
  rw [e]
  constructor
  · intro q
    refine ⟨fun u hu => q u (List.mem_append_left _ hu), fun hin => ?_⟩
    exact q (xw w w) (List.mem_append_right _ (List.mem_map.mpr ⟨w, hin, rfl⟩)) (xw_self hw)
  · rintro ⟨q1, q2⟩ u hu
    rcases List.mem_append.mp hu with hu | hu
    · exact q1 u hu
    · obtain ⟨v, hv, rfl⟩ := List.mem_map.mp hu
      intro e
      exact q2 ((xw_eq (span_len hws v hv) hw).mp e ▸ hv)
end Ow

namespace Ow
open PySem PyProof.Rows PySem.Spec L2
theorem okL_ii (a b : Int) : okL (.int a) (.int b) = true := by
  simp [okL, okC, PyData.plain, PyData.depth, PySem.W.alike]
theorem okC_ii (a b : Int) : okC (.int a) (.int b) = true := by
  simp [okC, PyData.plain, PyData.depth]
@[simp] theorem dLt_ii (a b : Int) : dLt (.int a) (.int b) = some (.bool (decide (a < b)), false) := by
  rw [dLt, if_pos (okL_ii a b), PySem.W.dataLt_int]
@[simp] theorem dGt_ii (a b : Int) : dGt (.int a) (.int b) = some (.bool (decide (b < a)), false) := by
  rw [dGt, if_pos (okL_ii a b), PySem.W.dataLt_int]
@[simp] theorem dLe_ii (a b : Int) : dLe (.int a) (.int b) = some (.bool (decide (a ≤ b)), false) := by
  rw [dLe, if_pos (okL_ii a b), PySem.W.dataLt_int]
  congr 3
  by_cases h : a ≤ b
  · simp [h]
  · simp [h, Int.not_le.mp h]
@[simp] theorem dGe_ii (a b : Int) : dGe (.int a) (.int b) = some (.bool (decide (b ≤ a)), false) := by
  rw [dGe, if_pos (okL_ii a b), PySem.W.dataLt_int]
  congr 3
  by_cases h : b ≤ a
  · simp [h]
  · simp [h, Int.not_le.mp h]
@[simp] theorem dEq_ii (a b : Int) : dEq (.int a) (.int b) = some (.bool (decide (a = b)), false) := by
  rw [dEq, if_pos (okC_ii a b)]
  simp only [PyData.eqv]
  congr 3
@[simp] theorem dNe_ii (a b : Int) : dNe (.int a) (.int b) = some (.bool (decide (a ≠ b)), false) := by
  rw [dNe, if_pos (okC_ii a b)]
  simp only [PyData.eqv]
  congr 3
  by_cases h : a = b <;> simp [h]
@[simp] theorem bind_ok {α β : Type} (a : α) (ρ : AE) (f : α → AE → Res β) : (Res.ok a ρ).bind f = f a ρ := rfl
@[simp] theorem sb_ok {α : Type} (a : α) (ρ : AE) (f : α → AE → SR) : (Res.ok a ρ).sb f = f a ρ := rfl
@[simp] theorem sat_ok {α : Type} (a : α) (ρ : AE) (P : α → AE → Prop) : Sat (Res.ok a ρ) P = P a ρ := rfl
@[simp] theorem ssat_nx (ρ : AE) (w : Wp) : SSat (SR.nx ρ) w = w.nx ρ := rfl
@[simp] theorem ssat_rt (d fl) (ρ : AE) (w : Wp) : SSat (SR.ret d fl ρ) w = w.rt d fl ρ := rfl
@[simp] theorem still_none (d : D) (ρ : AE) : still none d ρ = true := rfl
@[simp] theorem next_nx (P : AE → Prop) (w : Wp) : (w.next P).nx = P := rfl
@[simp] theorem next_rt (P : AE → Prop) (w : Wp) : (w.next P).rt = w.rt := rfl
@[simp] theorem next_ex (P : AE → Prop) (w : Wp) : (w.next P).ex = w.ex := rfl
def Bx (d : D) : Prop := ∃ a b : Int, 0 ≤ a ∧ 0 ≤ b ∧ d = .list [.int a, .int b]
theorem atI_0 {α : Type} (a : α) (l : List α) : atI (a :: l) 0 = some a := by
  simp [atI, ixN]
theorem atI_1 {α : Type} (a b : α) (l : List α) : atI (a :: b :: l) 1 = some b := by
  simp [atI, ixN, show (1 : Int) < l.length + 1 + 1 by omega]
theorem draw_ok {d : D} {m : Int} (h : Bx d) (hm : 0 < m) (hm2 : m < 2 ^ 30) : FSat (_law_draw_S [d, .int m]) (fun r fl outs => ∃ n : Int, r = .int n ∧ fl = false ∧ 0 ≤ n ∧ n < m ∧ ∃ d', Bx d' ∧ outs = [d', .none]) (fun _ => False) := by
  obtain ⟨a, b, ha, hb, rfl⟩ := h
  have hm0 : m ≠ 0 := by omega
  have hml : m.natAbs.log2 < 9000 := by
    rcases Nat.eq_zero_or_pos m.natAbs with h | h
    · simp [h]
    · rw [Nat.log2_lt (by omega)]
      calc m.natAbs < 2 ^ 30 := by omega
        _ ≤ 2 ^ 9000 := Nat.pow_le_pow_right (by decide) (by decide)
  refine fsat_run rfl ?_
  show SSat (_law_draw_F [.ino (.list [.int a, .int b]), .val (.int m), .non]) _
  unfold _law_draw_F
  refine ssat_seq (ssat_if ?_)
  simp [tVal, eBin, oOf, oVar, eCon, dIx, atI_0, still]
  split
  · rename_i h0
    refine ssat_seq (ssat_asg ?_)
    simp [tVal, eBin, oOf, oVar, eCon, dIx, atI_0, still, dMod, hm0, isNoIno, slotOf]
    refine ssat_seq ?_
    simp [sSub, stSub, tVal, eBin, oOf, oVar, eCon, dIx, atI_0, still, dDiv, hm0, hml, isOwnL, putL, setD, ixN]
    refine ssat_ret ?_
    simp [eOps, oList, stills, oVar, still, dInt, inoStill, isIno, outsOf, List.range_succ, inoD]
    exact ⟨Int.fmod_nonneg ha (by omega), Int.fmod_lt_of_pos _ hm, _, _, Int.fdiv_nonneg ha (by omega), hb, rfl⟩
  · rename_i h0
    simp only [sNx, ssat_nx, next_nx]
    refine ssat_seq ?_
    have q : (0 : Int) ≤ (b * 48271 + 12345).fmod 2147483647 := Int.fmod_nonneg (by omega) (by decide)
    have q2 := Int.fmod_lt_of_pos ((b * 48271 + 12345)) (b := 2147483647) (by decide)
    simp [sSub, stSub, tVal, eBin, oOf, oVar, eCon, dIx, atI_0, atI_1, still, eOps, oList, stills, dMul, mulOk, dAdd, dInt, dDiv, dMod, hm0, hml, isOwnL, putL, setD, ixN]
    refine ssat_ret ?_
    simp [eOps, oList, stills, oVar, still, eBin, oOf, eCon, dIx, atI_0, atI_1, dDiv, dMod, dInt, inoStill, isIno, outsOf, List.range_succ, inoD]
    simp [show Nat.log2 64 < 9000 by decide, stills, still, hm0]
    exact ⟨Int.fmod_nonneg (Int.fdiv_nonneg q (by decide)) (by omega), Int.fmod_lt_of_pos _ hm, _, _, ha, q, rfl⟩
def isInt (d : D) : Prop := ∃ n : Int, d = .int n
theorem atI_map {α β : Type} (f : α → β) (l : List α) (i : Int) : atI (l.map f) i = (atI l i).map f := by
  simp [atI]
  cases ixN l.length i <;> simp
theorem atI_lt {α : Type} {l : List α} {i : Int} (h0 : 0 ≤ i) (h : i < l.length) : ∃ a, atI l i = some a ∧ a ∈ l := by
  have e : ixN l.length i = some i.toNat := by simp [ixN, h0, h]
  have hl : i.toNat < l.length := by omega
  refine ⟨l[i.toNat], ?_, List.getElem_mem hl⟩
  simp [atI, e, hl]
theorem cell_ok {ns : List Int} {k : Int} (hk : 0 ≤ k) : FSat (_law_cell_S [.list (ns.map PyData.int), .int k]) (fun r fl outs => ∃ n : Int, r = .int n ∧ fl = false) (fun _ => False) := by
  refine fsat_run rfl ?_
  show SSat (_law_cell_F [.val (.list (ns.map PyData.int)), .val (.int k)]) _
  unfold _law_cell_F
  refine ssat_ret ?_
  by_cases h : k < ns.length
  · obtain ⟨n, e, _⟩ := atI_lt hk h
    simp [eIte, tVal, eBin, oVar, still, oOf, eOps, oList, stills, dLen, h, dIx, atI_map, e, dInt, inoStill, List.range_succ]
  · simp [eIte, tVal, eBin, oVar, still, oOf, eOps, oList, stills, dLen, h, eCon, inoStill, List.range_succ]
theorem stream_ok {ns : List Int} {k : Int} (hk : 0 ≤ k) : FSat (_law_stream_S [.list (ns.map PyData.int), .int k]) (fun r fl outs => Bx r ∧ fl = true) (fun _ => False) := by
  refine fsat_run rfl ?_
  show SSat (_law_stream_F [.val (.list (ns.map PyData.int)), .val (.int k)]) _
  unfold _law_stream_F
  refine ssat_ret ?_
  have c : ∀ ρ : AE, ρ = [.val (.list (ns.map PyData.int)), .val (.int k)] → ∃ n : Int, eCall _law_cell_S [.val (eVar 0), .val (eVar 1)] ρ = .ok (.int n, false) ρ := by
    rintro ρ rfl
    have : Sat (eCall _law_cell_S [.val (eVar 0), .val (eVar 1)] [.val (.list (ns.map PyData.int)), .val (.int k)]) fun p ρ1 => ∃ n : Int, p = (.int n, false) ∧ ρ1 = [.val (.list (ns.map PyData.int)), .val (.int k)] := by
      refine sat_callV ?_
      simp [evArgs, eVar]
      refine ⟨by rintro a b (⟨rfl, rfl⟩ | ⟨rfl, rfl⟩) <;> rfl, (cell_ok hk).imp (fun d fl os q => ?_) fun _ h => h⟩
      obtain ⟨n, h1, h2⟩ := q
      exact ⟨⟨n, h1⟩, h2⟩
    obtain ⟨p, ρ1, e, n, rfl, rfl⟩ := this.get
    exact ⟨n, e⟩
  obtain ⟨n, e⟩ := c _ rfl
  have m0 : ∀ n : Int, 0 ≤ (if n < 0 then -n else n) := fun n => by split <;> omega
  have m1 := Int.fmod_nonneg (m0 n) (b := 1000003) (by decide)
  simp [eLst, eList, eOps, oList, oOf, e, stills, dAbs, eBin, eCon, still, dMod, dAdd, inoStill, List.range_succ]
  exact ⟨_, _, m0 n, by omega, rfl⟩
/-! ### comprehensions that change nothing -/
def quiet : Option Slot → Prop
  | some .non => True
  | some (.val _) => True
  | _ => False
theorem set_same {ρ : AE} {i : Nat} {s : Slot} (h : ρ[i]? = some s) : ρ.set i s = ρ := by
  apply List.ext_getElem?
  intro j
  by_cases e : i = j
  · subst e
    rw [List.getElem?_set_self (List.getElem?_eq_some_iff.mp h).1, h]
  · rw [List.getElem?_set_ne e]
theorem compGo_pure {i : Nat} {tt : EvT} {el : EvE} {bs : Src} {ρ : AE} {p : D → Bool} {g : D → D × Bool} (h : ρ[i]? = some .non) (hs : stills bs ρ = true) : ∀ (ds acc : List D), (∀ d ∈ ds, tt (ρ.set i (.val d)) = .ok (p d) (ρ.set i (.val d))) → (∀ d ∈ ds, p d = true → el (ρ.set i (.val d)) = .ok (g d) (ρ.set i (.val d))) →
    compGo [i] (.name i) tt el bs ds ρ acc = .ok (acc ++ (ds.filter p).map fun d => (g d).1) ρ
  | [], acc, _, _ => by simp [compGo, hs]
  | d :: ds, acc, ht, he => by
    have hb : bindT (.name i) d ρ = some (ρ.set i (.val d)) := by simp [bindT, h]
    have hw : wipeA [i] (ρ.set i (.val d)) = ρ := by
      simp only [wipeA, List.set_set]
      exact set_same h
    have ih := fun acc => compGo_pure (p := p) (g := g) h hs ds acc (fun d hd => ht d (List.mem_cons_of_mem _ hd)) fun d hd => he d (List.mem_cons_of_mem _ hd)
    unfold compGo
    rw [if_pos hs, hb]
    simp only [ht d (by simp), nox, bind_ok]
    cases hp : p d with
    | true =>
      rw [if_pos rfl, he d (by simp) hp]
      simp only [nox, bind_ok, hw, ih]
      simp [hp]
    | false => simp [hw, ih, hp]
theorem eComp_pure {i : Nat} {it : EvI} {tt : EvT} {el : EvE} {bs : Src} {ρ : AE} {ds : List D} (p : D → Bool) (g : D → D × Bool) (hi : it ρ = .ok (ds, bs) ρ) (h : quiet ρ[i]?) (hs : stills bs (ρ.set i .non) = true)
    (ht : ∀ d ∈ ds, tt (ρ.set i (.val d)) = .ok (p d) (ρ.set i (.val d))) (he : ∀ d ∈ ds, p d = true → el (ρ.set i (.val d)) = .ok (g d) (ρ.set i (.val d))) : eComp [i] it (.name i) tt el ρ = .ok (.list ((ds.filter p).map fun d => (g d).1), true) ρ := by
  have hl : i < ρ.length := by
    cases e : ρ[i]? with
    | none => rw [e] at h; exact h.elim
    | some s => exact (List.getElem?_eq_some_iff.mp e).1
  have hn : (ρ.set i .non)[i]? = some Slot.non := by simp [hl]
  have q : compGo [i] (.name i) tt el bs ds (ρ.set i .non) [] = .ok ((ds.filter p).map fun d => (g d).1) (ρ.set i .non) := by
    have := compGo_pure (tt := tt) (el := el) (bs := bs) (p := p) (g := g) hn hs ds [] (fun d hd => by simpa using ht d hd) fun d hd hp => by simpa using he d hd hp
    simpa using this
  unfold eComp
  rw [hi]
  simp only [bind_ok, wipeA]
  rw [q]
  simp only [bind_ok, restA]
  cases e : ρ[i]? with
  | none => rw [e] at h; exact h.elim
  | some s =>
    cases s with
    | non => simp only [List.set_set]; rw [set_same e]
    | val d => simp only [List.set_set]; rw [set_same e]
    | _ => rw [e] at h; exact h.elim
theorem filt_true {α : Type} : ∀ l : List α, l.filter (fun _ => true) = l
  | [] => rfl
  | a :: l => by simp only [List.filter, filt_true l]
theorem eComp_map {i : Nat} {it : EvI} {el : EvE} {bs : Src} {ρ : AE} {ds : List D} (g : D → D × Bool) (hi : it ρ = .ok (ds, bs) ρ) (h : quiet ρ[i]?) (hs : stills bs (ρ.set i .non) = true)
    (he : ∀ d ∈ ds, el (ρ.set i (.val d)) = .ok (g d) (ρ.set i (.val d))) : eComp [i] it (.name i) tTrue el ρ = .ok (.list (ds.map fun d => (g d).1), true) ρ := by
  have := eComp_pure (tt := tTrue) (el := el) (fun _ => true) g hi h hs (fun d _ => rfl) fun d hd _ => he d hd
  rw [this, filt_true]
/-! ### rows of the law -/
theorem dAll_map {l : List D} {q : D → Bool} : dAll [.list (l.map fun d => .bool (q d))] = some (.bool (l.all q), false) := by
  simp [dAll, isBoolD, PyData.truthy, List.all_map, Function.comp_def]
theorem dAny_map {l : List D} {q : D → Bool} : dAny [.list (l.map fun d => .bool (q d))] = some (.bool (l.any q), false) := by
  simp [dAny, isBoolD, PyData.truthy, List.all_map, List.any_map, Function.comp_def]
def isI : D → Bool
  | .int _ => true
  | _ => false
def Leaf : D → Prop
  | .int n => -(2 ^ 20) < n ∧ n < 2 ^ 20
  | .str x => x = "schema" ∨ x = "0" ∨ x = "1" ∨ x = "2"
  | .none => True
  | _ => False
theorem isi_leaf {d : D} (h : Leaf d) : dIsi "int" d = some (.bool (isI d), false) := by
  cases d <;> first | rfl | exact h.elim
theorem call_eq {sem : Fun} {as : List EvA} {ps : List (D × Option Nat)} {ρ ρ1 : AE} {a : D} {b : Bool} (h : evArgs as ρ = .ok ps ρ1) (hn : ∀ p ∈ ps, p.2 = none) (hf : FSat (sem (ps.map (·.1))) (fun r fl _ => r = a ∧ fl = b) fun _ => False) : eCall sem as ρ = .ok (a, b) ρ1 := by
  have : Sat (eCall sem as ρ) fun p ρ2 => p = (a, b) ∧ ρ2 = ρ1 := sat_callV (by rw [h]; exact ⟨hn, hf.imp (fun d fl os q => ⟨by rw [q.1, q.2], rfl⟩) fun _ q => q⟩)
  obtain ⟨p, ρ2, e, rfl, rfl⟩ := this.get
  exact e
theorem call1_eq {sem : Fun} {f : EvE} {ρ : AE} {p : D × Bool} {a : D} {b : Bool} (h : f ρ = .ok p ρ) (hf : FSat (sem [p.1]) (fun r fl _ => r = a ∧ fl = b) fun _ => False) : eCall sem [.val f] ρ = .ok (a, b) ρ :=
  call_eq (ps := [(p.1, none)]) (by simp [evArgs, h]) (by simp) hf
theorem call2_eq {sem : Fun} {f g : EvE} {ρ : AE} {p q : D × Bool} {a : D} {b : Bool} (h : f ρ = .ok p ρ) (h2 : g ρ = .ok q ρ) (hf : FSat (sem [p.1, q.1]) (fun r fl _ => r = a ∧ fl = b) fun _ => False) : eCall sem [.val f, .val g] ρ = .ok (a, b) ρ :=
  call_eq (ps := [(p.1, none), (q.1, none)]) (by simp [evArgs, h, h2]) (by simp) hf
/-! ### rules for what a combinator answers, one each -/
section
variable {α β : Type} {w : Wp} {ρ : AE}
theorem sat_oOf {f : EvE} {P : D × Option Nat → AE → Prop} (h : Sat (f ρ) fun p ρ' => P (p.1, none) ρ') : Sat (oOf f ρ) P := Sat.bind h
theorem sat_bin {op : D → D → Option (D × Bool)} {fa fb : EvO} {P : D × Bool → AE → Prop} (h : Sat (fa ρ) fun p ρ1 => Sat (fb ρ1) fun q ρ2 => still p.2 p.1 ρ2 = true ∧ ∃ r, op p.1 q.1 = some r ∧ P r ρ2) : Sat (eBin op fa fb ρ) P :=
  Sat.bind (h.imp fun p ρ1 h1 => Sat.bind (h1.imp fun q ρ2 ⟨h2, r, e, h3⟩ => by rw [if_pos h2, e]; exact h3))
theorem sat_un {op : D → Option (D × Bool)} {fa : EvO} {P : D × Bool → AE → Prop} (h : Sat (fa ρ) fun p ρ1 => ∃ r, op p.1 = some r ∧ P r ρ1) : Sat (eUn op fa ρ) P :=
  Sat.bind (h.imp fun p ρ1 ⟨r, e, h3⟩ => by rw [e]; exact h3)
theorem sat_tval {f : EvE} {P : Bool → AE → Prop} (h : Sat (f ρ) fun p ρ' => ∃ b, p.1 = .bool b ∧ P b ρ') : Sat (tVal f ρ) P :=
  Sat.bind (h.imp fun p ρ1 ⟨b, e, h3⟩ => by rw [e]; exact h3)
theorem sat_and {f g : EvT} {P : Bool → AE → Prop} (h : Sat (f ρ) fun b ρ' => if b then Sat (g ρ') P else P false ρ') : Sat (tAnd2 f g ρ) P :=
  Sat.bind (h.imp fun b ρ1 h3 => by cases b <;> exact h3)
theorem sat_or {f g : EvT} {P : Bool → AE → Prop} (h : Sat (f ρ) fun b ρ' => if b then P true ρ' else Sat (g ρ') P) : Sat (tOr2 f g ρ) P :=
  Sat.bind (h.imp fun b ρ1 h3 => by cases b <;> exact h3)
theorem sat_not {f : EvT} {P : Bool → AE → Prop} (h : Sat (f ρ) fun b ρ' => P (!b) ρ') : Sat (tNot1 f ρ) P := Sat.bind h
theorem sat_ite {t : EvT} {f g : EvE} {P : D × Bool → AE → Prop} (h : Sat (t ρ) fun b ρ' => if b then Sat (f ρ') P else Sat (g ρ') P) : Sat (eIte t f g ρ) P :=
  Sat.bind (h.imp fun b ρ1 h3 => by cases b <;> exact h3)
theorem sat_ol_nil {P : List (D × Option Nat) → AE → Prop} (h : P [] ρ) : Sat (oList [] ρ) P := h
theorem sat_ol {f : EvO} {fs : List EvO} {P : List (D × Option Nat) → AE → Prop} (h : Sat (f ρ) fun p ρ1 => Sat (oList fs ρ1) fun ps ρ2 => P (p :: ps) ρ2) : Sat (oList (f :: fs) ρ) P :=
  Sat.bind (h.imp fun p ρ1 h1 => Sat.bind h1)
theorem sat_ops {op : List D → Option (D × Bool)} {fs : List EvO} {P : D × Bool → AE → Prop} (h : Sat (oList fs ρ) fun ps ρ' => stills ps ρ' = true ∧ ∃ r, op (ps.map (·.1)) = some r ∧ P r ρ') : Sat (eOps op fs ρ) P :=
  Sat.bind (h.imp fun ps ρ1 ⟨h2, r, e, h3⟩ => by rw [if_pos h2, e]; exact h3)
theorem sat_op1 {op : List D → Option (D × Bool)} {f : EvO} {P : D × Bool → AE → Prop} (h : Sat (f ρ) fun p ρ' => still p.2 p.1 ρ' = true ∧ ∃ r, op [p.1] = some r ∧ P r ρ') : Sat (eOps op [f] ρ) P :=
  sat_ops (sat_ol (h.imp fun p ρ1 ⟨h2, r, e, h3⟩ => ⟨by simp [stills, h2], r, e, h3⟩))
theorem sat_el_nil {P : List D → AE → Prop} (h : P [] ρ) : Sat (eList [] ρ) P := h
theorem sat_el {f : EvE} {fs : List EvE} {P : List D → AE → Prop} (h : Sat (f ρ) fun p ρ1 => Sat (eList fs ρ1) fun ps ρ2 => P (p.1 :: ps) ρ2) : Sat (eList (f :: fs) ρ) P :=
  Sat.bind (h.imp fun p ρ1 h1 => Sat.bind h1)
theorem sat_tup {fs : List EvE} {P : D × Bool → AE → Prop} (h : Sat (eList fs ρ) fun ds ρ' => P (.tuple ds, false) ρ') : Sat (eTup fs ρ) P := Sat.bind h
theorem sat_lst {fs : List EvE} {P : D × Bool → AE → Prop} (h : Sat (eList fs ρ) fun ds ρ' => P (.list ds, true) ρ') : Sat (eLst fs ρ) P := Sat.bind h
theorem sat_rg1 {f : EvO} {P : List D × Src → AE → Prop} (h : Sat (f ρ) fun p ρ' => ∃ j : Int, p.1 = .int j ∧ 0 ≤ j ∧ j < 2 ^ 20 ∧ P (rangeD 0 j.toNat, []) ρ') : Sat (iRange1 f ρ) P := by
  unfold iRange1
  refine Sat.bind (h.imp fun p ρ1 ⟨j, e, h0, h1, h3⟩ => ?_)
  rw [e]
  show Sat (if _ then _ else _) _
  rw [if_pos ⟨by omega, by omega⟩]
  exact h3
theorem ssat_forS {as : List Nat} {it : EvI} {tg : Tg} {f : StF} (h : Sat (it ρ) fun p ρ0 => freeOf as p.2 = true ∧ SSat (forGo p.2 tg f p.1 ρ0) w) : SSat (sFor as it tg f ρ) w :=
  Sat.sb (h.imp fun p ρ0 ⟨h1, h2⟩ => by rw [if_pos h1]; exact h2)
theorem ssat_asgT {t : Tg} {f : EvE} (h : Sat (f ρ) fun p ρ' => ∃ ρ2, bindT t p.1 ρ' = some ρ2 ∧ w.nx ρ2) : SSat (sAsgT t f ρ) w :=
  Sat.sb (h.imp fun p ρ' ⟨ρ2, e, h2⟩ => by rw [e]; exact h2)
theorem ssat_app {i : Nat} {f : EvE} {ds : List D} (hi : ρ[i]? = some (.own (.list ds))) (h : Sat (f ρ) fun p ρ' => ∃ ds', ρ'[i]? = some (.own (.list ds')) ∧ ds'.length < 2 ^ 20 ∧ w.nx (ρ'.set i (.own (.list (ds' ++ [p.1]))))) : SSat (sApp i f ρ) w := by
  unfold sApp
  rw [if_pos (by simp [isOwnL, hi])]
  refine Sat.sb (h.imp fun p ρ' ⟨ds', e, hl, h2⟩ => ?_)
  have hs : ds'.length < sizeLine := Nat.lt_trans hl (by decide)
  have : putL i (appD p.1) ρ' = some (ρ'.set i (.own (.list (ds' ++ [p.1])))) := by
    simp [putL, e, appD, hs]
  rw [this]
  exact h2
theorem sat_eComp {own : List Nat} {it : EvI} {tg : Tg} {tt : EvT} {el : EvE} {P : D × Bool → AE → Prop} (h : Sat (it ρ) fun p ρ0 => Sat (compGo own tg tt el p.2 p.1 (wipeA own ρ0) []) fun acc ρ' => P (.list acc, true) (restA own ρ0 ρ')) : Sat (eComp own it tg tt el ρ) P :=
  Sat.bind (h.imp fun p ρ0 h1 => Sat.bind h1)
end
/-! ### draws -/
theorem sat_draw {i : Nat} {f : EvE} {ρ : AE} {s : Slot} {d : D} {m : Int} {fl : Bool} {P : D × Bool → AE → Prop} (hf : f ρ = .ok (.int m, fl) ρ) (hs : ρ[i]? = some s) (hd : slotD (some s) = some d) (hb : Bx d) (h0 : 0 < m) (h1 : m < 2 ^ 30)
    (h : ∀ (n : Int) (d' : D), 0 ≤ n → n < m → Bx d' → P (.int n, false) (ρ.set i (s.re d'))) : Sat (eCall _law_draw_S [.ref i, .val f] ρ) P := by
  refine sat_call2 (by rw [hs, hd]; rfl) ?_
  rw [hf]
  refine ⟨s, d, hs, hd, (draw_ok hb h0 h1).imp (fun r fl outs q => ?_) fun _ h => h⟩
  obtain ⟨n, rfl, rfl, h2, h3, d', h4, rfl⟩ := q
  exact h n d' h2 h3 h4
theorem sat_draw0 {f : EvE} {r : AE} {d : D} {m : Int} {fl : Bool} {P : D × Bool → AE → Prop} (hb : Bx d) (hf : f (.ino d :: r) = .ok (.int m, fl) (.ino d :: r)) (h0 : 0 < m) (h1 : m < 2 ^ 30)
    (h : ∀ (n : Int) (d' : D), 0 ≤ n → n < m → Bx d' → P (.int n, false) (.ino d' :: r)) : Sat (eCall _law_draw_S [.ref 0, .val f] (.ino d :: r)) P :=
  sat_draw hf rfl rfl hb h0 h1 h
/-- some of them, as it is drawn -/
theorem pick_ok {d : D} {r : AE} {i : Nat} {q : Int} {it : EvI} {ds : List D} {bs : Src} {P : D × Bool → AE → Prop} (hb : Bx d) (h0 : 0 < q) (h1 : q < 2 ^ 30) (hi : it (.ino d :: r) = .ok (ds, bs) (.ino d :: r)) (hbs : ∀ ρ, stills bs ρ = true) (hq : quiet r[i]?)
    (h : ∀ (d' : D) (l : List D), Bx d' → l.Sublist ds → P (.list l, true) (.ino d' :: r)) :
    Sat (eComp [i + 1] it (.name (i + 1)) (tVal (eBin dEq (oOf (eCall _law_draw_S [.ref 0, .val (eCon (.int q))])) (oOf (eCon (.int 0))))) (eVar (i + 1)) (.ino d :: r)) P := by
  have hl : i < r.length := by
    cases e : r[i]? with
    | none => rw [e] at hq; exact hq.elim
    | some s => exact (List.getElem?_eq_some_iff.mp e).1
  refine sat_eComp (Sat.of hi ?_)
  refine (sat_comp (P := fun acc ρ' => ∃ d', Bx d' ∧ acc.Sublist ds ∧ ρ' = .ino d' :: r.set i .non) (fun ds' ρ acc => ∃ d', Bx d' ∧ (acc ++ ds').Sublist ds ∧ ρ = .ino d' :: r.set i .non) ?_ ?_ ds _ [] ⟨d, hb, by simp, rfl⟩).imp ?_
  · rintro x ds' ρ acc ⟨d', hb', hs, rfl⟩
    refine ⟨hbs _, .ino d' :: r.set i (.val x), ?_, ?_⟩
    · simp [bindT, hl]
    · refine sat_tval (sat_bin (sat_oOf (sat_draw0 hb' rfl h0 h1 fun n d2 hn hm hb2 => ?_)))
      simp only [oOf, eCon, bind_ok, sat_ok, still_none, dEq_ii, true_and]
      refine ⟨_, rfl, _, rfl, ?_⟩
      have hw : wipeA [i + 1] (.ino d2 :: r.set i (.val x)) = .ino d2 :: r.set i .non := by simp [wipeA]
      cases decide (n = 0) with
      | true =>
        simp only [if_true]
        have : eVar (i + 1) (.ino d2 :: r.set i (.val x)) = .ok (x, false) (.ino d2 :: r.set i (.val x)) := by simp [eVar, hl]
        rw [this]
        exact ⟨d2, hb2, by simpa using hs, hw⟩
      | false =>
        simp only [Bool.false_eq_true, if_false]
        refine ⟨d2, hb2, ?_, hw⟩
        exact (List.Sublist.append (List.Sublist.refl acc) (List.sublist_cons_self x ds')).trans hs
  · rintro ρ acc ⟨d', hb', hs, rfl⟩
    exact ⟨hbs _, d', hb', by simpa using hs, rfl⟩
  · rintro acc ρ' ⟨d', hb', hs, rfl⟩
    have : restA [i + 1] (.ino d :: r) (.ino d' :: r.set i .non) = .ino d' :: r := by
      simp only [restA, List.getElem?_cons_succ]
      cases e : r[i]? with
      | none => rw [e] at hq; exact hq.elim
      | some s =>
        cases s with
        | non => simp [set_same e]
        | val x => simp [set_same e]
        | _ => rw [e] at hq; exact hq.elim
    rw [this]
    exact h d' acc hb' hs
theorem quiet_lt {ρ : AE} {i : Nat} (h : quiet ρ[i]?) : i < ρ.length := by
  cases e : ρ[i]? with
  | none => rw [e] at h; exact h.elim
  | some s => exact (List.getElem?_eq_some_iff.mp e).1
theorem small24 {n : List D} (hn : n.length < 64) : (n.length : Int) < 2 ^ 24 := by omega
theorem nat_len {n : List D} : ((n.length : Int)).toNat = n.length := by simp
theorem rng_len {ρ : AE} {f : EvO} {n : List D} (h : f ρ = .ok (.int n.length, none) ρ) (hn : n.length < 64) : iRange1 f ρ = .ok (rangeD 0 n.length, []) ρ := by
  have a1 := small24 hn
  have a2 : -(2 ^ 62) ≤ (n.length : Int) := by omega
  unfold iRange1
  rw [h]
  have e : ∀ j : Int, j < 2 ^ 24 → -(2 ^ 62) ≤ j → (Res.ok (PyData.int j, (none : Option Nat)) ρ).bind (fun p ρ' => match p.1 with | .int j => (if j < 2 ^ 24 ∧ -(2 ^ 62) ≤ j then .ok (rangeD 0 j.toNat, ([] : Src)) ρ' else .stuck) | _ => .stuck) = .ok (rangeD 0 j.toNat, []) ρ := fun j h1 h2 => by
    simp only [bind_ok]
    rw [if_pos ⟨h1, h2⟩]
  have := e _ a1 a2
  rw [nat_len] at this
  exact this
end Ow

namespace Ow
open PySem PyProof.Rows PySem.Spec L2
/-! ### comprehensions that change nothing, of any target -/
theorem compGo_any {α : Type} {own : List Nat} {tg : Tg} {tt : EvT} {el : EvE} {bs : Src} {ρ : AE} {f : α → D} {bnd : α → AE} {p : α → Bool} {g : α → D × Bool} (hs : stills bs ρ = true) : ∀ (L : List α) (acc : List D), (∀ x ∈ L, bindT tg (f x) ρ = some (bnd x) ∧ wipeA own (bnd x) = ρ ∧ tt (bnd x) = .ok (p x) (bnd x) ∧ (p x = true → el (bnd x) = .ok (g x) (bnd x))) →
    compGo own tg tt el bs (L.map f) ρ acc = .ok (acc ++ (L.filter p).map fun x => (g x).1) ρ
  | [], acc, _ => by simp [compGo, hs]
  | x :: L, acc, h => by
    obtain ⟨h1, h2, h3, h4⟩ := h x (by simp)
    have ih := fun acc => compGo_any (own := own) (tg := tg) (tt := tt) (el := el) (p := p) (g := g) hs L acc fun y hy => h y (List.mem_cons_of_mem _ hy)
    rw [List.map_cons]
    unfold compGo
    rw [if_pos hs, h1]
    simp only [h3, nox, bind_ok]
    cases hp : p x with
    | true =>
      rw [if_pos rfl, h4 hp]
      simp only [nox, bind_ok, h2, ih]
      simp [hp]
    | false => simp [h2, ih, hp]
theorem eComp_any {α : Type} {own : List Nat} {it : EvI} {tg : Tg} {tt : EvT} {el : EvE} {bs : Src} {ρ : AE} (L : List α) (f : α → D) (bnd : α → AE) (p : α → Bool) (g : α → D × Bool) (hi : it ρ = .ok (L.map f, bs) ρ) (hr : restA own ρ (wipeA own ρ) = ρ) (hs : stills bs (wipeA own ρ) = true)
    (h : ∀ x ∈ L, bindT tg (f x) (wipeA own ρ) = some (bnd x) ∧ wipeA own (bnd x) = wipeA own ρ ∧ tt (bnd x) = .ok (p x) (bnd x) ∧ (p x = true → el (bnd x) = .ok (g x) (bnd x))) : eComp own it tg tt el ρ = .ok (.list ((L.filter p).map fun x => (g x).1), true) ρ := by
  unfold eComp
  rw [hi]
  simp only [bind_ok]
  rw [compGo_any (f := f) (bnd := bnd) (p := p) (g := g) hs L [] h]
  simp only [bind_ok, hr, List.nil_append]
theorem eComp_all {α : Type} {own : List Nat} {it : EvI} {tg : Tg} {el : EvE} {bs : Src} {ρ : AE} (L : List α) (f : α → D) (bnd : α → AE) (g : α → D × Bool) (hi : it ρ = .ok (L.map f, bs) ρ) (hr : restA own ρ (wipeA own ρ) = ρ) (hs : stills bs (wipeA own ρ) = true)
    (h : ∀ x ∈ L, bindT tg (f x) (wipeA own ρ) = some (bnd x) ∧ wipeA own (bnd x) = wipeA own ρ ∧ el (bnd x) = .ok (g x) (bnd x)) : eComp own it tg tTrue el ρ = .ok (.list (L.map fun x => (g x).1), true) ρ := by
  have := eComp_any (tt := tTrue) (el := el) (own := own) (tg := tg) L f bnd (fun _ => true) g hi hr hs fun x hx => ⟨(h x hx).1, (h x hx).2.1, rfl, fun _ => (h x hx).2.2⟩
  rw [this, filt_true]
/-! ### words as data -/
abbrev sg (a : Sg) : D := .int (a.val : Int)
def wl (w : Wd) : List D := w.map sg
def wd (w : Wd) : D := .tuple (wl w)
def sd (s : Int) (w : Wd) : D := .tuple [.int s, wd w]
theorem sg4 : ∀ a : Sg, a = 0 ∨ a = 1 ∨ a = 2 ∨ a = 3 := by decide
theorem zip_wl : ∀ u v : Wd, zipD (wl u) (wl v) = (List.zip u v).map fun p => PyData.tuple [sg p.1, sg p.2]
  | [], _ => by simp [zipD, wl]
  | _ :: _, [] => by simp [zipD, wl]
  | a :: u, b :: v => by
    have ih := zip_wl u v
    unfold zipD wl at ih ⊢
    simp [ih]
theorem third_eq (a b : Sg) : third_S [sg a, sg b] = some (.ret (sg (x4 a b)) false [.none, .none]) := by
  rcases sg4 a with rfl | rfl | rfl | rfl <;> rcases sg4 b with rfl | rfl | rfl | rfl <;> rfl
/-- what a pair adds to the turns -/
def t4 (a b : Sg) : Int := if (a = 1 ∧ b = 2) ∨ (a = 2 ∧ b = 3) ∨ (a = 3 ∧ b = 1) then 1 else if (a = 2 ∧ b = 1) ∨ (a = 3 ∧ b = 2) ∨ (a = 1 ∧ b = 3) then -1 else 0
def tw : Wd → Wd → Int
  | a :: u, b :: v => t4 a b + tw u v
  | _, _ => 0
def tzip (L : List (Sg × Sg)) : Int := match L with
  | [] => 0
  | p :: L => t4 p.1 p.2 + tzip L
theorem tzip_eq : ∀ u v : Wd, tzip (List.zip u v) = tw u v
  | [], _ => by simp [tzip, tw]
  | _ :: _, [] => by simp [tzip, tw]
  | a :: u, b :: v => by simp [tzip, tw, tzip_eq u v]
theorem iff_seq {t : EvT} {f g h : StF} {ρ : AE} {b : Bool} (e : t ρ = .ok b ρ) : sIf t f g ρ = if b then f ρ else g ρ := by
  unfold sIf
  rw [e]
  rfl
/-- what a turn of the program's loop does -/
def turnB : StF := (sSeq (sIf (tVal (eBin dIn (oVar 3) (oOf (eTup [(eTup [(eCon (.int 1)), (eCon (.int 2))]), (eTup [(eCon (.int 2)), (eCon (.int 3))]), (eTup [(eCon (.int 3)), (eCon (.int 1))])])))) (sAug 2 (fun x y => x + y) (eCon (.int 1))) sNx) (sIf (tVal (eBin dIn (oVar 3) (oOf (eTup [(eTup [(eCon (.int 2)), (eCon (.int 1))]), (eTup [(eCon (.int 3)), (eCon (.int 2))]), (eTup [(eCon (.int 1)), (eCon (.int 3))])])))) (sAug 2 (fun x y => x - y) (eCon (.int 1))) sNx))
theorem turn_eq (a b : Sg) (d1 d2 : D) (n : Int) : turnB [.val d1, .val d2, .val (.int n), .val (.tuple [sg a, sg b])] = .nx [.val d1, .val d2, .val (.int (n + t4 a b)), .val (.tuple [sg a, sg b])] := by
  rcases sg4 a with rfl | rfl | rfl | rfl <;> rcases sg4 b with rfl | rfl | rfl | rfl <;> first | rfl | (show SR.nx _ = SR.nx _; simp [t4]; done) | skip
end Ow

namespace Ow
open PySem PyProof.Rows PySem.Spec L2
theorem xw_zip : ∀ u v : Wd, (List.zip u v).map (fun p => x4 p.1 p.2) = xw u v
  | [], _ => by simp [xw]
  | _ :: _, [] => by simp [xw]
  | a :: u, b :: v => by simp [xw, xw_zip u v]
theorem pair_ix0 (d e : D) : dIx (.tuple [d, e]) (.int 0) = some (d, false) := by simp [dIx, atI_0]
theorem pair_ix1 (d e : D) : dIx (.tuple [d, e]) (.int 1) = some (e, false) := by simp [dIx, atI_1]
theorem turns_sem {u v : Wd} : FSat (turns_S [wd u, wd v]) (fun r fl outs => r = .int (tw u v) ∧ fl = false) (fun _ => False) := by
  refine fsat_run rfl ?_
  show SSat (turns_F [.val (wd u), .val (wd v), .non, .non]) _
  unfold turns_F
  refine ssat_seq (ssat_asg (Sat.of rfl ⟨rfl, ?_⟩))
  have e : iZipT (oVar 0) (oVar 1) [.val (wd u), .val (wd v), .val (.int 0), .non] = .ok ((List.zip u v).map (fun p => PyData.tuple [sg p.1, sg p.2]), [(wd u, none), (wd v, none)]) [.val (wd u), .val (wd v), .val (.int 0), .non] := by
    rw [← zip_wl] <;> rfl
  refine ssat_seq (ssat_forS (Sat.of e ⟨rfl, ?_⟩))
  refine ssat_for (fun ds ρ => ∃ (L : List (Sg × Sg)) (n : Int) (s : Slot), ds = L.map (fun p => PyData.tuple [sg p.1, sg p.2]) ∧ n + tzip L = tw u v ∧ ρ = [.val (wd u), .val (wd v), .val (.int n), s] ∧ quiet (some s)) ?_ ?_ _ _ ⟨List.zip u v, 0, .non, rfl, by rw [tzip_eq]; omega, rfl, trivial⟩
  · rintro d ds ρ ⟨L, n, s, hd, hn, rfl, hs⟩
    refine ⟨rfl, ?_⟩
    cases L with
    | nil => cases hd
    | cons p L =>
      cases hd
      refine ⟨[.val (wd u), .val (wd v), .val (.int n), .val (.tuple [sg p.1, sg p.2])], ?_, ?_⟩
      · cases s <;> first | rfl | exact hs.elim
      · show SSat (turnB _) _
        rw [turn_eq]
        exact ⟨L, n + t4 p.1 p.2, _, rfl, by rw [← hn]; simp only [tzip]; omega, rfl, trivial⟩
  · rintro ρ ⟨L, n, s, hd, hn, rfl, hs⟩
    refine ⟨rfl, ?_⟩
    cases L with
    | cons p L => cases hd
    | nil =>
      simp only [tzip] at hn
      simp only [next_nx]
      exact ssat_ret (Sat.of (a := (PyData.int n, false)) (ρ' := [.val (wd u), .val (wd v), .val (.int n), s]) rfl ⟨rfl, by rw [show n = tw u v by omega], rfl⟩)
/-- the product's sign -/
def sgn (s : Int) (u : Wd) (t : Int) (v : Wd) : Int := (s + t + (tw u v).fdiv 2).fmod 2
theorem product_ok {s t : Int} {u v : Wd} : FSat (product_S [sd s u, sd t v]) (fun r fl outs => r = sd (sgn s u t v) (xw u v) ∧ fl = false) (fun _ => False) := by
  refine fsat_run rfl ?_
  show SSat (product_F [.val (sd s u), .val (sd t v), .non, .non, .non]) _
  unfold product_F
  have i0 : iZip (oOf (eBin dIx (oVar 0) (oOf (eCon (.int 1))))) (oOf (eBin dIx (oVar 1) (oOf (eCon (.int 1))))) [.val (sd s u), .val (sd t v), .non, .non, .non] = .ok ((List.zip u v).map (fun p => PyData.tuple [sg p.1, sg p.2]), [(wd u, none), (wd v, none)]) [.val (sd s u), .val (sd t v), .non, .non, .non] := by
    rw [← zip_wl] <;> rfl
  have c := eComp_all (own := [3, 4]) (tg := .tup [.name 3, .name 4]) (el := eCall third_S [.val (eVar 3), .val (eVar 4)]) (List.zip u v) (fun p => PyData.tuple [sg p.1, sg p.2]) (fun p => [.val (sd s u), .val (sd t v), .non, .val (sg p.1), .val (sg p.2)]) (fun p => (sg (x4 p.1 p.2), false)) i0 rfl rfl fun p _ => ⟨rfl, rfl, by
    refine call2_eq (p := (sg p.1, false)) (q := (sg p.2, false)) rfl rfl ?_
    rw [third_eq]
    exact ⟨rfl, rfl⟩⟩
  have cw : ((List.zip u v).map fun p => sg (x4 p.1 p.2)) = wl (xw u v) := by
    rw [← xw_zip]
    unfold wl
    rw [List.map_map] <;> rfl
  refine ssat_seq (ssat_asg (sat_op1 (sat_oOf (Sat.of c ⟨rfl, (.tuple (wl (xw u v)), false), ?_, rfl, ?_⟩))))
  · show some (PyData.tuple ((List.zip u v).map fun p => sg (x4 p.1 p.2)), false) = _
    rw [cw]
  · have t1 : eCall turns_S [.val (eBin dIx (oVar 0) (oOf (eCon (.int 1)))), .val (eBin dIx (oVar 1) (oOf (eCon (.int 1))))] [.val (sd s u), .val (sd t v), .val (wd (xw u v)), .non, .non] = .ok (.int (tw u v), false) [.val (sd s u), .val (sd t v), .val (wd (xw u v)), .non, .non] :=
      call2_eq (p := (wd u, false)) (q := (wd v, false)) rfl rfl turns_sem
    refine ssat_ret (sat_tup (sat_el ?_))
    show Sat (eBin dMod _ _ [.val (sd s u), .val (sd t v), .val (wd (xw u v)), .non, .non]) _
    refine sat_bin (sat_oOf (sat_bin (sat_oOf (Sat.of (a := (PyData.int (s + t), false)) (ρ' := [.val (sd s u), .val (sd t v), .val (wd (xw u v)), .non, .non]) rfl ?_))))
    refine sat_oOf (sat_bin (sat_oOf (Sat.of t1 ?_)))
    exact ⟨rfl, (.int ((tw u v).fdiv 2), false), rfl, rfl, (.int (s + t + (tw u v).fdiv 2), false), rfl, rfl, (.int (sgn s u t v), false), rfl, rfl, rfl, rfl⟩
end Ow

namespace Ow
open PySem PyProof.Rows PySem.Spec L2
theorem nx_in {P : AE → Prop} {w : Wp} {ρ : AE} (h : P ρ) : (w.next P).nx ρ := h
/-! ### the law's product -/
def tVal4 : EvE := (eIte (tOr2 (tVal (eBin dEq (oVar 4) (oOf (eCon (.int 0))))) (tVal (eBin dEq (oVar 5) (oOf (eCon (.int 0)))))) (eBin dAdd (oVar 4) (oVar 5)) (eIte (tVal (eBin dEq (oVar 4) (oVar 5))) (eCon (.int 0)) (eBin dSub (oOf (eBin dSub (oOf (eCon (.int 6))) (oVar 4))) (oVar 5))))
theorem tval4_eq (a b : Sg) (x y z n : Slot) : tVal4 [x, y, z, n, .val (sg a), .val (sg b)] = .ok (sg (x4 a b), false) [x, y, z, n, .val (sg a), .val (sg b)] := by
  rcases sg4 a with rfl | rfl | rfl | rfl <;> rcases sg4 b with rfl | rfl | rfl | rfl <;> rfl
def up4 (a b : Sg) : Int := if (a = 1 ∧ b = 2) ∨ (a = 2 ∧ b = 3) ∨ (a = 3 ∧ b = 1) then 1 else 0
def dn4 (a b : Sg) : Int := if (a = 2 ∧ b = 1) ∨ (a = 3 ∧ b = 2) ∨ (a = 1 ∧ b = 3) then 1 else 0
theorem t4_split : ∀ a b : Sg, t4 a b = up4 a b - dn4 a b := by decide
def sNext4 : EvE := (eBin dSub (oOf (eBin dAdd (oVar 3) (oOf (eOps dInt [(oOf (eBin dIn (oOf (eTup [(eVar 4), (eVar 5)])) (oOf (eTup [(eTup [(eCon (.int 1)), (eCon (.int 2))]), (eTup [(eCon (.int 2)), (eCon (.int 3))]), (eTup [(eCon (.int 3)), (eCon (.int 1))])]))))])))) (oOf (eOps dInt [(oOf (eBin dIn (oOf (eTup [(eVar 4), (eVar 5)])) (oOf (eTup [(eTup [(eCon (.int 2)), (eCon (.int 1))]), (eTup [(eCon (.int 3)), (eCon (.int 2))]), (eTup [(eCon (.int 1)), (eCon (.int 3))])]))))])))
theorem snext4_eq (a b : Sg) (x y z : Slot) (n : Int) : sNext4 [x, y, z, .val (.int n), .val (sg a), .val (sg b)] = .ok (.int (n + up4 a b - dn4 a b), false) [x, y, z, .val (.int n), .val (sg a), .val (sg b)] := by
  rcases sg4 a with rfl | rfl | rfl | rfl <;> rcases sg4 b with rfl | rfl | rfl | rfl <;> rfl
theorem ltimes_ok {s t : Int} {u v : Wd} (hu : u.length ≤ 64) : FSat (_law_times_S [sd s u, sd t v]) (fun r fl outs => r = sd (sgn s u t v) (xw u v) ∧ fl = false) (fun _ => False) := by
  refine fsat_run rfl ?_
  show SSat (_law_times_F [.val (sd s u), .val (sd t v), .non, .non, .non, .non]) _
  unfold _law_times_F
  refine ssat_seq ?_
  show SSat (.nx [.val (sd s u), .val (sd t v), .own (.list []), .val (.int 0), .non, .non]) _
  simp only [ssat_nx, next_nx]
  have i0 : iZip (oOf (eBin dIx (oVar 0) (oOf (eCon (.int 1))))) (oOf (eBin dIx (oVar 1) (oOf (eCon (.int 1))))) [.val (sd s u), .val (sd t v), .own (.list []), .val (.int 0), .non, .non] = .ok ((List.zip u v).map (fun p => PyData.tuple [sg p.1, sg p.2]), [(wd u, none), (wd v, none)]) [.val (sd s u), .val (sd t v), .own (.list []), .val (.int 0), .non, .non] := by
    rw [← zip_wl] <;> rfl
  refine ssat_seq (ssat_forS (Sat.of i0 ⟨rfl, ?_⟩))
  refine ssat_for (fun ds ρ => ∃ (M L : List (Sg × Sg)) (n : Int) (s4 s5 : Slot), List.zip u v = M ++ L ∧ ds = L.map (fun p => PyData.tuple [sg p.1, sg p.2]) ∧ n + tzip L = tw u v ∧ ρ = [.val (sd s u), .val (sd t v), .own (.list (M.map fun p => sg (x4 p.1 p.2))), .val (.int n), s4, s5] ∧ quiet (some s4) ∧ quiet (some s5)) ?_ ?_ _ _ ⟨[], List.zip u v, 0, .non, .non, rfl, rfl, by rw [tzip_eq]; omega, rfl, trivial, trivial⟩
  · rintro d ds ρ ⟨M, L, n, s4, s5, hM, hd, hn, rfl, h4, h5⟩
    refine ⟨rfl, ?_⟩
    cases L with
    | nil => cases hd
    | cons p L =>
      cases hd
      refine ⟨[.val (sd s u), .val (sd t v), .own (.list (M.map fun p => sg (x4 p.1 p.2))), .val (.int n), .val (sg p.1), .val (sg p.2)], ?_, ?_⟩
      · cases s4 <;> first | (cases s5 <;> first | rfl | exact h5.elim) | exact h4.elim
      · have ml : M.length < 2 ^ 20 := by
          have h0 : (List.zip u v).length ≤ u.length := by rw [List.length_zip]; omega
          rw [hM, List.length_append] at h0
          omega
        refine ssat_seq (ssat_app rfl (Sat.of (tval4_eq p.1 p.2 _ _ _ _) ⟨_, rfl, by rw [List.length_map]; exact ml, ?_⟩))
        refine nx_in ?_
        refine ssat_asg (Sat.of (snext4_eq p.1 p.2 _ _ _ n) ⟨rfl, ?_⟩)
        refine ⟨M ++ [p], L, n + up4 p.1 p.2 - dn4 p.1 p.2, .val (sg p.1), .val (sg p.2), by rw [hM, List.append_assoc] <;> rfl, rfl, ?_, ?_, trivial, trivial⟩
        · rw [← hn]
          simp only [tzip, t4_split]
          omega
        · rw [List.map_append] <;> rfl
  · rintro ρ ⟨M, L, n, s4, s5, hM, hd, hn, rfl, h4, h5⟩
    refine ⟨rfl, ?_⟩
    cases L with
    | cons p L => cases hd
    | nil =>
      simp only [tzip, Int.add_zero] at hn
      subst hn
      rw [List.append_nil] at hM
      have cw : (M.map fun p => sg (x4 p.1 p.2)) = wl (xw u v) := by
        rw [← xw_zip, hM]
        unfold wl
        rw [List.map_map] <;> rfl
      rw [cw]
      simp only [next_nx]
      refine ssat_ret (sat_tup (sat_el ?_))
      show Sat (eBin dMod _ _ [.val (sd s u), .val (sd t v), .own (.list (wl (xw u v))), .val (.int (tw u v)), s4, s5]) _
      refine sat_bin (sat_oOf (sat_bin (sat_oOf (Sat.of (a := (PyData.int (s + t), false)) (ρ' := [.val (sd s u), .val (sd t v), .own (.list (wl (xw u v))), .val (.int (tw u v)), s4, s5]) rfl ?_))))
      refine sat_oOf (Sat.of (a := (PyData.int ((tw u v).fdiv 2), false)) (ρ' := [.val (sd s u), .val (sd t v), .own (.list (wl (xw u v))), .val (.int (tw u v)), s4, s5]) rfl ?_)
      have e2 : eOps dTuple [oVar 2] [.val (sd s u), .val (sd t v), .own (.list (wl (xw u v))), .val (.int (tw u v)), s4, s5] = .ok (.tuple (wl (xw u v)), false) [.val (sd s u), .val (sd t v), .own (.list (wl (xw u v))), .val (.int (tw u v)), s4, s5] := by
        simp [eOps, oList, oVar, stills, still, dTuple]
      exact ⟨rfl, (.int (s + t + (tw u v).fdiv 2), false), rfl, rfl, (.int (sgn s u t v), false), rfl, sat_el (Sat.of e2 (sat_el_nil ⟨rfl, rfl, rfl⟩))⟩
/-! ### whether words go together -/
def cntP (L : List (Sg × Sg)) : Nat := (L.filter fun p => p4 p.1 p.2).length
theorem par_cnt : ∀ u v : Wd, par u v = decide (cntP (List.zip u v) % 2 = 1)
  | [], _ => by simp [par, cntP]
  | _ :: _, [] => by simp [par, cntP]
  | a :: u, b :: v => by
    have ih := par_cnt u v
    unfold cntP at ih ⊢
    simp only [par, List.zip_cons_cons, List.filter_cons, ih]
    cases p4 a b with
    | false => simp
    | true =>
      simp only [if_true, List.length_cons]
      by_cases h : (List.filter (fun p => p4 p.1 p.2) (u.zip v)).length % 2 = 1
      · simp only [h, decide_true]
        simp; omega
      · simp only [h, decide_false]
        simp; omega
def goV : EvE := (eOps dInt [(oOf (eAnd2 (eBin dNe (oVar 2) (oOf (eCon (.int 0)))) (eAnd2 (eBin dNe (oVar 3) (oOf (eCon (.int 0)))) (eBin dNe (oVar 2) (oVar 3)))))])
theorem goV_eq (a b : Sg) (x y : Slot) : goV [x, y, .val (sg a), .val (sg b)] = .ok (.int (if p4 a b then 1 else 0), false) [x, y, .val (sg a), .val (sg b)] := by
  rcases sg4 a with rfl | rfl | rfl | rfl <;> rcases sg4 b with rfl | rfl | rfl | rfl <;> rfl
theorem sum_cnt : ∀ L : List (Sg × Sg), (L.map fun p => (if p4 p.1 p.2 then 1 else 0 : Int)).sum = (cntP L : Int)
  | [] => rfl
  | p :: L => by
    rw [List.map_cons, List.sum_cons, sum_cnt L]
    unfold cntP
    rw [List.filter_cons]
    cases p4 p.1 p.2 <;> simp <;> omega
theorem mod_two (n : Nat) : decide (((n : Int).fmod 2) = 0) = !decide (n % 2 = 1) := by
  rw [Int.fmod_eq_emod_of_nonneg _ (by decide)]
  by_cases h : n % 2 = 1
  · simp [h]; omega
  · simp [h]; omega
theorem mod_two1 (n : Nat) : decide (((n : Int).fmod 2) = 1) = decide (n % 2 = 1) := by
  rw [Int.fmod_eq_emod_of_nonneg _ (by decide)]
  by_cases h : n % 2 = 1
  · simp [h]; omega
  · simp [h]; omega
theorem go_ok {u v : Wd} : FSat (go_together_S [wd u, wd v]) (fun r fl outs => r = .bool (!par u v) ∧ fl = false) (fun _ => False) := by
  refine fsat_run rfl ?_
  show SSat (go_together_F [.val (wd u), .val (wd v), .non, .non]) _
  unfold go_together_F
  have i0 : iZip (oVar 0) (oVar 1) [.val (wd u), .val (wd v), .non, .non] = .ok ((List.zip u v).map (fun p => PyData.tuple [sg p.1, sg p.2]), [(wd u, none), (wd v, none)]) [.val (wd u), .val (wd v), .non, .non] := by
    rw [← zip_wl] <;> rfl
  have c := eComp_all (own := [2, 3]) (tg := .tup [.name 2, .name 3]) (el := goV) (List.zip u v) (fun p => PyData.tuple [sg p.1, sg p.2]) (fun p => [.val (wd u), .val (wd v), .val (sg p.1), .val (sg p.2)]) (fun p => (.int (if p4 p.1 p.2 then 1 else 0), false)) i0 rfl rfl fun p _ => ⟨rfl, rfl, goV_eq p.1 p.2 _ _⟩
  refine ssat_ret (sat_bin (sat_oOf (sat_bin (sat_oOf (sat_op1 (sat_oOf (Sat.of c ⟨rfl, (.int (cntP (List.zip u v)), false), ?_, ?_⟩)))))))
  · show (intsOf ((List.zip u v).map fun p => PyData.int (if p4 p.1 p.2 then 1 else 0))).map (fun ns => ((.int ns.sum, false) : D × Bool)) = _
    have : ((List.zip u v).map fun p => PyData.int (if p4 p.1 p.2 then 1 else 0)) = ((List.zip u v).map fun p => (if p4 p.1 p.2 then 1 else 0 : Int)).map PyData.int := by rw [List.map_map] <;> rfl
    rw [this, intsOf_map, Option.map_some, sum_cnt]
  · refine Sat.of rfl ⟨rfl, _, rfl, Sat.of rfl ⟨rfl, _, dEq_ii _ _, rfl, ?_, rfl⟩⟩
    rw [par_cnt, ← mod_two]
theorem zip_range {u v : Wd} (h : u.length = v.length) : List.zip u v = (List.range u.length).map fun i => (u.getD i 0, v.getD i 0) := by
  refine List.ext_getElem (by simp [h]) fun i h1 h2 => ?_
  have h3 : i < u.length := by simp at h1; omega
  have h4 : i < v.length := by omega
  simp [h3, h4]
end Ow

namespace Ow
open PySem PyProof.Rows PySem.Spec L2
theorem wd_ix {u : Wd} {i : Nat} (h : i < u.length) : dIx (wd u) (.int (0 + (i : Int))) = some (sg (u.getD i 0), false) := by
  have e : atI (wl u) (0 + (i : Int)) = some (sg (u.getD i 0)) := by
    unfold atI wl
    have : ixN (u.map sg).length (0 + (i : Int)) = some i := by
      unfold ixN
      rw [List.length_map]
      rw [if_pos (by omega)]
      simp
      omega
    rw [this]
    simp [h]
  show (atI (wl u) (0 + (i : Int))).map _ = _
  rw [e] <;> rfl
def lpT : EvT := (tAnd2 (tVal (eBin dNe (oOf (eBin dIx (oVar 0) (oVar 2))) (oOf (eCon (.int 0))))) (tAnd2 (tVal (eBin dNe (oOf (eBin dIx (oVar 1) (oVar 2))) (oOf (eCon (.int 0))))) (tVal (eBin dNe (oOf (eBin dIx (oVar 0) (oVar 2))) (oOf (eBin dIx (oVar 1) (oVar 2)))))))
theorem lpT_eq {u v : Wd} {i : Nat} (h : i < u.length) (h2 : i < v.length) : lpT [.val (wd u), .val (wd v), .val (.int (0 + (i : Int)))] = .ok (p4 (u.getD i 0) (v.getD i 0)) [.val (wd u), .val (wd v), .val (.int (0 + (i : Int)))] := by
  have e0 : ∀ ρ : AE, ρ = [.val (wd u), .val (wd v), .val (.int (0 + (i : Int)))] → eBin dIx (oVar 0) (oVar 2) ρ = .ok (sg (u.getD i 0), false) ρ := by
    rintro ρ rfl
    show (if true = true then (match dIx (wd u) (.int (0 + (i : Int))) with | some r => Res.ok r _ | none => .stuck) else .stuck) = _
    rw [wd_ix h]
    rfl
  have e1 : ∀ ρ : AE, ρ = [.val (wd u), .val (wd v), .val (.int (0 + (i : Int)))] → eBin dIx (oVar 1) (oVar 2) ρ = .ok (sg (v.getD i 0), false) ρ := by
    rintro ρ rfl
    show (if true = true then (match dIx (wd v) (.int (0 + (i : Int))) with | some r => Res.ok r _ | none => .stuck) else .stuck) = _
    rw [wd_ix h2]
    rfl
  have f0 := e0 _ rfl
  have f1 := e1 _ rfl
  revert f0 f1
  generalize hA : eBin dIx (oVar 0) (oVar 2) = A
  generalize hB : eBin dIx (oVar 1) (oVar 2) = B
  generalize u.getD i 0 = a
  generalize v.getD i 0 = b
  intro f0 f1
  have fold : lpT = (tAnd2 (tVal (eBin dNe (oOf A) (oOf (eCon (.int 0))))) (tAnd2 (tVal (eBin dNe (oOf B) (oOf (eCon (.int 0))))) (tVal (eBin dNe (oOf A) (oOf B))))) := by
    rw [← hA, ← hB] <;> rfl
  rw [fold]
  simp only [tAnd2, tVal, eBin, oOf, f0, f1, eCon, bind_ok, still_none, if_true, dNe_ii]
  rcases sg4 a with rfl | rfl | rfl | rfl <;> rcases sg4 b with rfl | rfl | rfl | rfl <;> rfl
theorem lparts_ok {u v : Wd} (h : u.length = v.length) (hl : u.length < 64) : FSat (_law_parts_S [wd u, wd v]) (fun r fl outs => r = .bool (par u v) ∧ fl = false) (fun _ => False) := by
  refine fsat_run rfl ?_
  show SSat (_law_parts_F [.val (wd u), .val (wd v), .non]) _
  unfold _law_parts_F
  have i0 : iRange1 (oOf (eOps dLen [(oVar 0)])) [.val (wd u), .val (wd v), .non] = .ok ((List.range u.length).map (fun (i : Nat) => PyData.int (0 + (i : Int))), []) [.val (wd u), .val (wd v), .non] := by
    have := rng_len (f := oOf (eOps dLen [(oVar 0)])) (n := wl u) (ρ := [.val (wd u), .val (wd v), .non]) rfl (by unfold wl; rw [List.length_map]; exact hl)
    rw [this]
    unfold rangeD wl
    rw [List.length_map]
  have c := eComp_any (own := [2]) (tg := .name 2) (tt := lpT) (el := eCon (.int 1)) (List.range u.length) (fun (i : Nat) => PyData.int (0 + (i : Int))) (fun i => [.val (wd u), .val (wd v), .val (.int (0 + (i : Int)))]) (fun i => p4 (u.getD i 0) (v.getD i 0)) (fun _ => (.int 1, false)) i0 rfl rfl fun i hi => by
    have hi : i < u.length := List.mem_range.mp hi
    exact ⟨rfl, rfl, lpT_eq hi (by omega), fun _ => rfl⟩
  have hc : ((List.range u.length).filter fun i => p4 (u.getD i 0) (v.getD i 0)).length = cntP (List.zip u v) := by
    unfold cntP
    rw [zip_range h, List.filter_map, List.length_map] <;> rfl
  refine ssat_ret (sat_bin (sat_oOf (sat_bin (sat_oOf (sat_op1 (sat_oOf (Sat.of c ⟨rfl, (.int (cntP (List.zip u v)), false), ?_, ?_⟩)))))))
  · show some ((PyData.int (List.length (List.map _ _)), false) : D × Bool) = _
    rw [List.length_map, hc]
  · refine Sat.of rfl ⟨rfl, _, rfl, Sat.of rfl ⟨rfl, _, dEq_ii _ _, rfl, ?_, rfl⟩⟩
    rw [par_cnt, ← mod_two1]
/-! ### products of some -/
abbrev SW := Int × Wd
def sp (p : SW) : D := sd p.1 p.2
def tms (x w : SW) : SW := (sgn x.1 x.2 w.1 w.2, xw x.2 w.2)
def pstep (f : List SW) (w : SW) : List SW := f ++ f.map fun x => tms x w
def prodsL (n : Nat) (st : List SW) : List SW := st.foldl pstep [(0, zw n)]
theorem xw_le : ∀ u v : Wd, (xw u v).length ≤ u.length
  | [], _ => by simp [xw]
  | _ :: _, [] => by simp [xw]
  | a :: u, b :: v => by
    have := xw_le u v
    simp only [xw, List.length_cons]
    omega
def prB (sem : Fun) : StF := (sAsg 2 (eBin dAdd (oVar 2) (oOf (eComp [4] (iSeq (oVar 2)) (.name 4) tTrue (eCall sem [.val (eVar 4), .val (eVar 3)])))))
theorem prods_loop {sem : Fun} (hsem : ∀ x w : SW, x.2.length ≤ 64 → FSat (sem [sp x, sp w]) (fun r fl _ => r = sp (tms x w) ∧ fl = false) (fun _ => False)) {s0 s1 : Slot} {rest : AE} {src : D} {w : Wp} {R : List SW}
    (last : ∀ s3 s4, quiet (some s3) → quiet (some s4) → w.nx (s0 :: s1 :: .own (.list (R.map sp)) :: s3 :: s4 :: rest)) : ∀ (L f : List SW) (s3 s4 : Slot), quiet (some s3) → quiet (some s4) → (∀ x ∈ f, x.2.length ≤ 64) → f.length * 2 ^ L.length ≤ 2 ^ 20 → L.foldl pstep f = R →
      SSat (forGo [(src, none)] (.name 3) (prB sem) (L.map sp) (s0 :: s1 :: .own (.list (f.map sp)) :: s3 :: s4 :: rest)) w
  | [], f, s3, s4, h3, h4, _, _, e => by
    subst e
    show SSat (if _ then _ else _) _
    rw [if_pos (by rfl)]
    exact last s3 s4 h3 h4
  | p :: L, f, s3, s4, h3, h4, hf, hz, e => by
    rw [List.map_cons]
    unfold forGo
    rw [if_pos (by rfl)]
    have hb : bindT (.name 3) (sp p) (s0 :: s1 :: .own (.list (f.map sp)) :: s3 :: s4 :: rest) = some (s0 :: s1 :: .own (.list (f.map sp)) :: .val (sp p) :: s4 :: rest) := by
      cases s3 <;> first | rfl | exact h3.elim
    rw [hb]
    have c := eComp_all (own := [4]) (it := iSeq (oVar 2)) (bs := [(.list (f.map sp), some 2)]) (tg := .name 4) (el := eCall sem [.val (eVar 4), .val (eVar 3)]) (ρ := s0 :: s1 :: .own (.list (f.map sp)) :: .val (sp p) :: s4 :: rest) f sp (fun x => s0 :: s1 :: .own (.list (f.map sp)) :: .val (sp p) :: .val (sp x) :: rest) (fun x => (sp (tms x p), false)) rfl
      (by cases s4 <;> first | rfl | exact h4.elim) (by simp [stills, still, wipeA]) fun x hx => ⟨rfl, rfl, call2_eq (p := (sp x, false)) (q := (sp p, false)) rfl rfl (hsem x p (hf x hx))⟩
    have he : (f.map sp ++ f.map fun x => sp (tms x p)) = (pstep f p).map sp := by
      unfold pstep
      rw [List.map_append, List.map_map] <;> rfl
    have hz2 : (pstep f p).length * 2 ^ L.length ≤ 2 ^ 20 := by
      unfold pstep
      rw [List.length_append, List.length_map]
      rw [List.length_cons, Nat.pow_succ] at hz
      rw [← Nat.two_mul, Nat.mul_comm 2, Nat.mul_assoc, Nat.mul_comm 2]
      exact hz
    have hsz : f.length + f.length ≤ sizeLine := by
      have h1 : f.length * 2 ≤ f.length * 2 ^ (p :: L).length := Nat.mul_le_mul_left _ (by rw [List.length_cons, Nat.pow_succ]; have := Nat.one_le_two_pow (n := L.length); omega)
      rw [sizeLine_eq]
      omega
    have st : prB sem (s0 :: s1 :: .own (.list (f.map sp)) :: .val (sp p) :: s4 :: rest) = .nx (s0 :: s1 :: .own (.list ((pstep f p).map sp)) :: .val (sp p) :: s4 :: rest) := by
      unfold prB sAsg eBin
      simp only [oVar, List.getElem?_cons_succ, List.getElem?_cons_zero, bind_ok, oOf, c]
      rw [if_pos (by simp [still])]
      have : dAdd (.list (f.map sp)) (.list (f.map fun x => sp (tms x p))) = some (.list ((pstep f p).map sp), true) := by
        show (if (f.map sp).length + (f.map fun x => sp (tms x p)).length ≤ sizeLine then some (PyData.list (f.map sp ++ f.map fun x => sp (tms x p)), true) else none) = _
        rw [if_pos (by rw [List.length_map, List.length_map]; exact hsz), he]
      rw [this]
      rfl
    simp only [st]
    refine prods_loop hsem last L (pstep f p) (.val (sp p)) s4 trivial h4 (fun x hx => ?_) hz2 e
    rcases List.mem_append.mp hx with hx | hx
    · exact hf x hx
    · obtain ⟨y, hy, rfl⟩ := List.mem_map.mp hx
      exact Nat.le_trans (xw_le _ _) (hf y hy)
theorem zero_mul {n : Nat} (h : n ≤ 64) : dMul (.tuple [.int 0]) (.int (n : Int)) = some (wd (zw n), false) := by
  show (if [PyData.int 0] ≠ [] ∧ -(2 ^ 63) ≤ (n : Int) ∧ (n : Int) ≤ 1000 ∧ [PyData.int 0].length ≤ 1000 then some (PyData.tuple (List.replicate (n : Int).toNat [PyData.int 0]).flatten, false) else none) = _
  rw [if_pos ⟨by simp, by omega, by omega, by simp⟩]
  have : (List.replicate ((n : Int)).toNat [PyData.int 0]).flatten = wl (zw n) := by
    rw [Int.toNat_natCast]
    unfold wl zw
    rw [List.map_replicate]
    clear h
    induction n with
    | zero => rfl
    | succ n ih => rw [List.replicate_succ, List.flatten_cons, ih, List.replicate_succ] <;> rfl
  rw [this] <;> rfl
theorem zero_eq {n : Nat} {i : Nat} {ρ : AE} (h : n ≤ 64) (hi : ρ[i]? = some (.val (.int n))) : (eLst [(eTup [(eCon (.int 0)), (eBin dMul (oOf (eTup [(eCon (.int 0))])) (oVar i))])]) ρ = .ok (.list ([((0, zw n) : SW)].map sp), true) ρ := by
  simp only [eLst, eTup, eList, eCon, eBin, oOf, oVar, hi, bind_ok, still_none, if_true, zero_mul h]
  rfl
end Ow

namespace Ow
open PySem PyProof.Rows PySem.Spec L2
/-! ### keys -/
theorem hk_wl : ∀ w : Wd, hkDs (wl w) = w.map fun a => NestedKey.num (a.val : Int)
  | [] => rfl
  | a :: w => by
    show NestedKey.num (a.val : Int) :: hkDs (wl w) = _
    rw [hk_wl w] <;> rfl
theorem hk_wd (w : Wd) : hkD (wd w) = .tup (w.map fun a => NestedKey.num (a.val : Int)) := by
  show NestedKey.tup (hkDs (wl w)) = _
  rw [hk_wl]
theorem hk_inj {u v : Wd} : hkD (wd u) = hkD (wd v) ↔ u = v := by
  rw [hk_wd, hk_wd, NestedKey.tup.injEq]
  constructor
  · intro h
    refine List.map_inj_right (fun a b e => ?_) |>.mp h
    rw [NestedKey.num.injEq] at e
    exact Fin.ext (by omega)
  · intro h; rw [h]
theorem able_wl : ∀ w : Wd, hkables (wl w) = true
  | [] => rfl
  | a :: w => by
    show (true && hkables (wl w)) = true
    rw [able_wl w] <;> rfl
theorem depth_nums : ∀ l : List Int, NestedKey.depthAll (l.map NestedKey.num) ≤ 1
  | [] => by simp [NestedKey.depthAll]
  | a :: l => by
    have := depth_nums l
    simp only [List.map_cons, NestedKey.depthAll, NestedKey.depth]
    omega
theorem keyT_wd (w : Wd) : keyT (wd w) = true := by
  show (hkables (wl w) && decide ((hkD (.tuple (wl w))).depth ≤ 8)) = true
  rw [able_wl, Bool.true_and, decide_eq_true_eq]
  show (hkD (wd w)).depth ≤ 8
  rw [hk_wd]
  have := depth_nums (w.map fun a => (a.val : Int))
  rw [List.map_map] at this
  simp only [NestedKey.depth]
  have e : (List.map (NestedKey.num ∘ fun a => ((a : Sg).val : Int)) w) = w.map fun a => NestedKey.num (a.val : Int) := rfl
  rw [e] at this
  omega
/-! ### dicts of words -/
def kv (p : SW) : D × D := (wd p.2, .int p.1)
def heldK (n : Nat) (st : List SW) : List (D × D) := putAll [] ((prodsL n st).map kv)
theorem pairs_kv : ∀ L : List SW, pairsOf (L.map fun p => PyData.tuple [wd p.2, .int p.1]) = some (L.map kv)
  | [] => rfl
  | p :: L => by
    show (pairsOf (L.map fun p => PyData.tuple [wd p.2, .int p.1])).map _ = _
    rw [pairs_kv L] <;> rfl
theorem putAll_ok : ∀ {ps kvs : List (D × D)}, dictOk kvs = true → (∀ p ∈ ps, keyT p.1 = true) → dictOk (putAll kvs ps) = true
  | [], _, h, _ => h
  | p :: ps, kvs, h, hp => putAll_ok (ps := ps) (put_ok h (hp p (by simp))) fun q hq => hp q (List.mem_cons_of_mem _ hq)
theorem held_ok (n : Nat) (st : List SW) : dictOk (heldK n st) = true := putAll_ok (by decide) fun p hp => by
  obtain ⟨q, _, rfl⟩ := List.mem_map.mp hp
  exact keyT_wd _
theorem dcGo_any {α : Type} {own : List Nat} {tg : Tg} {ek ev : EvE} {bs : Src} {ρ : AE} {f : α → D} {bnd : α → AE} {g h : α → D} (hs : stills bs ρ = true) : ∀ (L : List α) (acc : List (D × D)), (∀ x ∈ L, bindT tg (f x) ρ = some (bnd x) ∧ wipeA own (bnd x) = ρ ∧ ek (bnd x) = .ok (g x, false) (bnd x) ∧ keyT (g x) = true ∧ ev (bnd x) = .ok (h x, false) (bnd x)) →
    dcGo own tg tTrue ek ev bs (L.map f) ρ acc = .ok (putAll acc (L.map fun x => (g x, h x))) ρ
  | [], acc, _ => by simp [dcGo, hs, putAll]
  | x :: L, acc, q => by
    obtain ⟨h1, h2, h3, h4, h5⟩ := q x (by simp)
    have ih := fun acc => dcGo_any (own := own) (tg := tg) (ek := ek) (ev := ev) (g := g) (h := h) hs L acc fun y hy => q y (List.mem_cons_of_mem _ hy)
    rw [List.map_cons]
    unfold dcGo
    rw [if_pos hs, h1]
    simp only [tTrue, nox, bind_ok, if_true, h3, h4, h5, h2, ih]
    rfl
theorem eDc_any {α : Type} {own : List Nat} {it : EvI} {tg : Tg} {ek ev : EvE} {bs : Src} {ρ : AE} (L : List α) (f : α → D) (bnd : α → AE) (g h : α → D) (hi : it ρ = .ok (L.map f, bs) ρ) (hr : restA own ρ (wipeA own ρ) = ρ) (hs : stills bs (wipeA own ρ) = true)
    (q : ∀ x ∈ L, bindT tg (f x) (wipeA own ρ) = some (bnd x) ∧ wipeA own (bnd x) = wipeA own ρ ∧ ek (bnd x) = .ok (g x, false) (bnd x) ∧ keyT (g x) = true ∧ ev (bnd x) = .ok (h x, false) (bnd x)) : eDc own it tg tTrue ek ev ρ = .ok (.dict (putAll [] (L.map fun x => (g x, h x))), true) ρ := by
  unfold eDc
  rw [hi]
  simp only [bind_ok]
  rw [dcGo_any (f := f) (bnd := bnd) (g := g) (h := h) hs L [] q]
  simp only [bind_ok, hr]
/-! ### products, and what is held -/
theorem few_pow {st : List SW} (h : st.length ≤ 8) : [((0, zw 0) : SW)].length * 2 ^ st.length ≤ 2 ^ 20 := by
  rw [List.length_singleton, Nat.one_mul]
  exact Nat.pow_le_pow_right (by decide) (by omega)
theorem products_sem {n : Nat} {st : List SW} (hn : n ≤ 64) (hs : st.length ≤ 8) : FSat (products_S [.tuple (st.map sp), .int n]) (fun r fl outs => r = .list ((prodsL n st).map sp) ∧ fl = true) (fun _ => False) := by
  refine fsat_run rfl ?_
  show SSat (products_F [.val (.tuple (st.map sp)), .val (.int n), .non, .non, .non]) _
  unfold products_F
  refine ssat_seq (ssat_asg (Sat.of (zero_eq (n := n) (i := 1) hn rfl) ⟨rfl, nx_in ?_⟩))
  refine ssat_seq (ssat_forS (Sat.of (a := (st.map sp, [(.tuple (st.map sp), none)])) rfl ⟨rfl, ?_⟩))
  refine prods_loop (sem := product_S) (R := prodsL n st) (fun x w _ => product_ok) (fun s3 s4 h3 h4 => nx_in ?_) st [(0, zw n)] .non .non trivial trivial (fun x hx => ?_) (few_pow hs) rfl
  · exact ssat_ret (Sat.of (a := (.list ((prodsL n st).map sp), true)) (ρ' := [.val (.tuple (st.map sp)), .val (.int n), .non, s3, s4]) rfl ⟨rfl, rfl, rfl⟩)
  · rw [List.mem_singleton] at hx
    subst hx
    simpa [zw] using hn
theorem lheld_sem {n : Nat} {st : List SW} (hn : n ≤ 64) (hs : st.length ≤ 8) : FSat (_law_held_S [.int n, .tuple (st.map sp)]) (fun r fl outs => r = .dict (heldK n st) ∧ fl = true) (fun _ => False) := by
  refine fsat_run rfl ?_
  show SSat (_law_held_F [.val (.int n), .val (.tuple (st.map sp)), .non, .non, .non, .non, .non]) _
  unfold _law_held_F
  refine ssat_seq (ssat_asg (Sat.of (zero_eq (n := n) (i := 0) hn rfl) ⟨rfl, nx_in ?_⟩))
  refine ssat_seq (ssat_forS (Sat.of (a := (st.map sp, [(.tuple (st.map sp), none)])) rfl ⟨rfl, ?_⟩))
  refine prods_loop (sem := _law_times_S) (R := prodsL n st) (fun x w hx => ltimes_ok hx) (fun s3 s4 h3 h4 => nx_in ?_) st [(0, zw n)] .non .non trivial trivial (fun x hx => ?_) (few_pow hs) rfl
  · have c := eComp_all (own := [5, 6]) (it := iSeq (oVar 2)) (bs := [(.list ((prodsL n st).map sp), some 2)]) (tg := .tup [.name 5, .name 6]) (el := eTup [(eVar 6), (eVar 5)]) (ρ := [.val (.int n), .val (.tuple (st.map sp)), .own (.list ((prodsL n st).map sp)), s3, s4, .non, .non]) (prodsL n st) sp (fun p => [.val (.int n), .val (.tuple (st.map sp)), .own (.list ((prodsL n st).map sp)), s3, s4, .val (.int p.1), .val (wd p.2)]) (fun p => (.tuple [wd p.2, .int p.1], false)) rfl
      rfl (by simp [stills, still, wipeA]) fun x hx => ⟨rfl, rfl, rfl⟩
    refine ssat_ret (sat_op1 (sat_oOf (Sat.of c ⟨rfl, (.dict (heldK n st), true), ?_, rfl, rfl, rfl⟩)))
    show (match pairsOf ((prodsL n st).map fun p => PyData.tuple [wd p.2, .int p.1]) with | some ps => if (ps.all fun p => keyT p.1) = true then some (PyData.dict (putAll [] ps), true) else none | none => none) = _
    rw [pairs_kv]
    show (if ((prodsL n st).map kv).all _ = true then _ else _) = _
    rw [if_pos]
    · rfl
    · rw [List.all_eq_true]
      intro p hp
      obtain ⟨q, _, rfl⟩ := List.mem_map.mp hp
      exact keyT_wd _
  · rw [List.mem_singleton] at hx
    subst hx
    simpa [zw] using hn
theorem heldby_sem {st : List SW} (hs : st.length ≤ 8) : FSat (held_by_S [.tuple (st.map sp)]) (fun r fl outs => r = .dict (heldK st.length st) ∧ fl = true) (fun _ => False) := by
  refine fsat_run rfl ?_
  show SSat (held_by_F [.val (.tuple (st.map sp)), .non, .non]) _
  unfold held_by_F
  have c1 : eCall products_S [.val (eVar 0), .val (eOps dLen [(oVar 0)])] [.val (.tuple (st.map sp)), .non, .non] = .ok (.list ((prodsL st.length st).map sp), true) [.val (.tuple (st.map sp)), .non, .non] := by
    refine call2_eq (p := (.tuple (st.map sp), false)) (q := (.int (st.map sp).length, false)) rfl rfl ?_
    show FSat (products_S [.tuple (st.map sp), .int (st.map sp).length]) _ _
    rw [List.length_map]
    exact products_sem (by omega) hs
  have i0 : iSeq (oOf (eCall products_S [.val (eVar 0), .val (eOps dLen [(oVar 0)])])) [.val (.tuple (st.map sp)), .non, .non] = .ok ((prodsL st.length st).map sp, [(.list ((prodsL st.length st).map sp), none)]) [.val (.tuple (st.map sp)), .non, .non] := by
    simp only [iSeq, oOf, c1, bind_ok, itemsD]
  have c := eDc_any (own := [1, 2]) (tg := .tup [.name 1, .name 2]) (ek := eVar 2) (ev := eVar 1) (prodsL st.length st) sp (fun p => [.val (.tuple (st.map sp)), .val (.int p.1), .val (wd p.2)]) (fun p => wd p.2) (fun p => .int p.1) i0 rfl rfl fun x hx => ⟨rfl, rfl, rfl, keyT_wd _, rfl⟩
  exact ssat_ret (Sat.of c ⟨rfl, rfl, rfl⟩)
end Ow

namespace Ow
open PySem PyProof.Rows PySem.Spec L2
/-! ### tame data: ints, texts, none, tuples of such -/
def tame : Nat → D → Bool
  | _, .none => true
  | _, .int _ => true
  | _, .str _ => true
  | n + 1, .tuple ds => ds.all (tame n)
  | _, _ => false
def Tm (d : D) : Prop := tame 4 d = true
theorem tame_plain : ∀ (n : Nat) (d : D), tame n d = true → d.plain = true ∧ d.depth ≤ n
  | n, .none, _ => ⟨rfl, by simp [PyData.depth]⟩
  | n, .int _, _ => ⟨rfl, by simp [PyData.depth]⟩
  | n, .str _, _ => ⟨rfl, by simp [PyData.depth]⟩
  | n + 1, .tuple ds, h => by
    have h : ds.all (tame n) = true := by simpa only [tame] using h
    rw [List.all_eq_true] at h
    have go : ∀ l : List D, (∀ d ∈ l, tame n d = true) → PyData.plainAll l = true ∧ PyData.depthAll l ≤ n := fun l => by
      induction l with
      | nil => intro _; simp [PyData.plainAll, PyData.depthAll]
      | cons a l ih =>
        intro hl
        obtain ⟨i1, i2⟩ := ih fun d hd => hl d (List.mem_cons_of_mem _ hd)
        obtain ⟨j1, j2⟩ := tame_plain n a (hl a (by simp))
        simp only [PyData.plainAll, PyData.depthAll, i1, j1, Bool.and_self, true_and]
        omega
    obtain ⟨q1, q2⟩ := go ds h
    exact ⟨by simpa only [PyData.plain] using q1, by simp only [PyData.depth]; omega⟩
  | 0, .tuple ds, h => by simp [tame] at h
  | n, .bool _, h => by cases n <;> simp [tame] at h
  | n, .list _, h => by cases n <;> simp [tame] at h
  | n, .dict _, h => by cases n <;> simp [tame] at h
theorem tame_up : ∀ (n : Nat) (d : D), tame n d = true → tame (n + 1) d = true
  | n, .none, _ => by cases n <;> rfl
  | n, .int _, _ => by cases n <;> rfl
  | n, .str _, _ => by cases n <;> rfl
  | n + 1, .tuple ds, h => by
    have h : ds.all (tame n) = true := by simpa only [tame] using h
    show ds.all (tame (n + 1)) = true
    rw [List.all_eq_true] at h ⊢
    exact fun d hd => tame_up n d (h d hd)
  | 0, .tuple ds, h => by simp [tame] at h
  | n, .bool _, h => by cases n <;> simp [tame] at h
  | n, .list _, h => by cases n <;> simp [tame] at h
  | n, .dict _, h => by cases n <;> simp [tame] at h
theorem tame_in {n : Nat} {ds : List D} {d : D} (h : tame (n + 1) (.tuple ds) = true) (hd : d ∈ ds) : tame (n + 1) d = true := by
  have h : ds.all (tame n) = true := by simpa only [tame] using h
  exact tame_up n d (List.all_eq_true.mp h d hd)
theorem tm_in {ds : List D} {d : D} (h : Tm (.tuple ds)) (hd : d ∈ ds) : Tm d := tame_in h hd
/-- a letter -/
def isL : D → Bool
  | .int i => decide (0 ≤ i) && decide (i ≤ 3)
  | _ => false
def isW (n : Nat) : D → Bool
  | .tuple ds => decide (ds.length = n) && ds.all isL
  | _ => false
def is01 : D → Bool
  | .int i => decide (i = 0) || decide (i = 1)
  | _ => false
def isS (n : Nat) : D → Bool
  | .tuple [s, w] => is01 s && isW n w
  | _ => false
theorem isL_sg {d : D} (h : isL d = true) : ∃ a : Sg, d = sg a := by
  cases d with
  | int i =>
    simp only [isL, Bool.and_eq_true, decide_eq_true_eq] at h
    exact ⟨⟨i.toNat, by omega⟩, by show PyData.int i = PyData.int (i.toNat : Int); rw [show (i.toNat : Int) = i by omega]⟩
  | _ => cases h
theorem sg_isL (a : Sg) : isL (sg a) = true := by
  rcases sg4 a with rfl | rfl | rfl | rfl <;> rfl
theorem all_wl : ∀ {ds : List D}, ds.all isL = true → ∃ w : Wd, ds = wl w
  | [], _ => ⟨[], rfl⟩
  | d :: ds, h => by
    rw [List.all_cons, Bool.and_eq_true] at h
    obtain ⟨a, rfl⟩ := isL_sg h.1
    obtain ⟨w, rfl⟩ := all_wl h.2
    exact ⟨a :: w, rfl⟩
theorem isW_wd {n : Nat} {d : D} : isW n d = true ↔ ∃ w : Wd, d = wd w ∧ w.length = n := by
  constructor
  · intro h
    cases d with
    | tuple ds =>
      simp only [isW, Bool.and_eq_true, decide_eq_true_eq] at h
      obtain ⟨w, rfl⟩ := all_wl h.2
      exact ⟨w, rfl, by have := h.1; unfold wl at this; rwa [List.length_map] at this⟩
    | _ => cases h
  · rintro ⟨w, rfl, h⟩
    show (decide ((wl w).length = n) && (wl w).all isL) = true
    unfold wl
    rw [List.length_map, h]
    simp [sg_isL]
theorem isS_sp {n : Nat} {d : D} : isS n d = true ↔ ∃ p : SW, d = sp p ∧ p.2.length = n ∧ (p.1 = 0 ∨ p.1 = 1) := by
  constructor
  · intro h
    unfold isS at h
    split at h
    · rename_i s w
      rw [Bool.and_eq_true] at h
      obtain ⟨u, rfl, hu⟩ := isW_wd.mp h.2
      cases s with
      | int i =>
        have h1 := h.1
        simp only [is01, Bool.or_eq_true, decide_eq_true_eq] at h1
        exact ⟨(i, u), rfl, hu, h1⟩
      | _ => simp [is01] at h
    · cases h
  · rintro ⟨p, rfl, h1, h2⟩
    show (is01 (.int p.1) && isW n (wd p.2)) = true
    rw [isW_wd.mpr ⟨p.2, rfl, h1⟩]
    simpa [is01] using h2
theorem all_sp {n : Nat} : ∀ {ds : List D}, ds.all (isS n) = true → ∃ st : List SW, ds = st.map sp ∧ ∀ p ∈ st, p.2.length = n ∧ (p.1 = 0 ∨ p.1 = 1)
  | [], _ => ⟨[], rfl, fun _ h => nomatch h⟩
  | d :: ds, h => by
    rw [List.all_cons, Bool.and_eq_true] at h
    obtain ⟨p, rfl, h1, h2⟩ := isS_sp.mp h.1
    obtain ⟨st, rfl, h3⟩ := all_sp h.2
    exact ⟨p :: st, rfl, fun q hq => by
      rcases List.mem_cons.mp hq with rfl | hq
      · exact ⟨h1, h2⟩
      · exact h3 q hq⟩
/-! ### words, judged -/
theorem isi_tup {d : D} (h : Tm d) : dIsi "tuple" d = some (.bool (match d with | .tuple _ => true | _ => false), false) := by
  cases d <;> first | rfl | (simp [Tm, tame] at h)
theorem isi_int1 {d : D} (h : Tm d) : dIsi "int" d = some (.bool (isI d), false) := by
  cases d <;> first | rfl | (simp [Tm, tame] at h)
def wrE : EvE := (eAnd2 (eUn (dIsi "int") (oVar 2)) (eChain dLe dLe (oOf (eCon (.int 0))) (oVar 2) (oOf (eCon (.int 3)))))
theorem wrE_eq {x : D} (h : Tm x) (a b : Slot) : wrE [a, b, .val x] = .ok (.bool (isL x), false) [a, b, .val x] := by
  unfold wrE
  cases x with
  | int i =>
    by_cases h0 : (0 : Int) ≤ i <;> simp [eAnd2, eUn, oVar, isi_int1 h, isI, eChain, oOf, eCon, still, h0, isL]
  | _ => first | (simp [eAnd2, eUn, oVar, isi_int1 h, isI, isL]; done) | (simp [Tm, tame] at h)
theorem isword_sem {d : D} {n : Nat} (h : Tm d) : FSat (is_word_S [d, .int n]) (fun r fl outs => r = .bool (isW n d) ∧ fl = false) (fun _ => False) := by
  refine fsat_run rfl ?_
  show SSat (is_word_F [.val d, .val (.int n), .non]) _
  unfold is_word_F
  by_cases ht : ∃ ds, d = .tuple ds
  · obtain ⟨ds, rfl⟩ := ht
    have t1 : (tOr2 (tNot1 (tVal (eUn (dIsi "tuple") (oVar 0)))) (tVal (eBin dNe (oOf (eOps dLen [(oVar 0)])) (oVar 1)))) [.val (.tuple ds), .val (.int n), .non] = .ok (decide ((ds.length : Int) ≠ n)) [.val (.tuple ds), .val (.int n), .non] := by
      simp [tOr2, tNot1, tVal, eUn, oVar, isi_tup h, eBin, oOf, eOps, oList, stills, still, dLen]
    refine ssat_seq ?_
    rw [iff_seq (h := sNx) t1]
    by_cases hl : ds.length = n
    · rw [if_neg (by simp [hl])]
      refine nx_in ?_
      have c := eComp_all (own := [2]) (it := iSeq (oVar 0)) (bs := [(.tuple ds, none)]) (tg := .name 2) (el := wrE) (ρ := [.val (.tuple ds), .val (.int n), .non]) ds id (fun x => [.val (.tuple ds), .val (.int n), .val x]) (fun x => (.bool (isL x), false)) (by rw [List.map_id] <;> rfl) rfl rfl fun x hx => ⟨rfl, rfl, wrE_eq (tm_in h hx) _ _⟩
      refine ssat_ret (sat_op1 (sat_oOf (Sat.of c ⟨rfl, _, dAll_map (q := isL), rfl, ?_, rfl⟩)))
      show PyData.bool (ds.all isL) = .bool (decide (ds.length = n) && ds.all isL)
      simp [hl]
    · rw [if_pos (by simp; omega)]
      refine ssat_ret (Sat.of rfl ⟨rfl, ?_, rfl⟩)
      show PyData.bool false = .bool (decide (ds.length = n) && ds.all isL)
      simp [hl]
  · have hf : isW n d = false := by cases d <;> first | rfl | exact absurd ⟨_, rfl⟩ ht
    have e1 : dIsi "tuple" d = some (.bool false, false) := by
      rw [isi_tup h]
      cases d <;> first | rfl | exact absurd ⟨_, rfl⟩ ht
    have t1 : (tOr2 (tNot1 (tVal (eUn (dIsi "tuple") (oVar 0)))) (tVal (eBin dNe (oOf (eOps dLen [(oVar 0)])) (oVar 1)))) [.val d, .val (.int n), .non] = .ok true [.val d, .val (.int n), .non] := by
      simp [tOr2, tNot1, tVal, eUn, oVar, e1]
    refine ssat_seq ?_
    rw [iff_seq (h := sNx) t1, hf]
    exact ssat_ret (Sat.of rfl ⟨rfl, rfl, rfl⟩)
end Ow

namespace Ow
open PySem PyProof.Rows PySem.Spec L2
theorem in01 {d : D} (h : Tm d) : dIn d (.tuple [.int 0, .int 1]) = some (.bool (is01 d), false) := by
  obtain ⟨h1, h2⟩ := tame_plain 4 d h
  have ok : okI [.int 0, .int 1] d = true := by
    simp [okI, PyData.plainAll, PyData.plain, h1, PyData.depthAll, PyData.depth]
  show (if okI [.int 0, .int 1] d = true then some (PyData.bool _, false) else none) = _
  rw [if_pos ok]
  cases d with
  | int i =>
    simp only [List.any_cons, List.any_nil, PyData.eqv, is01, Bool.or_false]
    congr 3
    by_cases h0 : i = 0
    · subst h0; simp
    · by_cases h1 : i = 1
      · subst h1; simp
      · simp [h0, h1]
        try omega
  | _ => first | (simp [PyData.eqv, is01]; done) | (simp [Tm, tame] at h)
def lwT : EvT := (tOr2 (tNot1 (tVal (eUn (dIsi "int") (oVar 2)))) (tNot1 (tVal (eChain dLe dLe (oOf (eCon (.int 0))) (oVar 2) (oOf (eCon (.int 3)))))))
theorem lwT_eq {x : D} (h : Tm x) (a b : Slot) : lwT [a, b, .val x] = .ok (!isL x) [a, b, .val x] := by
  unfold lwT
  cases x with
  | int i =>
    by_cases h0 : (0 : Int) ≤ i <;> simp [tOr2, tNot1, tVal, eUn, oVar, isi_int1 h, isI, eChain, oOf, eCon, still, h0, isL]
  | _ => first | (simp [tOr2, tNot1, tVal, eUn, oVar, isi_int1 h, isI, isL]; done) | (simp [Tm, tame] at h)
theorem len0 {l : List D} {p : D → Bool} {g : D → D × Bool} : dEq (.int (((l.filter fun d => !p d).map fun x => (g x).1).length : Nat)) (.int 0) = some (.bool (l.all p), false) := by
  rw [dEq_ii, List.length_map]
  congr 3
  rw [Bool.eq_iff_iff, decide_eq_true_eq, List.all_eq_true]
  constructor
  · intro h d hd
    have h0 : (l.filter fun d => !p d) = [] := List.length_eq_zero_iff.mp (by omega)
    have := List.filter_eq_nil_iff.mp h0 d hd
    simpa using this
  · intro h
    have h0 : (l.filter fun d => !p d) = [] := List.filter_eq_nil_iff.mpr fun d hd => by simp [h d hd]
    rw [h0] <;> rfl
theorem lisword_sem {d : D} {n : Nat} (h : Tm d) : FSat (_law_is_word_S [.int n, d]) (fun r fl outs => r = .bool (isW n d) ∧ fl = false) (fun _ => False) := by
  refine fsat_run rfl ?_
  show SSat (_law_is_word_F [.val (.int n), .val d, .non]) _
  unfold _law_is_word_F
  refine ssat_ret ?_
  by_cases ht : ∃ ds, d = .tuple ds
  · obtain ⟨ds, rfl⟩ := ht
    have e1 : eUn (dIsi "tuple") (oVar 1) [.val (.int n), .val (.tuple ds), .non] = .ok (.bool true, false) [.val (.int n), .val (.tuple ds), .non] := by
      simp [eUn, oVar, isi_tup h]
    have e2 : eBin dEq (oOf (eOps dLen [(oVar 1)])) (oVar 0) [.val (.int n), .val (.tuple ds), .non] = .ok (.bool (decide ((ds.length : Int) = n)), false) [.val (.int n), .val (.tuple ds), .non] := by
      simp [eBin, oOf, eOps, oList, oVar, stills, still, dLen]
    have c := eComp_any (own := [2]) (it := iSeq (oVar 1)) (bs := [(.tuple ds, none)]) (tg := .name 2) (tt := lwT) (el := eCon (.int 1)) (ρ := [.val (.int n), .val (.tuple ds), .non]) ds id (fun x => [.val (.int n), .val (.tuple ds), .val x]) (fun x => !isL x) (fun _ => (.int 1, false)) (by rw [List.map_id] <;> rfl) rfl rfl fun x hx => ⟨rfl, rfl, lwT_eq (tm_in h hx) _ _, fun _ => rfl⟩
    refine Sat.bind (Sat.of e1 ?_)
    show Sat (eAnd2 _ _ _) _
    refine Sat.bind (Sat.of e2 ?_)
    show Sat (if decide ((ds.length : Int) = n) = true then _ else _) _
    have hw : isW n (.tuple ds) = (decide (ds.length = n) && ds.all isL) := rfl
    by_cases hl : ds.length = n
    · rw [if_pos (by simp [hl])]
      refine sat_bin (sat_oOf (sat_op1 (sat_oOf (Sat.of c ⟨rfl, _, rfl, Sat.of rfl ⟨rfl, _, len0 (p := isL) (g := fun _ => (.int 1, false)), rfl, ?_, rfl⟩⟩))))
      rw [hw]
      simp [hl]
    · rw [if_neg (by simp; omega)]
      refine ⟨rfl, ?_, rfl⟩
      rw [hw]
      simp [hl]
  · have hf : isW n d = false := by cases d <;> first | rfl | exact absurd ⟨_, rfl⟩ ht
    have e1 : eUn (dIsi "tuple") (oVar 1) [.val (.int n), .val d, .non] = .ok (.bool false, false) [.val (.int n), .val d, .non] := by
      have : dIsi "tuple" d = some (.bool false, false) := by
        rw [isi_tup h]
        cases d <;> first | rfl | exact absurd ⟨_, rfl⟩ ht
      simp [eUn, oVar, this]
    refine Sat.bind (Sat.of e1 ?_)
    exact ⟨rfl, by rw [hf], rfl⟩
/-! ### signed words, judged -/
theorem two_or {ds : List D} : (∃ s w, ds = [s, w]) ∨ ds.length ≠ 2 := by
  match ds with
  | [] => right; simp
  | [_] => right; simp
  | [s, w] => left; exact ⟨s, w, rfl⟩
  | _ :: _ :: _ :: _ => right; simp
theorem isS_not2 {n : Nat} {ds : List D} (h : ds.length ≠ 2) : isS n (.tuple ds) = false := by
  unfold isS
  split
  · rename_i e
    cases e
    exact absurd rfl h
  · rfl
/-- if t: return ..; the rest -/
theorem ssat_guard {t : EvT} {f g : StF} {ρ : AE} {w : Wp} {b : Bool} (e : t ρ = .ok b ρ) (h1 : b = true → SSat (f ρ) (w.next fun ρ' => SSat (g ρ') w)) (h2 : b = false → SSat (g ρ) w) : SSat (sSeq (sIf t f sNx) g ρ) w := by
  refine ssat_seq ?_
  rw [iff_seq (h := sNx) e]
  cases b with
  | true => exact h1 rfl
  | false => exact nx_in (h2 rfl)
theorem issigned_sem {d : D} {n : Nat} (h : Tm d) : FSat (is_signed_S [d, .int n]) (fun r fl outs => r = .bool (isS n d) ∧ fl = false) (fun _ => False) := by
  refine fsat_run rfl ?_
  show SSat (is_signed_F [.val d, .val (.int n)]) _
  unfold is_signed_F
  by_cases ht : ∃ ds, d = .tuple ds
  · obtain ⟨ds, rfl⟩ := ht
    rcases two_or (ds := ds) with ⟨s, w, rfl⟩ | h2
    · have hs : Tm s := tm_in h (by simp)
      have hw : Tm w := tm_in h (by simp)
      refine ssat_guard (b := !isI s) ?_ ?_ ?_
      · simp [tOr2, tNot1, tVal, eUn, oVar, isi_tup h, eBin, oOf, eOps, oList, stills, still, dLen, eCon, pair_ix0, isi_int1 hs]
      · intro hb
        refine ssat_ret (Sat.of rfl ⟨rfl, ?_, rfl⟩)
        cases s <;> first | rfl | cases hb
      · intro hb
        have e1 : eBin dIn (oOf (eBin dIx (oVar 0) (oOf (eCon (.int 0))))) (oOf (eTup [(eCon (.int 0)), (eCon (.int 1))])) [.val (.tuple [s, w]), .val (.int n)] = .ok (.bool (is01 s), false) [.val (.tuple [s, w]), .val (.int n)] := by
          simp [eBin, oOf, oVar, still, eCon, pair_ix0, eTup, eList, in01 hs]
        have e2 : eCall is_word_S [.val (eBin dIx (oVar 0) (oOf (eCon (.int 1)))), .val (eVar 1)] [.val (.tuple [s, w]), .val (.int n)] = .ok (.bool (isW n w), false) [.val (.tuple [s, w]), .val (.int n)] :=
          call2_eq (p := (w, false)) (q := (.int n, false)) (by simp [eBin, oOf, oVar, still, eCon, pair_ix1]) rfl (isword_sem hw)
        refine ssat_ret (Sat.bind (Sat.of e1 ?_))
        show Sat (if is01 s = true then _ else _) _
        have hS : isS n (.tuple [s, w]) = (is01 s && isW n w) := rfl
        cases h1 : is01 s with
        | true =>
          rw [if_pos rfl]
          exact Sat.of e2 ⟨rfl, by rw [hS, h1] <;> rfl, rfl⟩
        | false =>
          rw [if_neg (by simp)]
          exact ⟨rfl, by rw [hS, h1] <;> rfl, rfl⟩
    · refine ssat_guard (b := true) ?_ (fun _ => ssat_ret (Sat.of rfl ⟨rfl, by rw [isS_not2 h2] <;> rfl, rfl⟩)) (fun hb => by cases hb)
      have h3 : ¬ ((ds.length : Int) = 2) := by omega
      simp [tOr2, tNot1, tVal, eUn, oVar, isi_tup h, eBin, oOf, eOps, oList, stills, still, dLen, eCon, h3]
  · have e1 : dIsi "tuple" d = some (.bool false, false) := by
      rw [isi_tup h]
      cases d <;> first | rfl | exact absurd ⟨_, rfl⟩ ht
    have e2 : isS n d = false := by cases d <;> first | rfl | exact absurd ⟨_, rfl⟩ ht
    refine ssat_guard (b := true) ?_ (fun _ => ssat_ret (Sat.of rfl ⟨rfl, by rw [e2] <;> rfl, rfl⟩)) (fun hb => by cases hb)
    simp [tOr2, tNot1, tVal, eUn, oVar, e1]
theorem lissigned_sem {d : D} {n : Nat} (h : Tm d) : FSat (_law_is_signed_S [.int n, d]) (fun r fl outs => r = .bool (isS n d) ∧ fl = false) (fun _ => False) := by
  refine fsat_run rfl ?_
  show SSat (_law_is_signed_F [.val (.int n), .val d]) _
  unfold _law_is_signed_F
  refine ssat_ret ?_
  by_cases ht : ∃ ds, d = .tuple ds
  · obtain ⟨ds, rfl⟩ := ht
    have e1 : eUn (dIsi "tuple") (oVar 1) [.val (.int n), .val (.tuple ds)] = .ok (.bool true, false) [.val (.int n), .val (.tuple ds)] := by
      simp [eUn, oVar, isi_tup h]
    have e2 : eBin dEq (oOf (eOps dLen [(oVar 1)])) (oOf (eCon (.int 2))) [.val (.int n), .val (.tuple ds)] = .ok (.bool (decide ((ds.length : Int) = 2)), false) [.val (.int n), .val (.tuple ds)] := by
      simp [eBin, oOf, eOps, oList, oVar, stills, still, dLen, eCon]
    refine Sat.bind (Sat.of e1 ?_)
    show Sat (eAnd2 _ _ _) _
    refine Sat.bind (Sat.of e2 ?_)
    show Sat (if decide ((ds.length : Int) = 2) = true then _ else _) _
    rcases two_or (ds := ds) with ⟨s, w, rfl⟩ | h2
    · rw [if_pos (by simp)]
      have hs : Tm s := tm_in h (by simp)
      have hw : Tm w := tm_in h (by simp)
      have e3 : eBin dIn (oOf (eBin dIx (oVar 1) (oOf (eCon (.int 0))))) (oOf (eTup [(eCon (.int 0)), (eCon (.int 1))])) [.val (.int n), .val (.tuple [s, w])] = .ok (.bool (is01 s), false) [.val (.int n), .val (.tuple [s, w])] := by
        simp [eBin, oOf, oVar, still, eCon, pair_ix0, eTup, eList, in01 hs]
      have e4 : eCall _law_is_word_S [.val (eVar 0), .val (eBin dIx (oVar 1) (oOf (eCon (.int 1))))] [.val (.int n), .val (.tuple [s, w])] = .ok (.bool (isW n w), false) [.val (.int n), .val (.tuple [s, w])] :=
        call2_eq (p := (.int n, false)) (q := (w, false)) rfl (by simp [eBin, oOf, oVar, still, eCon, pair_ix1]) (lisword_sem hw)
      refine Sat.bind (Sat.of e3 ?_)
      show Sat (if is01 s = true then _ else _) _
      have hS : isS n (.tuple [s, w]) = (is01 s && isW n w) := rfl
      cases h1 : is01 s with
      | true =>
        rw [if_pos rfl]
        exact Sat.of e4 ⟨rfl, by rw [hS, h1] <;> rfl, rfl⟩
      | false =>
        rw [if_neg (by simp)]
        exact ⟨rfl, by rw [hS, h1] <;> rfl, rfl⟩
    · rw [if_neg (by simp; omega)]
      exact ⟨rfl, by rw [isS_not2 h2], rfl⟩
  · have e1 : eUn (dIsi "tuple") (oVar 1) [.val (.int n), .val d] = .ok (.bool false, false) [.val (.int n), .val d] := by
      have : dIsi "tuple" d = some (.bool false, false) := by
        rw [isi_tup h]
        cases d <;> first | rfl | exact absurd ⟨_, rfl⟩ ht
      simp [eUn, oVar, this]
    have e2 : isS n d = false := by cases d <;> first | rfl | exact absurd ⟨_, rfl⟩ ht
    refine Sat.bind (Sat.of e1 ?_)
    exact ⟨rfl, by rw [e2], rfl⟩
end Ow

namespace Ow
open PySem PyProof.Rows PySem.Spec L2
theorem compGo2_all {α β : Type} {own own1 : List Nat} {tg tg1 : Tg} {it1 : EvI} {el : EvE} {bs bs1 : Src} {ρ : AE} {f : α → D} {bnd : α → AE} {L1 : List β} {f1 : β → D} {bnd1 : α → β → AE} {g : α → β → D} (hs : stills bs ρ = true) : ∀ (L : List α) (acc : List D),
    (∀ x ∈ L, bindT tg (f x) ρ = some (bnd x) ∧ wipeA own (bnd x) = ρ ∧ it1 (bnd x) = .ok (L1.map f1, bs1) (bnd x) ∧ wipeA own1 (bnd x) = bnd x ∧ stills bs1 (bnd x) = true ∧ ∀ y ∈ L1, bindT tg1 (f1 y) (bnd x) = some (bnd1 x y) ∧ wipeA own1 (bnd1 x y) = bnd x ∧ el (bnd1 x y) = .ok (g x y, false) (bnd1 x y)) →
    acc.length + L.length * L1.length ≤ sizeLine → compGo2 own own1 tg tTrue it1 tg1 tTrue el bs (L.map f) ρ acc = .ok (acc ++ L.flatMap fun x => L1.map (g x)) ρ
  | [], acc, _, _ => by simp [compGo2, hs]
  | x :: L, acc, q, hz => by
    obtain ⟨h1, h2, h3, h4, h5, h6⟩ := q x (by simp)
    have hz' : acc.length + L1.length + L.length * L1.length ≤ sizeLine := by
      rw [List.length_cons, Nat.succ_mul] at hz
      omega
    have ih := compGo2_all (own := own) (own1 := own1) (tg := tg) (it1 := it1) (tg1 := tg1) (el := el) (bs1 := bs1) (bnd1 := bnd1) (g := g) (L1 := L1) (f1 := f1) hs L (acc ++ L1.map (g x)) (fun y hy => q y (List.mem_cons_of_mem _ hy)) (by rw [List.length_append, List.length_map]; exact hz')
    have c := compGo_any (own := own1) (tg := tg1) (tt := tTrue) (el := el) (bs := bs1) (ρ := bnd x) (f := f1) (bnd := bnd1 x) (p := fun _ => true) (g := fun y => (g x y, false)) h5 L1 acc fun y hy => ⟨(h6 y hy).1, (h6 y hy).2.1, rfl, fun _ => (h6 y hy).2.2⟩
    rw [filt_true] at c
    rw [List.map_cons]
    unfold compGo2
    rw [if_pos hs, h1]
    simp only [tTrue, nox, bind_ok, if_true, h3]
    rw [if_pos (by rw [List.length_map]; omega), h4]
    have c' : compGo own1 tg1 tTrue el bs1 (L1.map f1) (bnd x) acc = .ok (acc ++ L1.map (g x)) (bnd x) := c
    rw [c']
    simp only [bind_ok, h2]
    rw [ih]
    simp
theorem dAll_any {α : Type} {L : List α} {q : α → Bool} : dAll [.list (L.map fun x => .bool (q x))] = some (.bool (L.all q), false) := by
  simp [dAll, isBoolD, PyData.truthy, List.all_map, Function.comp_def]
theorem dAny_any {α : Type} {L : List α} {q : α → Bool} : dAny [.list (L.map fun x => .bool (q x))] = some (.bool (L.any q), false) := by
  simp [dAny, isBoolD, PyData.truthy, List.all_map, List.any_map, Function.comp_def]
theorem cut_tail {a : D} {l : List D} : cutD (a :: l) (some 1) none = l := by
  simp [cutD, HT.sIx]
/-! ### states -/
def shp (st : List SW) : Prop := 1 ≤ st.length ∧ st.length ≤ 4 ∧ ∀ p ∈ st, p.2.length = st.length ∧ (p.1 = 0 ∨ p.1 = 1)
def good (st : List SW) : Prop := (∀ p ∈ st, ∀ q ∈ st, par p.2 q.2 = false) ∧ apart st.length (st.map (·.2))
def isSt (d : D) : Prop := ∃ st : List SW, d = .tuple (st.map sp) ∧ shp st ∧ good st
noncomputable def stB (d : D) : Bool := @decide (isSt d) (Classical.propDecidable _)
theorem stB_iff {d : D} : stB d = true ↔ isSt d := by unfold stB; simp
theorem wd_inj {u v : Wd} (h : wd u = wd v) : u = v := hk_inj.mp (by rw [h])
theorem sp_inj {p q : SW} (h : sp p = sp q) : p = q := by
  have h := PyData.tuple.inj h
  simp only [List.cons.injEq, and_true] at h
  exact Prod.ext (PyData.int.inj h.1) (wd_inj h.2)
theorem sps_inj {a b : List SW} (h : a.map sp = b.map sp) : a = b := List.map_inj_right (fun x y h => sp_inj h) |>.mp h
theorem stB_sp {st : List SW} (h : shp st) : stB (.tuple (st.map sp)) = @decide (good st) (Classical.propDecidable _) := by
  rw [Bool.eq_iff_iff, stB_iff]
  simp only [decide_eq_true_eq]
  constructor
  · rintro ⟨st', e, _, g⟩
    rwa [sps_inj (PyData.tuple.inj e)]
  · exact fun g => ⟨st, rfl, h, g⟩
theorem stB_no {d : D} (h : ¬ isSt d) : stB d = false := by
  cases e : stB d with
  | false => rfl
  | true => exact absurd (stB_iff.mp e) h
theorem prods_words (n : Nat) : ∀ (st f : List SW), (st.foldl pstep f).map (·.2) = (st.map (·.2)).foldl (fun f w => f ++ f.map fun u => xw u w) (f.map (·.2))
  | [], _ => rfl
  | w :: st, f => by
    rw [List.foldl_cons, prods_words n st, List.map_cons, List.foldl_cons]
    congr 1
    unfold pstep
    rw [List.map_append, List.map_map, List.map_map] <;> rfl
theorem prods_span {n : Nat} {st : List SW} : (prodsL n st).map (·.2) = span n (st.map (·.2)) := prods_words n st _
theorem any_zero : ∀ {w : Wd} {n : Nat}, w.length = n → ((w.any fun a => decide (a ≠ 0)) = true ↔ w ≠ zw n)
  | [], n, h => by simp at h; subst h; simp [zw]
  | a :: w, 0, h => by cases h
  | a :: w, n + 1, h => by
    have ih := any_zero (w := w) (n := n) (by simp at h; exact h)
    show _ ↔ a :: w ≠ 0 :: zw n
    rw [List.any_cons, Bool.or_eq_true, ih, decide_eq_true_eq, ne_eq, ne_eq, ne_eq, List.cons.injEq]
    constructor
    · rintro (h | h) ⟨e1, e2⟩
      · exact h e1
      · exact h e2
    · intro h
      by_cases ha : a = 0
      · exact .inr fun e => h ⟨ha, e⟩
      · exact .inl ha
/-- the program's last row -/
theorem nonzero_iff {n : Nat} {st : List SW} (h : ∀ p ∈ st, p.2.length = n) : (((prodsL n st).tail.all fun p => p.2.any fun a => decide (a ≠ 0)) = true) ↔ apart n (st.map (·.2)) := by
  have hw : ∀ w ∈ st.map (·.2), w.length = n := fun w hw => by
    obtain ⟨p, hp, rfl⟩ := List.mem_map.mp hw
    exact h p hp
  rw [← tail_apart _ hw, ← prods_span, ← List.map_tail, List.all_eq_true]
  have hl : ∀ p ∈ (prodsL n st).tail, p.2.length = n := fun p hp => by
    have : p.2 ∈ span n (st.map (·.2)) := by
      rw [← prods_span]
      exact List.mem_map_of_mem (List.mem_of_mem_tail hp)
    exact span_len hw _ this
  constructor
  · intro q u hu
    obtain ⟨p, hp, rfl⟩ := List.mem_map.mp hu
    exact (any_zero (hl p hp)).mp (q p hp)
  · intro q p hp
    exact (any_zero (hl p hp)).mpr (q p.2 (List.mem_map_of_mem hp))
end Ow

namespace Ow
open PySem PyProof.Rows PySem.Spec L2
theorem tm_sp {p : SW} : Tm (sp p) := by
  show ([PyData.int p.1, wd p.2].all (tame 3)) = true
  have : tame 3 (wd p.2) = true := by
    show (wl p.2).all (tame 2) = true
    rw [List.all_eq_true]
    intro d hd
    unfold wl at hd
    obtain ⟨a, _, rfl⟩ := List.mem_map.mp hd
    rfl
  simp [this, tame]
theorem isstate_sem {d : D} (h : Tm d) : FSat (is_state_S [d]) (fun r fl outs => r = .bool (stB d) ∧ fl = false) (fun _ => False) := by
  refine fsat_run rfl ?_
  show SSat (is_state_F [.val d, .non, .non, .non, .non, .non, .non]) _
  unfold is_state_F
  have no : ∀ (w : Wp), stB d = false → (∀ ρ, w.rt (.bool false) false ρ = (inoStill [false] ρ = true ∧ PyData.bool false = .bool (stB d) ∧ false = false)) → SSat (sRet (eCon (.bool false)) [.val d, .non, .non, .non, .non, .non, .non]) w := fun w e hw => by
    refine ssat_ret (Sat.of rfl ?_)
    rw [hw]
    exact ⟨rfl, by rw [e], rfl⟩
  by_cases ht : ∃ ds, d = .tuple ds
  · obtain ⟨ds, rfl⟩ := ht
    refine ssat_guard (b := !(decide ((1 : Int) ≤ ds.length) && decide ((ds.length : Int) ≤ 4))) ?_ ?_ ?_
    · by_cases h1 : (1 : Int) ≤ ds.length <;> simp [tOr2, tNot1, tVal, eUn, oVar, isi_tup h, eChain, oOf, eOps, oList, stills, still, dLen, eCon, h1]
    · intro hb
      refine no _ (stB_no ?_) fun _ => rfl
      rintro ⟨st, e, hs, _⟩
      cases e
      obtain ⟨h1, h2, _⟩ := hs
      rw [List.length_map] at hb
      simp at hb
      omega
    · intro hb
      have c1 := eComp_all (own := [1]) (it := iSeq (oVar 0)) (bs := [(.tuple ds, none)]) (tg := .name 1) (el := eCall is_signed_S [.val (eVar 1), .val (eOps dLen [(oVar 0)])]) (ρ := [.val (.tuple ds), .non, .non, .non, .non, .non, .non]) ds id (fun x => [.val (.tuple ds), .val x, .non, .non, .non, .non, .non]) (fun x => (.bool (isS ds.length x), false)) (by rw [List.map_id] <;> rfl) rfl rfl fun x hx => ⟨rfl, rfl, call2_eq (p := (x, false)) (q := (.int ds.length, false)) rfl rfl (issigned_sem (tm_in h hx))⟩
      refine ssat_guard (b := !(ds.all (isS ds.length))) ?_ ?_ ?_
      · simp only [tNot1, tVal, eOps, oList, oOf, c1, bind_ok, stills, still_none, Bool.and_self, if_true, List.map_cons, List.map_nil, dAll_any]
      · intro hb2
        refine no _ (stB_no ?_) fun _ => rfl
        rintro ⟨st, e, hs, _⟩
        cases e
        rw [Bool.not_eq_true', ← Bool.not_eq_true, List.all_eq_true] at hb2
        refine hb2 fun x hx => ?_
        obtain ⟨p, hp, rfl⟩ := List.mem_map.mp hx
        rw [List.length_map]
        exact isS_sp.mpr ⟨p, rfl, (hs.2.2 p hp).1, (hs.2.2 p hp).2⟩
      · intro hb2
        rw [Bool.not_eq_false'] at hb2
        obtain ⟨st, rfl, hst⟩ := all_sp hb2
        rw [List.length_map] at hst
        simp only [Bool.not_eq_false', Bool.and_eq_true, decide_eq_true_eq, List.length_map] at hb
        have hs : shp st := ⟨by omega, by omega, hst⟩
        rw [stB_sp hs]
        have c2 := compGo2_all (own := [2, 3]) (own1 := [3]) (tg := .name 2) (tg1 := .name 3) (it1 := iSeq (oVar 0)) (el := eCall go_together_S [.val (eBin dIx (oVar 2) (oOf (eCon (.int 1)))), .val (eBin dIx (oVar 3) (oOf (eCon (.int 1))))]) (bs := [(.tuple (st.map sp), none)]) (bs1 := [(.tuple (st.map sp), none)]) (ρ := [.val (.tuple (st.map sp)), .non, .non, .non, .non, .non, .non]) (f := sp) (bnd := fun p => [.val (.tuple (st.map sp)), .non, .val (sp p), .non, .non, .non, .non]) (L1 := st) (f1 := sp) (bnd1 := fun p q => [.val (.tuple (st.map sp)), .non, .val (sp p), .val (sp q), .non, .non, .non]) (g := fun p q => .bool (!par p.2 q.2)) rfl st []
          (fun p hp => ⟨rfl, rfl, rfl, rfl, rfl, fun q hq => ⟨rfl, rfl, call2_eq (p := (wd p.2, false)) (q := (wd q.2, false)) rfl rfl go_ok⟩⟩) (by
            have : st.length * st.length ≤ 4 * 4 := Nat.mul_le_mul (by omega) (by omega)
            rw [List.length_nil, sizeLine_eq]; omega)
        have e3 : eComp2 [2, 3] [3] (iSeq (oVar 0)) (.name 2) tTrue (iSeq (oVar 0)) (.name 3) tTrue (eCall go_together_S [.val (eBin dIx (oVar 2) (oOf (eCon (.int 1)))), .val (eBin dIx (oVar 3) (oOf (eCon (.int 1))))]) [.val (.tuple (st.map sp)), .non, .non, .non, .non, .non, .non] = .ok (.list (st.flatMap fun p => st.map fun q => .bool (!par p.2 q.2)), true) [.val (.tuple (st.map sp)), .non, .non, .non, .non, .non, .non] := by
          unfold eComp2
          show ((compGo2 _ _ _ _ _ _ _ _ _ (st.map sp) [.val (.tuple (st.map sp)), .non, .non, .non, .non, .non, .non] []).bind _) = _
          rw [c2]
          rfl
        have fl : (st.flatMap fun p => st.map fun q => PyData.bool (!par p.2 q.2)) = (st.flatMap fun p => st.map fun q => (p, q)).map fun pq => .bool (!par pq.1.2 pq.2.2) := by
          rw [List.map_flatMap]
          congr 1
          funext p
          rw [List.map_map] <;> rfl
        rw [fl] at e3
        have gb : ((st.flatMap fun p => st.map fun q => (p, q)).all fun pq => !par pq.1.2 pq.2.2) = true ↔ ∀ p ∈ st, ∀ q ∈ st, par p.2 q.2 = false := by
          rw [List.all_eq_true]
          constructor
          · intro q p hp p' hp'
            have := q (p, p') (List.mem_flatMap.mpr ⟨p, hp, List.mem_map.mpr ⟨p', hp', rfl⟩⟩)
            simpa using this
          · intro q pq hpq
            obtain ⟨p, hp, hpq⟩ := List.mem_flatMap.mp hpq
            obtain ⟨p', hp', rfl⟩ := List.mem_map.mp hpq
            simpa using q p hp p' hp'
        refine ssat_guard (b := !((st.flatMap fun p => st.map fun q => (p, q)).all fun pq => !par pq.1.2 pq.2.2)) ?_ ?_ ?_
        · simp only [tNot1, tVal, eOps, oList, oOf, e3, bind_ok, stills, still_none, Bool.and_self, if_true, List.map_cons, List.map_nil, dAll_any]
        · intro hb3
          rw [Bool.not_eq_true', ← Bool.not_eq_true, gb] at hb3
          refine ssat_ret (Sat.of rfl ⟨rfl, ?_, rfl⟩)
          have : ¬ good st := fun g => hb3 g.1
          simp [this]
        · intro hb3
          rw [Bool.not_eq_false', gb] at hb3
          have c4 : eCall products_S [.val (eVar 0), .val (eOps dLen [(oVar 0)])] [.val (.tuple (st.map sp)), .non, .non, .non, .non, .non, .non] = .ok (.list ((prodsL st.length st).map sp), true) [.val (.tuple (st.map sp)), .non, .non, .non, .non, .non, .non] := by
            refine call2_eq (p := (.tuple (st.map sp), false)) (q := (.int (st.map sp).length, false)) rfl rfl ?_
            show FSat (products_S [.tuple (st.map sp), .int (st.map sp).length]) _ _
            rw [List.length_map]
            exact products_sem (by omega) (by omega)
          have tl : cutD ((prodsL st.length st).map sp) (some 1) none = (prodsL st.length st).tail.map sp := by
            cases hp : prodsL st.length st with
            | nil =>
              have : (prodsL st.length st).map (·.2) = [] := by rw [hp] <;> rfl
              rw [prods_span] at this
              exact absurd this span_ne
            | cons a l => exact cut_tail
          have c5 : iSeq (oOf (eSlice (oOf (eCall products_S [.val (eVar 0), .val (eOps dLen [(oVar 0)])])) (some (oOf (eCon (.int 1)))) none)) [.val (.tuple (st.map sp)), .non, .non, .non, .non, .non, .non] = .ok ((prodsL st.length st).tail.map sp, [(.list ((prodsL st.length st).tail.map sp), none)]) [.val (.tuple (st.map sp)), .non, .non, .non, .non, .non, .non] := by
            simp only [iSeq, oOf, eSlice, c4, bind_ok, evPart, eCon, still_none, if_true, tl, itemsD]
          have c6 := eComp_all (own := [4, 5]) (tg := .tup [.name 4, .name 5]) (el := eOps dAny [(oOf (eComp [6] (iSeq (oVar 5)) (.name 6) tTrue (eBin dNe (oVar 6) (oOf (eCon (.int 0))))))]) (prodsL st.length st).tail sp (fun p => [.val (.tuple (st.map sp)), .non, .non, .non, .val (.int p.1), .val (wd p.2), .non]) (fun p => (.bool (p.2.any fun a => decide (a ≠ 0)), false)) c5 rfl rfl fun p hp => ⟨rfl, rfl, by
            have c7 := eComp_all (own := [6]) (it := iSeq (oVar 5)) (bs := [(wd p.2, none)]) (tg := .name 6) (el := eBin dNe (oVar 6) (oOf (eCon (.int 0)))) (ρ := [.val (.tuple (st.map sp)), .non, .non, .non, .val (.int p.1), .val (wd p.2), .non]) p.2 sg (fun a => [.val (.tuple (st.map sp)), .non, .non, .non, .val (.int p.1), .val (wd p.2), .val (sg a)]) (fun a => (.bool (decide (a ≠ 0)), false)) rfl rfl rfl fun a ha => ⟨rfl, rfl, by
              rcases sg4 a with rfl | rfl | rfl | rfl <;> rfl⟩
            simp only [eOps, oList, oOf, c7, bind_ok, stills, still_none, Bool.and_self, if_true, List.map_cons, List.map_nil, dAny_any]⟩
          refine ssat_ret (sat_op1 (sat_oOf (Sat.of c6 ⟨rfl, _, dAll_any (q := fun p : SW => p.2.any fun a => decide (a ≠ 0)), rfl, ?_, rfl⟩)))
          refine congrArg PyData.bool ?_
          rw [Bool.eq_iff_iff, nonzero_iff fun p hp => (hst p hp).1]
          simp only [decide_eq_true_eq]
          exact ⟨fun a => ⟨hb3, a⟩, fun g => g.2⟩
  · have e1 : dIsi "tuple" d = some (.bool false, false) := by
      rw [isi_tup h]
      cases d <;> first | rfl | exact absurd ⟨_, rfl⟩ ht
    refine ssat_guard (b := true) ?_ (fun _ => no _ (stB_no ?_) fun _ => rfl) (fun hb => by cases hb)
    · simp [tOr2, tNot1, tVal, eUn, oVar, e1]
    · rintro ⟨st, e, _⟩
      exact ht ⟨_, e⟩
end Ow

namespace Ow
open PySem PyProof.Rows PySem.Spec L2
/-! ### what a dict has -/
theorem valK_mem {d : D} : ∀ {kvs : List (D × D)}, (valK kvs d).isSome = true ↔ hkD d ∈ kvs.map fun p => hkD p.1
  | [] => by simp [valK]
  | p :: kvs => by
    have ih := valK_mem (d := d) (kvs := kvs)
    unfold valK at ih ⊢
    rw [List.find?_cons, List.map_cons, List.mem_cons]
    by_cases h : hkD p.1 = hkD d
    · simp [h]
    · simp only [h, decide_false]
      rw [ih]
      constructor
      · exact .inr
      · rintro (e | e)
        · exact absurd e.symm h
        · exact e
theorem keys_put {x : NestedKey} {kvs : List (D × D)} {kd vd : D} : x ∈ (putK kvs kd vd).map (fun p => hkD p.1) ↔ x ∈ kvs.map (fun p => hkD p.1) ∨ x = hkD kd := by
  rw [put_keys]
  split
  · rename_i h
    constructor
    · exact .inl
    · rintro (e | rfl)
      · exact e
      · obtain ⟨p, hp, e⟩ := List.any_eq_true.mp h
        rw [decide_eq_true_eq] at e
        exact List.mem_map.mpr ⟨p, hp, e⟩
  · simp
theorem keys_all {x : NestedKey} : ∀ {ps kvs : List (D × D)}, x ∈ (putAll kvs ps).map (fun p => hkD p.1) ↔ x ∈ kvs.map (fun p => hkD p.1) ∨ x ∈ ps.map fun p => hkD p.1
  | [], kvs => by simp [putAll]
  | p :: ps, kvs => by
    have ih := keys_all (x := x) (ps := ps) (kvs := putK kvs p.1 p.2)
    show x ∈ (putAll (putK kvs p.1 p.2) ps).map (fun p => hkD p.1) ↔ _
    rw [ih, keys_put, List.map_cons, List.mem_cons, or_assoc]
theorem held_in {n : Nat} {st : List SW} {w : Wd} : (valK (heldK n st) (wd w)).isSome = true ↔ w ∈ span n (st.map (·.2)) := by
  rw [valK_mem]
  unfold heldK
  rw [keys_all, ← prods_span]
  simp only [List.map_nil, List.not_mem_nil, false_or, List.map_map, List.mem_map]
  constructor
  · rintro ⟨p, hp, e⟩
    exact ⟨p, hp, hk_inj.mp e⟩
  · rintro ⟨p, hp, rfl⟩
    exact ⟨p, hp, rfl⟩
theorem in_held {n : Nat} {st : List SW} {w : Wd} : dIn (wd w) (.dict (heldK n st)) = some (.bool (valK (heldK n st) (wd w)).isSome, false) := by
  show (if (dictOk (heldK n st) && keyT (wd w)) = true then some (PyData.bool _, false) else none) = _
  rw [if_pos (by rw [held_ok, keyT_wd] <;> rfl)]
/-! ### good, told one by one -/
def fine (st : List SW) (k : Nat) : Prop := ∀ (h : k < st.length), (∀ p ∈ st.take k, par p.2 (st[k]).2 = false) ∧ (st[k]).2 ∉ span st.length ((st.take k).map (·.2))
theorem good_iff {st : List SW} : good st ↔ ∀ k, k < st.length → fine st k := by
  constructor
  · rintro ⟨g1, g2⟩ k _ hk
    refine ⟨fun p hp => g1 p (List.mem_of_mem_take hp) _ (List.getElem_mem hk), ?_⟩
    have := g2 k (by rw [List.length_map]; exact hk)
    rw [List.getElem_map, ← List.map_take] at this
    exact this
  · intro f
    refine ⟨fun p hp q hq => ?_, fun k hk => ?_⟩
    · obtain ⟨i, hi, rfl⟩ := List.mem_iff_getElem.mp hp
      obtain ⟨j, hj, rfl⟩ := List.mem_iff_getElem.mp hq
      rcases Nat.lt_trichotomy i j with h | h | h
      · exact (f j hj hj).1 _ (List.mem_take_iff_getElem.mpr ⟨i, by omega, rfl⟩)
      · subst h; exact par_self _
      · rw [par_comm]
        exact (f i hi hi).1 _ (List.mem_take_iff_getElem.mpr ⟨j, by omega, rfl⟩)
    · have hk' : k < st.length := by rw [List.length_map] at hk; exact hk
      rw [List.getElem_map, ← List.map_take]
      exact (f k hk' hk').2
/-! ### the law's own reading -/
theorem gt_filter {α : Type} {l : List α} {p : α → Bool} : dGt (.int ((l.filter p).length : Nat)) (.int 0) = some (.bool (!(l.all fun d => !p d)), false) := by
  rw [dGt_ii]
  congr 3
  induction l with
  | nil => rfl
  | cons a l ih =>
    cases h : p a with
    | true => simp [h]
    | false => simpa [h] using ih
theorem cut_take {st : List SW} {k : Nat} : cutD (st.map sp) none (some (0 + (k : Int))) = (st.take k).map sp := by
  unfold cutD
  rw [HT.sIx_none, Int.zero_add, HT.sIx_nat, List.drop_zero, Nat.sub_zero, List.map_take, List.length_map]
  by_cases h : k ≤ st.length
  · rw [Nat.min_eq_left h]
  · rw [Nat.min_eq_right (by omega), List.take_of_length_le (by simp), List.take_of_length_le (by simp; omega)]
theorem sps_ix {st : List SW} {k : Nat} (h : k < st.length) : dIx (.tuple (st.map sp)) (.int (0 + (k : Int))) = some (sp st[k], false) := by
  have e : atI (st.map sp) (0 + (k : Int)) = some (sp st[k]) := by
    unfold atI
    have : ixN (st.map sp).length (0 + (k : Int)) = some k := by
      unfold ixN
      rw [List.length_map, if_pos (by omega)]
      simp
      omega
    rw [this]
    simp [h]
  show (atI (st.map sp) (0 + (k : Int))).map _ = _
  rw [e] <;> rfl
def lsT : EvT := (tOr2 (tVal (eBin dGt (oOf (eOps dLen [(oOf (eComp [1] (iSeq (oOf (eSlice (oVar 0) none (some (oVar 2))))) (.name 1) (tVal (eCall _law_parts_S [.val (eBin dIx (oVar 1) (oOf (eCon (.int 1)))), .val (eBin dIx (oOf (eBin dIx (oVar 0) (oVar 2))) (oOf (eCon (.int 1))))])) (eCon (.int 1))))])) (oOf (eCon (.int 0))))) (tVal (eBin dIn (oOf (eBin dIx (oOf (eBin dIx (oVar 0) (oVar 2))) (oOf (eCon (.int 1))))) (oOf (eCall _law_held_S [.val (eOps dLen [(oVar 0)]), .val (eSlice (oVar 0) none (some (oVar 2)))])))))
theorem lsT_eq {st : List SW} {k : Nat} (hs : shp st) (h : k < st.length) : ∃ b, lsT [.val (.tuple (st.map sp)), .non, .val (.int (0 + (k : Int)))] = .ok b [.val (.tuple (st.map sp)), .non, .val (.int (0 + (k : Int)))] ∧ (b = false ↔ fine st k) := by
  obtain ⟨s1, s2, s3⟩ := hs
  have x1 : ∀ s : Slot, eBin dIx (oOf (eBin dIx (oVar 0) (oVar 2))) (oOf (eCon (.int 1))) [.val (.tuple (st.map sp)), s, .val (.int (0 + (k : Int)))] = .ok (wd st[k].2, false) [.val (.tuple (st.map sp)), s, .val (.int (0 + (k : Int)))] := fun s => by
    simp only [eBin, oVar, oOf, List.getElem?_cons_zero, List.getElem?_cons_succ, bind_ok, still_none, if_true, sps_ix h, eCon]
    rw [show dIx (sp st[k]) (.int 1) = some (wd st[k].2, false) from pair_ix1 _ _]
  have x2 : eSlice (oVar 0) none (some (oVar 2)) [.val (.tuple (st.map sp)), .non, .val (.int (0 + (k : Int)))] = .ok (.tuple ((st.take k).map sp), false) [.val (.tuple (st.map sp)), .non, .val (.int (0 + (k : Int)))] := by
    simp only [eSlice, oVar, List.getElem?_cons_zero, List.getElem?_cons_succ, bind_ok, evPart, still_none, if_true, cut_take]
  have i0 : iSeq (oOf (eSlice (oVar 0) none (some (oVar 2)))) [.val (.tuple (st.map sp)), .non, .val (.int (0 + (k : Int)))] = .ok ((st.take k).map sp, [(.tuple ((st.take k).map sp), none)]) [.val (.tuple (st.map sp)), .non, .val (.int (0 + (k : Int)))] := by
    simp only [iSeq, oOf, x2, bind_ok, itemsD]
  have lk : st[k].2.length = st.length := (s3 _ (List.getElem_mem h)).1
  have c := eComp_any (own := [1]) (tg := .name 1) (tt := tVal (eCall _law_parts_S [.val (eBin dIx (oVar 1) (oOf (eCon (.int 1)))), .val (eBin dIx (oOf (eBin dIx (oVar 0) (oVar 2))) (oOf (eCon (.int 1))))])) (el := eCon (.int 1)) (st.take k) sp (fun p => [.val (.tuple (st.map sp)), .val (sp p), .val (.int (0 + (k : Int)))]) (fun p => par p.2 st[k].2) (fun _ => (.int 1, false)) i0 rfl rfl fun p hp => ⟨rfl, rfl, by
    have lp : p.2.length = st.length := (s3 _ (List.mem_of_mem_take hp)).1
    have := call2_eq (p := (wd p.2, false)) (q := (wd st[k].2, false)) (f := eBin dIx (oVar 1) (oOf (eCon (.int 1)))) (ρ := [.val (.tuple (st.map sp)), .val (sp p), .val (.int (0 + (k : Int)))]) rfl (x1 _) (lparts_ok (by omega) (by omega))
    simp only [tVal, this, bind_ok], fun _ => rfl⟩
  have hd : eCall _law_held_S [.val (eOps dLen [(oVar 0)]), .val (eSlice (oVar 0) none (some (oVar 2)))] [.val (.tuple (st.map sp)), .non, .val (.int (0 + (k : Int)))] = .ok (.dict (heldK st.length (st.take k)), true) [.val (.tuple (st.map sp)), .non, .val (.int (0 + (k : Int)))] := by
    refine call2_eq (p := (.int (st.map sp).length, false)) (q := (.tuple ((st.take k).map sp), false)) rfl x2 ?_
    show FSat (_law_held_S [.int (st.map sp).length, .tuple ((st.take k).map sp)]) _ _
    rw [List.length_map]
    exact lheld_sem (by omega) (by rw [List.length_take]; omega)
  refine ⟨!((st.take k).all fun p => !par p.2 st[k].2) || (valK (heldK st.length (st.take k)) (wd st[k].2)).isSome, ?_, ?_⟩
  · unfold lsT
    have t1 : (tVal (eBin dGt (oOf (eOps dLen [(oOf (eComp [1] (iSeq (oOf (eSlice (oVar 0) none (some (oVar 2))))) (.name 1) (tVal (eCall _law_parts_S [.val (eBin dIx (oVar 1) (oOf (eCon (.int 1)))), .val (eBin dIx (oOf (eBin dIx (oVar 0) (oVar 2))) (oOf (eCon (.int 1))))])) (eCon (.int 1))))])) (oOf (eCon (.int 0))))) [.val (.tuple (st.map sp)), .non, .val (.int (0 + (k : Int)))] = .ok (!((st.take k).all fun p => !par p.2 st[k].2)) [.val (.tuple (st.map sp)), .non, .val (.int (0 + (k : Int)))] := by
      simp only [tVal, eBin, eOps, oList, oOf, c, bind_ok, stills, still_none, Bool.and_self, if_true, List.map_cons, List.map_nil, dLen, eCon, List.length_map, gt_filter]
    have t2 : (tVal (eBin dIn (oOf (eBin dIx (oOf (eBin dIx (oVar 0) (oVar 2))) (oOf (eCon (.int 1))))) (oOf (eCall _law_held_S [.val (eOps dLen [(oVar 0)]), .val (eSlice (oVar 0) none (some (oVar 2)))])))) [.val (.tuple (st.map sp)), .non, .val (.int (0 + (k : Int)))] = .ok ((valK (heldK st.length (st.take k)) (wd st[k].2)).isSome) [.val (.tuple (st.map sp)), .non, .val (.int (0 + (k : Int)))] := by
      unfold tVal
      rw [eBin]
      simp only [oOf, x1, hd, bind_ok, still_none, if_true, in_held]
    simp only [tOr2, t1, bind_ok]
    cases ((st.take k).all fun p => !par p.2 st[k].2) with
    | false => rfl
    | true =>
      simp only [Bool.not_true, Bool.false_eq_true, if_false, Bool.false_or]
      exact t2
  · rw [Bool.or_eq_false_iff, Bool.not_eq_false', List.all_eq_true, ← Bool.not_eq_true, held_in]
    unfold fine
    constructor
    · rintro ⟨q1, q2⟩ _
      exact ⟨fun p hp => by simpa using q1 p hp, q2⟩
    · intro q
      obtain ⟨q1, q2⟩ := q h
      exact ⟨fun p hp => by simpa using q1 p hp, q2⟩
end Ow

namespace Ow
open PySem PyProof.Rows PySem.Spec L2
theorem lisstate_sem {d : D} (h : Tm d) : FSat (_law_is_state_S [d]) (fun r fl outs => r = .bool (stB d) ∧ fl = false) (fun _ => False) := by
  refine fsat_run rfl ?_
  show SSat (_law_is_state_F [.val d, .non, .non]) _
  unfold _law_is_state_F
  by_cases ht : ∃ ds, d = .tuple ds
  · obtain ⟨ds, rfl⟩ := ht
    by_cases hlen : 1 ≤ ds.length ∧ ds.length ≤ 4
    · have h1 : (1 : Int) ≤ ds.length := by omega
      have h4 : (ds.length : Int) ≤ 4 := by omega
      have c1 := eComp_any (own := [1]) (it := iSeq (oVar 0)) (bs := [(.tuple ds, none)]) (tg := .name 1) (tt := tNot1 (tVal (eCall _law_is_signed_S [.val (eOps dLen [(oVar 0)]), .val (eVar 1)]))) (el := eCon (.int 1)) (ρ := [.val (.tuple ds), .non, .non]) ds id (fun x => [.val (.tuple ds), .val x, .non]) (fun x => !isS ds.length x) (fun _ => (.int 1, false)) (by rw [List.map_id] <;> rfl) rfl rfl fun x hx => ⟨rfl, rfl, by
        have := call2_eq (f := eOps dLen [(oVar 0)]) (g := eVar 1) (ρ := [.val (.tuple ds), .val x, .non]) (p := (.int ds.length, false)) (q := (x, false)) rfl rfl (lissigned_sem (tm_in h hx))
        simp only [tNot1, tVal, id, this, bind_ok], fun _ => rfl⟩
      refine ssat_guard (b := !(ds.all (isS ds.length))) ?_ ?_ ?_
      · have q1 : (tNot1 (tVal (eUn (dIsi "tuple") (oVar 0)))) [.val (.tuple ds), .non, .non] = .ok false [.val (.tuple ds), .non, .non] := by
          simp [tNot1, tVal, eUn, oVar, isi_tup h]
        have q2 : (tNot1 (tVal (eChain dLe dLe (oOf (eCon (.int 1))) (oOf (eOps dLen [(oVar 0)])) (oOf (eCon (.int 4)))))) [.val (.tuple ds), .non, .non] = .ok false [.val (.tuple ds), .non, .non] := by
          simp [tNot1, tVal, eChain, oOf, eOps, oList, oVar, stills, still, dLen, eCon, h1, h4]
        have q3 : (tVal (eBin dGt (oOf (eOps dLen [(oOf (eComp [1] (iSeq (oVar 0)) (.name 1) (tNot1 (tVal (eCall _law_is_signed_S [.val (eOps dLen [(oVar 0)]), .val (eVar 1)]))) (eCon (.int 1))))])) (oOf (eCon (.int 0))))) [.val (.tuple ds), .non, .non] = .ok (!(ds.all (isS ds.length))) [.val (.tuple ds), .non, .non] := by
          simp only [tVal, eBin, eOps, oList, oOf, c1, bind_ok, stills, still_none, Bool.and_self, if_true, List.map_cons, List.map_nil, dLen, eCon, List.length_map, gt_filter, Bool.not_not]
        simp only [tOr2, q1, q2, q3, bind_ok, Bool.false_eq_true, if_false]
      · intro hb
        refine ssat_ret (Sat.of rfl ⟨rfl, ?_, rfl⟩)
        rw [stB_no]
        rintro ⟨st, e, hs, _⟩
        cases e
        rw [Bool.not_eq_true', ← Bool.not_eq_true, List.all_eq_true] at hb
        refine hb fun x hx => ?_
        obtain ⟨p, hp, rfl⟩ := List.mem_map.mp hx
        rw [List.length_map]
        exact isS_sp.mpr ⟨p, rfl, (hs.2.2 p hp).1, (hs.2.2 p hp).2⟩
      · intro hb
        rw [Bool.not_eq_false'] at hb
        obtain ⟨st, rfl, hst⟩ := all_sp hb
        rw [List.length_map] at hst hlen
        have hs : shp st := ⟨hlen.1, hlen.2, hst⟩
        rw [stB_sp hs]
        have i0 : iRange1 (oOf (eOps dLen [(oVar 0)])) [.val (.tuple (st.map sp)), .non, .non] = .ok (rangeD 0 st.length, []) [.val (.tuple (st.map sp)), .non, .non] := by
          have := rng_len (f := oOf (eOps dLen [(oVar 0)])) (n := st.map sp) (ρ := [.val (.tuple (st.map sp)), .non, .non]) rfl (by rw [List.length_map]; omega)
          rw [this, List.length_map]
        refine ssat_seq (ssat_forS (Sat.of i0 ⟨rfl, ?_⟩))
        refine ssat_for (fun ds ρ => ∃ (k : Nat) (s : Slot), ds = ((List.range st.length).drop k).map (fun (i : Nat) => PyData.int (0 + (i : Int))) ∧ (∀ j, j < k → j < st.length → fine st j) ∧ quiet (some s) ∧ ρ = [.val (.tuple (st.map sp)), .non, s]) ?_ ?_ _ _ ⟨0, .non, rfl, fun j hj => absurd hj (Nat.not_lt_zero _), trivial, rfl⟩
        · rintro x xs ρ ⟨k, s, hd, hf, hq, rfl⟩
          refine ⟨rfl, ?_⟩
          by_cases hk : k < st.length
          · have e : (List.range st.length).drop k = k :: (List.range st.length).drop (k + 1) := by
              have := List.drop_eq_getElem_cons (l := List.range st.length) (i := k) (by simpa using hk)
              rw [List.getElem_range] at this
              exact this
            rw [e, List.map_cons, List.cons.injEq] at hd
            obtain ⟨rfl, rfl⟩ := hd
            refine ⟨[.val (.tuple (st.map sp)), .non, .val (.int (0 + (k : Int)))], by cases s <;> first | rfl | exact hq.elim, ?_⟩
            obtain ⟨b, eb, fb⟩ := lsT_eq hs hk
            show SSat (sIf lsT _ _ _) _
            rw [iff_seq (h := sNx) eb]
            cases b with
            | true =>
              rw [if_pos rfl]
              refine ssat_ret (Sat.of rfl ⟨rfl, ?_, rfl⟩)
              have : ¬ good st := fun g => by
                have := fb.mpr (good_iff.mp g k hk)
                cases this
              simp [this]
            | false =>
              rw [if_neg (by simp)]
              refine nx_in ⟨k + 1, .val (.int (0 + (k : Int))), rfl, fun j hj hj' => ?_, trivial, rfl⟩
              rcases Nat.lt_succ_iff_lt_or_eq.mp hj with q | q
              · exact hf j q hj'
              · subst q; exact fb.mp rfl
          · rw [List.drop_eq_nil_of_le (by simp; omega)] at hd
            cases hd
        · rintro ρ ⟨k, s, hd, hf, hq, rfl⟩
          refine ⟨rfl, nx_in ?_⟩
          have hk : st.length ≤ k := by
            rcases Nat.lt_or_ge k st.length with q | q
            · have := congrArg List.length hd
              simp at this
              omega
            · exact q
          refine ssat_ret (Sat.of rfl ⟨rfl, ?_, rfl⟩)
          have : good st := good_iff.mpr fun j hj => hf j (by omega) hj
          simp [this]
    · refine ssat_guard (b := true) ?_ (fun _ => ssat_ret (Sat.of rfl ⟨rfl, ?_, rfl⟩)) (fun hb => by cases hb)
      · have q1 : (tNot1 (tVal (eUn (dIsi "tuple") (oVar 0)))) [.val (.tuple ds), .non, .non] = .ok false [.val (.tuple ds), .non, .non] := by
          simp [tNot1, tVal, eUn, oVar, isi_tup h]
        have q2 : (tNot1 (tVal (eChain dLe dLe (oOf (eCon (.int 1))) (oOf (eOps dLen [(oVar 0)])) (oOf (eCon (.int 4)))))) [.val (.tuple ds), .non, .non] = .ok true [.val (.tuple ds), .non, .non] := by
          by_cases h1 : (1 : Int) ≤ ds.length
          · have h4 : ¬ (ds.length : Int) ≤ 4 := by omega
            simp [tNot1, tVal, eChain, oOf, eOps, oList, oVar, stills, still, dLen, eCon, h1, h4]
          · simp [tNot1, tVal, eChain, oOf, eOps, oList, oVar, stills, still, dLen, eCon, h1]
        simp only [tOr2, q1, q2, bind_ok, Bool.false_eq_true, if_false, if_true]
      · rw [stB_no]
        rintro ⟨st, e, hs, _⟩
        cases e
        rw [List.length_map] at hlen
        exact hlen ⟨hs.1, hs.2.1⟩
  · have e1 : dIsi "tuple" d = some (.bool false, false) := by
      rw [isi_tup h]
      cases d <;> first | rfl | exact absurd ⟨_, rfl⟩ ht
    refine ssat_guard (b := true) ?_ (fun _ => ssat_ret (Sat.of rfl ⟨rfl, ?_, rfl⟩)) (fun hb => by cases hb)
    · simp [tOr2, tNot1, tVal, eUn, oVar, e1]
    · rw [stB_no]
      rintro ⟨st, e, _⟩
      exact ht ⟨_, e⟩
end Ow

namespace Ow
open PySem PyProof.Rows PySem.Spec L2
/-! ### what is told -/
theorem read_prim : ∀ d : D, rdOk 7 d = true → readD2 d = some d := fun d h => by unfold readD2; rw [if_pos h]
/-- the told answer of a call, as it comes out -/
def tellR : Option FR → Option D
  | some (.ret d _ _) => (readD2 d).map fun r => .tuple [.int 0, r]
  | some (.exc c) => (toldWord c).map fun x => .tuple [.int 1, .str x]
  | none => none
theorem call_ps {sem : Fun} {as : List EvA} {ps : List (D × Option Nat)} {ρ : AE} (h : evArgs as ρ = .ok ps ρ) (hn : ∀ p ∈ ps, p.2 = none) : eCall sem as ρ = match sem (ps.map (·.1)) with | some (.ret d fl _) => .ok (d, fl) ρ | some (.exc c) => .exc c | none => .stuck := by
  unfold eCall
  rw [h]
  simp only [bind_ok]
  have h1 : refsOk ps ρ = true := by
    unfold refsOk
    rw [List.all_eq_true]
    intro j hj
    have hj : j < ps.length := List.mem_range.mp hj
    have : ps[j]? = some ps[j] := List.getElem?_eq_getElem hj
    rw [this]
    have e := hn ps[j] (List.getElem_mem hj)
    revert e
    cases ps[j] with
    | mk a b => intro e; cases e; rfl
  rw [if_pos h1]
  have h2 : nowD ps ρ = ps.map (·.1) := by
    unfold nowD
    apply List.map_congr_left; intro p hp
    rw [hn p hp]
  rw [h2]
  cases sem (ps.map (·.1)) with
  | none => rfl
  | some r =>
    cases r with
    | ret d fl outs =>
      show Res.ok (d, fl) (putOuts ps outs ρ) = _
      rw [putOuts_none hn]
    | exc c => rfl
theorem told_any {sem : Fun} {as : List EvA} {ps : List (D × Option Nat)} {ρ : AE} {a : D} (h : evArgs as (maskA ρ) = .ok ps (maskA ρ)) (hn : ∀ p ∈ ps, p.2 = none) (ht : tellR (sem (ps.map (·.1))) = some a) : eTold readD2 toldWord (eCall sem as) ρ = .ok (a, false) ρ := by
  unfold eTold
  rw [call_ps h hn]
  revert ht
  cases sem (ps.map (·.1)) with
  | none => intro ht; cases ht
  | some r =>
    cases r with
    | ret d fl outs =>
      intro ht
      obtain ⟨r, hr, rfl⟩ := Option.map_eq_some_iff.mp ht
      simp only [hr]
    | exc c =>
      intro ht
      obtain ⟨x, hx, rfl⟩ := Option.map_eq_some_iff.mp ht
      simp only [hx]
theorem word_state : toldWord ("BadState" : Str) = some ("state" : Str) := by decide
def bad1 : D := .tuple [.int 1, .str "state"]
/-- a def that raises BadState or answers -/
theorem tell_of {r : Option FR} {P : D → Prop} {N : Prop} (h : FSat r (fun d _ _ => P d) (fun c => c = "BadState" ∧ N)) : (∃ d, P d ∧ tellR r = (readD2 d).map fun r => .tuple [.int 0, r]) ∨ (N ∧ tellR r = some bad1) := by
  cases r with
  | none => exact h.elim
  | some r =>
    cases r with
    | ret d fl outs => exact .inl ⟨d, h, rfl⟩
    | exc c =>
      obtain ⟨rfl, hn⟩ := h
      exact .inr ⟨hn, by simp only [tellR, word_state, Option.map_some, bad1]⟩
/-! ### check_state -/
theorem check_sem {d : D} (h : Tm d) : FSat (check_state_S [d]) (fun r fl outs => r = .none ∧ stB d = true) (fun c => c = "BadState" ∧ stB d = false) := by
  refine fsat_run rfl ?_
  show SSat (check_state_F [.val d]) _
  unfold check_state_F
  have c : eCall is_state_S [.val (eVar 0)] [.val d] = .ok (.bool (stB d), false) [.val d] := call1_eq (p := (d, false)) rfl (isstate_sem h)
  rw [iff_seq (h := sNx) (b := !stB d) (by simp only [tNot1, tVal, c, bind_ok])]
  cases e : stB d with
  | true => exact ⟨rfl, rfl, rfl⟩
  | false => exact ⟨rfl, rfl⟩
/-! ### multiply -/
def isTupB : D → Bool
  | .tuple _ => true
  | _ => false
theorem isi_tupB {d : D} (h : Tm d) : dIsi "tuple" d = some (.bool (isTupB d), false) := by
  rw [isi_tup h]
  cases d <;> rfl
def placesB : D → Nat
  | .tuple [_, .tuple ds] => ds.length
  | _ => 0
theorem places_sem {d : D} (h : Tm d) : FSat (places_of_S [d]) (fun r fl outs => r = .int (placesB d) ∧ fl = false) (fun _ => False) := by
  refine fsat_run rfl ?_
  show SSat (places_of_F [.val d]) _
  unfold places_of_F
  by_cases ht : ∃ ds, d = .tuple ds
  · obtain ⟨ds, rfl⟩ := ht
    rcases two_or (ds := ds) with ⟨s, w, rfl⟩ | h2
    · have hw : Tm w := tm_in h (by simp)
      refine ssat_guard (b := isTupB w) ?_ ?_ ?_
      · simp [tAnd2, tVal, eUn, oVar, isi_tup h, eBin, oOf, eOps, oList, stills, still, dLen, eCon, pair_ix1, isi_tupB hw]
      · intro hb
        cases w with
        | tuple ws =>
          refine ssat_ret (Sat.of (a := (.int ws.length, false)) (ρ' := [.val (.tuple [s, .tuple ws])]) ?_ ⟨rfl, rfl, rfl⟩)
          simp [eOps, oList, oOf, eBin, oVar, still, stills, eCon, pair_ix1, dLen]
        | _ => cases hb
      · intro hb
        refine ssat_ret (Sat.of rfl ⟨rfl, ?_, rfl⟩)
        cases w <;> first | rfl | cases hb
    · refine ssat_guard (b := false) ?_ (fun hb => by cases hb) (fun _ => ssat_ret (Sat.of rfl ⟨rfl, ?_, rfl⟩))
      · have h3 : ¬ ((ds.length : Int) = 2) := by omega
        simp [tAnd2, tVal, eUn, oVar, isi_tup h, eBin, oOf, eOps, oList, stills, still, dLen, eCon, h3]
      · have : placesB (.tuple ds) = 0 := by
          unfold placesB
          split
          · rename_i e
            cases e
            exact absurd rfl h2
          · rfl
        rw [this] <;> rfl
  · have e1 : dIsi "tuple" d = some (.bool false, false) := by
      rw [isi_tup h]
      cases d <;> first | rfl | exact absurd ⟨_, rfl⟩ ht
    refine ssat_guard (b := false) ?_ (fun hb => by cases hb) (fun _ => ssat_ret (Sat.of rfl ⟨rfl, ?_, rfl⟩))
    · simp [tAnd2, tVal, eUn, oVar, e1]
    · have : placesB d = 0 := by cases d <;> first | rfl | exact absurd ⟨_, rfl⟩ ht
      rw [this] <;> rfl
/-- signed words over equally many places that go together -/
def mulD (a b : D) : Prop := ∃ p q : SW, a = sp p ∧ b = sp q ∧ 1 ≤ p.2.length ∧ p.2.length ≤ 4 ∧ q.2.length = p.2.length ∧ (p.1 = 0 ∨ p.1 = 1) ∧ (q.1 = 0 ∨ q.1 = 1) ∧ par p.2 q.2 = false
theorem places_sp (p : SW) : placesB (sp p) = p.2.length := by
  show (wl p.2).length = _
  unfold wl
  rw [List.length_map]
theorem mult_sem {a b : D} (ha : Tm a) (hb : Tm b) : FSat (multiply_S [a, b]) (fun r fl outs => ∃ p q : SW, a = sp p ∧ b = sp q ∧ mulD a b ∧ r = sp (tms p q)) (fun c => c = "BadState" ∧ ¬ mulD a b) := by
  refine fsat_run rfl ?_
  show SSat (multiply_F [.val a, .val b, .non]) _
  unfold multiply_F
  have c0 : eCall places_of_S [.val (eVar 0)] [.val a, .val b, .non] = .ok (.int (placesB a), false) [.val a, .val b, .non] := call1_eq (p := (a, false)) rfl (places_sem ha)
  refine ssat_seq (ssat_asg (Sat.of c0 ⟨rfl, nx_in ?_⟩))
  show SSat _ _
  have c1 : eCall is_signed_S [.val (eVar 0), .val (eVar 2)] [.val a, .val b, .val (.int (placesB a))] = .ok (.bool (isS (placesB a) a), false) [.val a, .val b, .val (.int (placesB a))] := call2_eq (p := (a, false)) (q := (.int (placesB a), false)) rfl rfl (issigned_sem ha)
  have c2 : eCall is_signed_S [.val (eVar 1), .val (eVar 2)] [.val a, .val b, .val (.int (placesB a))] = .ok (.bool (isS (placesB a) b), false) [.val a, .val b, .val (.int (placesB a))] := call2_eq (p := (b, false)) (q := (.int (placesB a), false)) rfl rfl (issigned_sem hb)
  have c3 : (tOr2 (tNot1 (tVal (eChain dLe dLe (oOf (eCon (.int 1))) (oVar 2) (oOf (eCon (.int 4)))))) (tOr2 (tNot1 (tVal (eCall is_signed_S [.val (eVar 0), .val (eVar 2)]))) (tNot1 (tVal (eCall is_signed_S [.val (eVar 1), .val (eVar 2)]))))) [.val a, .val b, .val (.int (placesB a))] = .ok (!(decide (1 ≤ placesB a) && decide (placesB a ≤ 4) && isS (placesB a) a && isS (placesB a) b)) [.val a, .val b, .val (.int (placesB a))] := by
    have q : (tVal (eChain dLe dLe (oOf (eCon (.int 1))) (oVar 2) (oOf (eCon (.int 4))))) [.val a, .val b, .val (.int (placesB a))] = .ok (decide (1 ≤ placesB a) && decide (placesB a ≤ 4)) [.val a, .val b, .val (.int (placesB a))] := by
      by_cases h1 : 1 ≤ placesB a
      · have h1' : (1 : Int) ≤ placesB a := by omega
        by_cases h4 : placesB a ≤ 4
        · have h4' : (placesB a : Int) ≤ 4 := by omega
          simp [tVal, eChain, oOf, oVar, still, eCon, h1, h1', h4, h4']
        · have h4' : ¬ (placesB a : Int) ≤ 4 := by omega
          simp [tVal, eChain, oOf, oVar, still, eCon, h1, h1', h4, h4']
      · have h1' : ¬ (1 : Int) ≤ placesB a := by omega
        simp [tVal, eChain, oOf, oVar, still, eCon, h1, h1']
    have q1 : (tVal (eCall is_signed_S [.val (eVar 0), .val (eVar 2)])) [.val a, .val b, .val (.int (placesB a))] = .ok (isS (placesB a) a) [.val a, .val b, .val (.int (placesB a))] := by simp only [tVal, c1, bind_ok]
    have q2 : (tVal (eCall is_signed_S [.val (eVar 1), .val (eVar 2)])) [.val a, .val b, .val (.int (placesB a))] = .ok (isS (placesB a) b) [.val a, .val b, .val (.int (placesB a))] := by simp only [tVal, c2, bind_ok]
    simp only [tOr2, tNot1, q, q1, q2, bind_ok]
    cases decide (1 ≤ placesB a) <;> cases decide (placesB a ≤ 4) <;> cases isS (placesB a) a <;> cases isS (placesB a) b <;> rfl
  show SSat (sSeq (sIf _ _ _) _ [.val a, .val b, .val (.int (placesB a))]) _
  refine ssat_guard c3 ?_ ?_
  · intro h
    refine ⟨rfl, ?_⟩
    rintro ⟨p, q, rfl, rfl, h1, h2, h3, h4, h5, _⟩
    rw [places_sp] at h
    rw [isS_sp.mpr ⟨p, rfl, rfl, h4⟩, isS_sp.mpr ⟨q, rfl, h3, h5⟩] at h
    rw [decide_eq_true h1, decide_eq_true h2] at h
    cases h
  · intro h
    simp only [Bool.not_eq_false', Bool.and_eq_true, decide_eq_true_eq] at h
    obtain ⟨⟨⟨h1, h2⟩, h3⟩, h4⟩ := h
    obtain ⟨p, rfl, h5, h6⟩ := isS_sp.mp h3
    obtain ⟨q, rfl, h7, h8⟩ := isS_sp.mp h4
    have c4 : eCall go_together_S [.val (eBin dIx (oVar 0) (oOf (eCon (.int 1)))), .val (eBin dIx (oVar 1) (oOf (eCon (.int 1))))] [.val (sp p), .val (sp q), .val (.int (placesB (sp p)))] = .ok (.bool (!par p.2 q.2), false) [.val (sp p), .val (sp q), .val (.int (placesB (sp p)))] :=
      call2_eq (p := (wd p.2, false)) (q := (wd q.2, false)) rfl rfl go_ok
    refine ssat_guard (b := par p.2 q.2) (by simp only [tNot1, tVal, c4, bind_ok, Bool.not_not]) ?_ ?_
    · intro hp
      refine ⟨rfl, ?_⟩
      rintro ⟨p', q', e1, e2, _, _, _, _, _, hp'⟩
      rw [← sp_inj e1, ← sp_inj e2, hp] at hp'
      cases hp'
    · intro hp
      have c5 : eCall product_S [.val (eVar 0), .val (eVar 1)] [.val (sp p), .val (sp q), .val (.int (placesB (sp p)))] = .ok (sp (tms p q), false) [.val (sp p), .val (sp q), .val (.int (placesB (sp p)))] :=
        call2_eq (p := (sp p, false)) (q := (sp q, false)) rfl rfl product_ok
      rw [places_sp] at h1 h2 h7
      exact ssat_ret (Sat.of c5 ⟨rfl, p, q, rfl, rfl, ⟨p, q, rfl, rfl, h1, h2, h7, h6, h8, hp⟩, rfl⟩)
end Ow

namespace Ow
open PySem PyProof.Rows PySem.Spec L2
def holdD (d w : D) : Prop := ∃ (st : List SW) (u : Wd), d = .tuple (st.map sp) ∧ shp st ∧ good st ∧ w = wd u ∧ u.length = st.length
theorem tm_sps {st : List SW} : Tm (.tuple (st.map sp)) := by
  show (st.map sp).all (tame 3) = true
  rw [List.all_eq_true]
  intro d hd
  obtain ⟨p, _, rfl⟩ := List.mem_map.mp hd
  show ([PyData.int p.1, wd p.2].all (tame 2)) = true
  have : tame 2 (wd p.2) = true := by
    show (wl p.2).all (tame 1) = true
    rw [List.all_eq_true]
    intro d hd
    unfold wl at hd
    obtain ⟨a, _, rfl⟩ := List.mem_map.mp hd
    rfl
  simp [this, tame]
theorem tm_wd {u : Wd} : Tm (wd u) := by
  show (wl u).all (tame 3) = true
  rw [List.all_eq_true]
  intro d hd
  unfold wl at hd
  obtain ⟨a, _, rfl⟩ := List.mem_map.mp hd
  rfl
theorem holds_sem {d w : D} (hd : Tm d) (hw : Tm w) : FSat (holds_S [d, w]) (fun r fl outs => ∃ st : List SW, d = .tuple (st.map sp) ∧ holdD d w ∧ r = (valK (heldK st.length st) w).getD .none) (fun c => c = "BadState" ∧ ¬ holdD d w) := by
  refine fsat_run rfl ?_
  show SSat (holds_F [.val d, .val w]) _
  unfold holds_F
  refine ssat_seq ?_
  have c0 := call_ps (sem := check_state_S) (as := [.val (eVar 0)]) (ps := [(d, none)]) (ρ := [.val d, .val w]) rfl (by simp)
  unfold sDrop
  rw [c0]
  have q := check_sem hd
  show SSat (Res.sb (match check_state_S [d] with | some (.ret d fl _) => _ | some (.exc c) => _ | none => _) _) _
  revert q
  generalize check_state_S [d] = r
  intro q
  cases r with
  | none => exact q.elim
  | some r =>
    cases r with
    | exc c =>
      obtain ⟨rfl, hn⟩ := q
      refine ⟨rfl, ?_⟩
      rintro ⟨st, u, rfl, h1, h2, _⟩
      rw [stB_iff.mpr ⟨st, rfl, h1, h2⟩] at hn
      cases hn
    | ret d' fl outs =>
      obtain ⟨_, hs⟩ := q
      obtain ⟨st, rfl, h1, h2⟩ := stB_iff.mp hs
      refine nx_in ?_
      have c1 : eCall is_word_S [.val (eVar 1), .val (eOps dLen [(oVar 0)])] [.val (.tuple (st.map sp)), .val w] = .ok (.bool (isW st.length w), false) [.val (.tuple (st.map sp)), .val w] := by
        refine call2_eq (p := (w, false)) (q := (.int (st.map sp).length, false)) rfl rfl ?_
        show FSat (is_word_S [w, .int (st.map sp).length]) _ _
        rw [List.length_map]
        exact isword_sem hw
      refine ssat_guard (b := !isW st.length w) (by simp only [tNot1, tVal, c1, bind_ok]) ?_ ?_
      · intro hb
        refine ⟨rfl, ?_⟩
        rintro ⟨st', u, e, _, _, rfl, hu⟩
        rw [← sps_inj (PyData.tuple.inj e)] at hu
        rw [isW_wd.mpr ⟨u, rfl, hu⟩] at hb
        cases hb
      · intro hb
        rw [Bool.not_eq_false'] at hb
        obtain ⟨u, rfl, hu⟩ := isW_wd.mp hb
        have c2 : eCall held_by_S [.val (eVar 0)] [.val (.tuple (st.map sp)), .val (wd u)] = .ok (.dict (heldK st.length st), true) [.val (.tuple (st.map sp)), .val (wd u)] := call1_eq (p := (.tuple (st.map sp), false)) rfl (heldby_sem (by have := h1.2.1; omega))
        have c3 : eGet (oOf (eCall held_by_S [.val (eVar 0)])) [(oVar 1)] [.val (.tuple (st.map sp)), .val (wd u)] = .ok ((valK (heldK st.length st) (wd u)).getD .none, false) [.val (.tuple (st.map sp)), .val (wd u)] := by
          have g : gGet (heldK st.length st) [wd u] = some ((valK (heldK st.length st) (wd u)).getD .none, false) := by
            show (if (dictOk (heldK st.length st) && keyT (wd u)) = true then _ else _) = _
            rw [if_pos (by rw [held_ok, keyT_wd] <;> rfl)]
          simp only [eGet, oOf, c2, bind_ok, oList, oVar, List.getElem?_cons_zero, List.getElem?_cons_succ, still_none, stills, Bool.and_self, if_true, List.map_cons, List.map_nil, g]
        exact ssat_ret (Sat.of c3 ⟨rfl, st, rfl, ⟨st, u, rfl, h1, h2, rfl, hu⟩, rfl⟩)
/-! ### what is read -/
theorem kv_vals {kd : D} : ∀ {ps kvs : List (D × D)} {e : D}, valK (putAll kvs ps) kd = some e → (∃ p ∈ kvs, p.2 = e) ∨ ∃ p ∈ ps, p.2 = e
  | [], kvs, e, h => by
    unfold putAll valK at h
    obtain ⟨p, hp, rfl⟩ := Option.map_eq_some_iff.mp h
    exact .inl ⟨p, List.mem_of_find?_eq_some hp, rfl⟩
  | p :: ps, kvs, e, h => by
    rcases kv_vals (ps := ps) (kvs := putK kvs p.1 p.2) h with ⟨q, hq, e1⟩ | ⟨q, hq, e1⟩
    · unfold putK at hq
      split at hq
      · obtain ⟨r, hr, rfl⟩ := List.mem_map.mp hq
        split at e1
        · exact .inr ⟨p, by simp, e1⟩
        · exact .inl ⟨r, hr, e1⟩
      · rcases List.mem_append.mp hq with hq | hq
        · exact .inl ⟨q, hq, e1⟩
        · rw [List.mem_singleton] at hq
          subst hq
          exact .inr ⟨p, by simp, e1⟩
    · exact .inr ⟨q, List.mem_cons_of_mem _ hq, e1⟩
theorem held_val {n : Nat} {st : List SW} {d : D} : (valK (heldK n st) d).getD .none = .none ∨ ∃ i, (valK (heldK n st) d).getD .none = .int i := by
  cases h : valK (heldK n st) d with
  | none => exact .inl rfl
  | some e =>
    rcases kv_vals h with ⟨p, hp, _⟩ | ⟨p, hp, rfl⟩
    · cases hp
    · obtain ⟨q, _, rfl⟩ := List.mem_map.mp hp
      exact .inr ⟨q.1, rfl⟩
theorem read_held {n : Nat} {st : List SW} {d : D} : readD2 ((valK (heldK n st) d).getD .none) = some ((valK (heldK n st) d).getD .none) := by
  rcases held_val (n := n) (st := st) (d := d) with h | ⟨i, h⟩ <;> rw [h] <;> exact read_prim _ rfl
theorem read_sp (p : SW) : readD2 (sp p) = some (sp p) := by
  refine read_prim _ ?_
  show ([PyData.int p.1, wd p.2].all (rdOk 6)) = true
  have : rdOk 6 (wd p.2) = true := by
    show (wl p.2).all (rdOk 5) = true
    rw [List.all_eq_true]
    intro d hd
    unfold wl at hd
    obtain ⟨a, _, rfl⟩ := List.mem_map.mp hd
    rfl
  simp [this, rdOk]
/-! ### the three tellings -/
noncomputable def dueC (d : D) : D := if stB d then .tuple [.int 0, .none] else bad1
theorem tell_check {d : D} (h : Tm d) : tellR (check_state_S [d]) = some (dueC d) := by
  rcases tell_of (P := fun r => r = .none ∧ stB d = true) (N := stB d = false) ((check_sem h).imp (fun _ _ _ q => q) fun _ q => q) with ⟨r, ⟨rfl, h2⟩, e⟩ | ⟨h2, e⟩
  · rw [e]
    unfold dueC
    rw [h2, read_prim _ rfl] <;> rfl
  · rw [e]
    unfold dueC
    rw [h2] <;> rfl
theorem tell_mult {a b : D} (ha : Tm a) (hb : Tm b) : (∃ p q : SW, a = sp p ∧ b = sp q ∧ mulD a b ∧ tellR (multiply_S [a, b]) = some (.tuple [.int 0, sp (tms p q)])) ∨ (¬ mulD a b ∧ tellR (multiply_S [a, b]) = some bad1) := by
  rcases tell_of (P := fun r => ∃ p q : SW, a = sp p ∧ b = sp q ∧ mulD a b ∧ r = sp (tms p q)) (N := ¬ mulD a b) ((mult_sem ha hb).imp (fun _ _ _ q => q) fun _ q => q) with ⟨r, ⟨p, q, h1, h2, h3, rfl⟩, e⟩ | h
  · exact .inl ⟨p, q, h1, h2, h3, by rw [e, read_sp] <;> rfl⟩
  · exact .inr h
theorem tell_holds {d w : D} (hd : Tm d) (hw : Tm w) : (∃ st : List SW, d = .tuple (st.map sp) ∧ holdD d w ∧ tellR (holds_S [d, w]) = some (.tuple [.int 0, (valK (heldK st.length st) w).getD .none])) ∨ (¬ holdD d w ∧ tellR (holds_S [d, w]) = some bad1) := by
  rcases tell_of (P := fun r => ∃ st : List SW, d = .tuple (st.map sp) ∧ holdD d w ∧ r = (valK (heldK st.length st) w).getD .none) (N := ¬ holdD d w) ((holds_sem hd hw).imp (fun _ _ _ q => q) fun _ q => q) with ⟨r, ⟨st, h1, h2, rfl⟩, e⟩ | h
  · exact .inl ⟨st, h1, h2, by rw [e, read_held] <;> rfl⟩
  · exact .inr h
end Ow

namespace Ow
open PySem PyProof.Rows PySem.Spec L2
theorem seq_no {t : EvT} {f g : StF} {ρ : AE} (e : t ρ = .ok false ρ) : sSeq (sIf t f sNx) g ρ = g ρ := by
  unfold sSeq
  rw [iff_seq (h := sNx) e]
  rfl
theorem seq_yes {t : EvT} {f g : StF} {ρ ρ' : AE} {d : D} {fl : Bool} (e : t ρ = .ok true ρ) (h : f ρ = .ret d fl ρ') : sSeq (sIf t f sNx) g ρ = .ret d fl ρ' := by
  unfold sSeq
  rw [iff_seq (h := sNx) e, if_pos rfl, h]
theorem read_any : ∀ (n : Nat) (d : D), rdOk n d = true → _law_read_S (n + 1) [d] = some (.ret d (isMut d) [.none])
  | n, .none, _ => rfl
  | n, .bool true, _ => rfl
  | n, .bool false, _ => rfl
  | n, .int i, _ => rfl
  | n + 1, .tuple ds, h => by
    have h : ds.all (rdOk n) = true := by simpa only [rdOk] using h
    rw [List.all_eq_true] at h
    show endF [false] (_law_read_F (_law_read_S (n + 1)) [.val (.tuple ds), .non, .non]) = _
    have c := eComp_all (own := [2]) (it := iSeq (oVar 0)) (bs := [(.tuple ds, none)]) (tg := .name 2) (el := eCall (_law_read_S (n + 1)) [.val (eVar 2)]) (ρ := [.val (.tuple ds), .non, .non]) ds id (fun x => [.val (.tuple ds), .non, .val x]) (fun x => (x, isMut x)) (by rw [List.map_id] <;> rfl) rfl rfl fun x hx => ⟨rfl, rfl, by
      refine call1_eq (p := (x, false)) rfl ?_
      rw [read_any n x (h x hx)]
      exact ⟨rfl, rfl⟩⟩
    have e : (ds.map fun x => x) = ds := List.map_id _
    have r : _law_read_F (_law_read_S (n + 1)) [.val (.tuple ds), .non, .non] = .ret (.tuple ds) false [.val (.tuple ds), .non, .non] := by
      unfold _law_read_F
      refine Eq.trans (seq_no ?_) (Eq.trans (seq_no ?_) (Eq.trans (seq_no ?_) (seq_yes ?_ ?_)))
      · rfl
      · rfl
      · rfl
      · rfl
      unfold sRet
      simp only [eOps, oList, oOf, c, bind_ok, stills, still_none, Bool.and_self, if_true, List.map_cons, List.map_nil, dTuple, e, sb_ok]
    rw [r]
    rfl
  | n + 1, .list ds, h => by
    have h : ds.all (rdOk n) = true := by simpa only [rdOk] using h
    rw [List.all_eq_true] at h
    show endF [false] (_law_read_F (_law_read_S (n + 1)) [.val (.list ds), .non, .non]) = _
    have c := eComp_all (own := [2]) (it := iSeq (oVar 0)) (bs := [(.list ds, none)]) (tg := .name 2) (el := eCall (_law_read_S (n + 1)) [.val (eVar 2)]) (ρ := [.val (.list ds), .non, .non]) ds id (fun x => [.val (.list ds), .non, .val x]) (fun x => (x, isMut x)) (by rw [List.map_id] <;> rfl) rfl rfl fun x hx => ⟨rfl, rfl, by
      refine call1_eq (p := (x, false)) rfl ?_
      rw [read_any n x (h x hx)]
      exact ⟨rfl, rfl⟩⟩
    have e : (ds.map fun x => x) = ds := List.map_id _
    have r : _law_read_F (_law_read_S (n + 1)) [.val (.list ds), .non, .non] = .ret (.list ds) true [.val (.list ds), .non, .non] := by
      unfold _law_read_F
      refine Eq.trans (seq_no ?_) (Eq.trans (seq_no ?_) (Eq.trans (seq_no ?_) (Eq.trans (seq_no ?_) ?_)))
      · rfl
      · rfl
      · rfl
      · rfl
      unfold sRet eIte
      have t : tVal (eUn (dIsi "list") (oVar 0)) [.val (.list ds), .non, .non] = .ok true [.val (.list ds), .non, .non] := rfl
      simp only [t, bind_ok, if_true, c, sb_ok, e]
    rw [r]
    rfl
  | 0, .tuple _, h => by simp [rdOk] at h
  | 0, .list _, h => by simp [rdOk] at h
  | n, .str _, h => by cases n <;> simp [rdOk] at h
  | n, .dict _, h => by cases n <;> simp [rdOk] at h
theorem read_ok : ∀ ds r, readSem readD2 ds = some r → _law_read_S 8 ds = some r := by
  intro ds r h
  unfold readSem at h
  split at h
  · rename_i d
    unfold readD2 at h
    split at h
    · rename_i hd
      cases h
      exact read_any 7 d hd
    · cases h
  · cases h
end Ow

namespace Ow
open PySem PyProof.Rows PySem.Spec L2
def held (E : Slot) (l : List D) : Prop := E = .val (.list l) ∨ E = .own (.list l)
theorem held_var {ρ : AE} {e : Nat} {E : Slot} {l : List D} (he : ρ[e]? = some E) (h : held E l) : ∃ b, oVar e ρ = .ok (.list l, b) ρ ∧ ∀ ρ' : AE, ρ'[e]? = some E → still b (.list l) ρ' = true := by
  rcases h with rfl | rfl
  · exact ⟨none, by simp [oVar, he], fun _ _ => rfl⟩
  · exact ⟨some e, by simp [oVar, he], fun ρ' h' => by simp [still, h']⟩
/-! ### all words, as the law lists them -/
def ext4 (w : Wd) : List Wd := [w ++ [0], w ++ [1], w ++ [2], w ++ [3]]
def wordsL : Nat → List Wd
  | 0 => [[]]
  | n + 1 => (wordsL n).flatMap ext4
theorem words_len : ∀ n : Nat, (wordsL n).length = 4 ^ n
  | 0 => rfl
  | n + 1 => by
    have : ∀ l : List Wd, (l.flatMap ext4).length = 4 * l.length := fun l => by
      induction l with
      | nil => rfl
      | cons a l ih => rw [List.flatMap_cons, List.length_append, ih, List.length_cons]; simp [ext4]; omega
    show ((wordsL n).flatMap ext4).length = _
    rw [this, words_len n, Nat.pow_succ]; omega
theorem words_mem : ∀ {n : Nat} {w : Wd}, w ∈ wordsL n ↔ w.length = n
  | 0, w => by simp [wordsL]
  | n + 1, w => by
    show w ∈ (wordsL n).flatMap ext4 ↔ _
    rw [List.mem_flatMap]
    constructor
    · rintro ⟨v, hv, hw⟩
      have := words_mem.mp hv
      simp only [ext4, List.mem_cons, List.not_mem_nil, or_false] at hw
      rcases hw with rfl | rfl | rfl | rfl <;> simp [this]
    · intro h
      have hne : w ≠ [] := fun e => by rw [e] at h; cases h
      refine ⟨w.dropLast, words_mem.mpr (by simp [h]), ?_⟩
      have e := List.dropLast_concat_getLast hne
      rcases sg4 (w.getLast hne) with q | q | q | q <;> rw [q] at e <;> simp [ext4, e]
def wdB : StF := (sAsg 3 (eBin dAdd (oVar 3) (oOf (eComp [5] (iRange1 (oOf (eCon (.int 4)))) (.name 5) tTrue (eBin dAdd (oVar 4) (oOf (eTup [(eVar 5)])))))))
theorem ext_eq {s0 s1 s2 s3 : Slot} {w : Wd} (hw : w.length < 2 ^ 20) : eComp [5] (iRange1 (oOf (eCon (.int 4)))) (.name 5) tTrue (eBin dAdd (oVar 4) (oOf (eTup [(eVar 5)]))) [s0, s1, s2, s3, .val (wd w), .non] = .ok (.list ((ext4 w).map wd), true) [s0, s1, s2, s3, .val (wd w), .non] := by
  have i0 : iRange1 (oOf (eCon (.int 4))) [s0, s1, s2, s3, .val (wd w), .non] = .ok ([(0 : Sg), 1, 2, 3].map sg, []) [s0, s1, s2, s3, .val (wd w), .non] := by
    have := rng_len (f := oOf (eCon (.int 4))) (n := [PyData.none, .none, .none, .none]) (ρ := [s0, s1, s2, s3, .val (wd w), .non]) rfl (by simp)
    rw [this] <;> rfl
  have c := eComp_all (own := [5]) (tg := .name 5) (el := eBin dAdd (oVar 4) (oOf (eTup [(eVar 5)]))) [(0 : Sg), 1, 2, 3] sg (fun a => [s0, s1, s2, s3, .val (wd w), .val (sg a)]) (fun a => (wd (w ++ [a]), false)) i0 rfl rfl fun a _ => ⟨rfl, rfl, by
    have : dAdd (wd w) (.tuple [sg a]) = some (wd (w ++ [a]), false) := by
      show (if (wl w).length + 1 ≤ sizeLine then some (PyData.tuple (wl w ++ [sg a]), false) else none) = _
      rw [if_pos (by unfold wl; rw [List.length_map, sizeLine_eq]; omega)]
      unfold wd wl
      rw [List.map_append] <;> rfl
    simp only [eBin, oVar, oOf, eTup, eList, eVar, List.getElem?_cons_zero, List.getElem?_cons_succ, bind_ok, still_none, if_true, this]⟩
  rw [c] <;> rfl
theorem words_loop {s0 s2 E : Slot} {l : List D} {b : Option Nat} {w : Wp} {R : List Wd} (hst : ∀ s3 s4 s5, still b (.list l) [s0, E, s2, s3, s4, s5] = true)
    (last : ∀ s4, quiet (some s4) → w.nx [s0, E, s2, .own (.list (R.map wd)), s4, .non]) : ∀ (L A : List Wd) (s4 : Slot), quiet (some s4) → (∀ u ∈ L, u.length < 2 ^ 20) → A.length + 4 * L.length ≤ 2 ^ 20 → A ++ L.flatMap ext4 = R →
      SSat (forGo [(.list l, b)] (.name 4) wdB (L.map wd) [s0, E, s2, .own (.list (A.map wd)), s4, .non]) w
  | [], A, s4, h4, _, _, e => by
    rw [List.flatMap_nil, List.append_nil] at e
    subst e
    show SSat (if _ then _ else _) _
    rw [if_pos (by simp [stills, hst])]
    exact last s4 h4
  | u :: L, A, s4, h4, hu, hz, e => by
    rw [List.map_cons]
    unfold forGo
    rw [if_pos (by simp [stills, hst])]
    have hb : bindT (.name 4) (wd u) [s0, E, s2, .own (.list (A.map wd)), s4, .non] = some [s0, E, s2, .own (.list (A.map wd)), .val (wd u), .non] := by
      cases s4 <;> first | rfl | exact h4.elim
    rw [hb]
    have st : wdB [s0, E, s2, .own (.list (A.map wd)), .val (wd u), .non] = .nx [s0, E, s2, .own (.list ((A ++ ext4 u).map wd)), .val (wd u), .non] := by
      have c := ext_eq (s0 := s0) (s1 := E) (s2 := s2) (s3 := .own (.list (A.map wd))) (hu u (by simp))
      unfold wdB
      revert c
      generalize eComp [5] (iRange1 (oOf (eCon (.int 4)))) (.name 5) tTrue (eBin dAdd (oVar 4) (oOf (eTup [(eVar 5)]))) = Z
      intro c
      unfold sAsg eBin
      simp only [oVar, List.getElem?_cons_succ, List.getElem?_cons_zero, bind_ok, oOf, c]
      rw [if_pos (by simp [still])]
      have : dAdd (.list (A.map wd)) (.list ((ext4 u).map wd)) = some (.list ((A ++ ext4 u).map wd), true) := by
        show (if (A.map wd).length + ((ext4 u).map wd).length ≤ sizeLine then some (PyData.list (A.map wd ++ (ext4 u).map wd), true) else none) = _
        rw [if_pos (by rw [List.length_map, List.length_map, sizeLine_eq]; simp [ext4] at hz ⊢; omega), List.map_append]
      rw [this]
      rfl
    simp only [st]
    refine words_loop hst last L (A ++ ext4 u) (.val (wd u)) trivial (fun v hv => hu v (List.mem_cons_of_mem _ hv)) ?_ ?_
    · rw [List.length_append]
      rw [List.length_cons] at hz
      have : (ext4 u).length = 4 := rfl
      omega
    · rw [← e, List.flatMap_cons, List.append_assoc]
theorem rng_int {ρ : AE} {f : EvO} {n : Nat} (h : f ρ = .ok (.int n, none) ρ) (hn : n < 64) : iRange1 f ρ = .ok (rangeD 0 n, []) ρ := by
  have := rng_len (f := f) (n := List.replicate n PyData.none) (ρ := ρ) (by rw [List.length_replicate]; exact h) (by rw [List.length_replicate]; exact hn)
  rwa [List.length_replicate] at this
theorem words_sem {n : Nat} (h0 : 1 ≤ n) (hn : n ≤ 4) : FSat (_law_words_S [.int n]) (fun r fl outs => r = .list ((wordsL n).map wd) ∧ fl = false) (fun _ => False) := by
  refine fsat_run rfl ?_
  show SSat (_law_words_F [.val (.int n), .non, .non, .non, .non, .non]) _
  unfold _law_words_F
  refine ssat_seq (ssat_asg (Sat.of (a := (.list ([([] : Wd)].map wd), true)) (ρ' := [.val (.int n), .non, .non, .non, .non, .non]) rfl ⟨rfl, nx_in ?_⟩))
  refine ssat_seq (ssat_forS (Sat.of (rng_int (n := n) rfl (by omega)) ⟨rfl, ?_⟩))
  refine ssat_for (fun ds ρ => ∃ (k : Nat) (E s2 s3 s4 : Slot), k ≤ n ∧ ds = ((List.range n).drop k).map (fun (i : Nat) => PyData.int (0 + (i : Int))) ∧ (E = .val (.list ((wordsL k).map wd)) ∨ (k = 0 ∧ E = .own (.list ((wordsL k).map wd)))) ∧ quiet (some s2) ∧ quiet (some s3) ∧ quiet (some s4) ∧ ρ = [.val (.int n), E, s2, s3, s4, .non]) ?_ ?_ _ _ ⟨0, .own (.list ([([] : Wd)].map wd)), .non, .non, .non, by omega, rfl, .inr ⟨rfl, rfl⟩, trivial, trivial, trivial, rfl⟩
  · rintro x xs ρ ⟨k, E, s2, s3, s4, hk, hd, hE, h2, h3, h4, rfl⟩
    refine ⟨rfl, ?_⟩
    have hk' : k < n := by
      rcases Nat.lt_or_ge k n with q | q
      · exact q
      · rw [List.drop_eq_nil_of_le (by simp; omega)] at hd
        cases hd
    have e : (List.range n).drop k = k :: (List.range n).drop (k + 1) := by
      have := List.drop_eq_getElem_cons (l := List.range n) (i := k) (by simpa using hk')
      rw [List.getElem_range] at this
      exact this
    rw [e, List.map_cons, List.cons.injEq] at hd
    obtain ⟨rfl, rfl⟩ := hd
    refine ⟨[.val (.int n), E, .val (.int (0 + (k : Int))), s3, s4, .non], by cases s2 <;> first | rfl | exact h2.elim, ?_⟩
    have h3a : isNoIno (some s3) = true := by cases s3 <;> first | rfl | exact h3.elim
    refine ssat_seq (ssat_asg (Sat.of (a := (.list [], true)) (ρ' := [.val (.int n), E, .val (.int (0 + (k : Int))), s3, s4, .non]) rfl ⟨h3a, nx_in ?_⟩))
    show SSat (sSeq _ _ [.val (.int n), E, .val (.int (0 + (k : Int))), .own (.list ([] : List D)), s4, .non]) _
    have i1 : iFrz 1 (iSeq (oVar 1)) [.val (.int n), E, .val (.int (0 + (k : Int))), .own (.list ([] : List D)), s4, .non] = .ok ((wordsL k).map wd, [(.list ((wordsL k).map wd), none)]) [.val (.int n), .val (.list ((wordsL k).map wd)), .val (.int (0 + (k : Int))), .own (.list ([] : List D)), s4, .non] := by
      rcases hE with rfl | ⟨_, rfl⟩ <;> rfl
    refine ssat_seq (ssat_forS (Sat.of i1 ⟨rfl, ?_⟩))
    have pw : 4 ^ k ≤ 4 ^ 3 := Nat.pow_le_pow_right (by decide) (by omega)
    refine words_loop (R := wordsL (k + 1)) (fun s3 s4 s5 => rfl) (fun s4 h4 => nx_in ?_) (wordsL k) [] s4 h4 (fun u hu => by rw [words_mem.mp hu]; omega) (by rw [words_len, List.length_nil]; omega) rfl
    refine ssat_asg (Sat.of (a := (.list ((wordsL (k + 1)).map wd), false)) (ρ' := [.val (.int n), .val (.list ((wordsL k).map wd)), .val (.int (0 + (k : Int))), .val (.list ((wordsL (k + 1)).map wd)), s4, .non]) rfl ⟨rfl, ?_⟩)
    exact ⟨k + 1, .val (.list ((wordsL (k + 1)).map wd)), .val (.int (0 + (k : Int))), .val (.list ((wordsL (k + 1)).map wd)), s4, hk', rfl, .inl rfl, trivial, trivial, h4, rfl⟩
  · rintro ρ ⟨k, E, s2, s3, s4, hk, hd, hE, h2, h3, h4, rfl⟩
    refine ⟨rfl, nx_in ?_⟩
    have hk2 : k = n := by
      rcases Nat.lt_or_ge k n with q | q
      · have := congrArg List.length hd
        simp at this
        omega
      · omega
    subst hk2
    rcases hE with rfl | ⟨q, _⟩
    · exact ssat_ret (Sat.of (a := (.list ((wordsL k).map wd), false)) (ρ' := [.val (.int k), .val (.list ((wordsL k).map wd)), s2, s3, s4, .non]) rfl ⟨rfl, rfl, rfl⟩)
    · omega
end Ow

namespace Ow
open PySem PyProof.Rows PySem.Spec L2
theorem pick_at {α : Type} {L : List α} {f : α → D} {j : Int} (h0 : 0 ≤ j) (h : j < L.length) : ∃ x ∈ L, dIx (.list (L.map f)) (.int j) = some (f x, false) := by
  obtain ⟨x, e, hx⟩ := atI_lt h0 h
  refine ⟨x, hx, ?_⟩
  show (atI (L.map f) j).map _ = _
  rw [atI_map, e] <;> rfl
theorem words_pos {n : Nat} : 0 < (wordsL n).length := by
  rw [words_len]
  exact Nat.pow_pos (by decide)
theorem pow_le {n : Nat} (h : n ≤ 4) : 4 ^ n ≤ 256 := Nat.le_trans (Nat.pow_le_pow_right (by decide) h) (by decide)
theorem bit_of {s : Int} (h0 : 0 ≤ s) (h : s < 2) : s = 0 ∨ s = 1 := by omega
theorem signed_sem {bx : D} {n : Nat} (hb : Bx bx) (h0 : 1 ≤ n) (hn : n ≤ 4) : FSat (_law_signed_S [bx, .int n]) (fun r fl outs => ∃ p : SW, r = sp p ∧ fl = false ∧ p.2.length = n ∧ (p.1 = 0 ∨ p.1 = 1) ∧ ∃ b', Bx b' ∧ outs = [b', .none]) (fun _ => False) := by
  refine fsat_run rfl ?_
  show SSat (_law_signed_F [.ino bx, .val (.int n), .non]) _
  unfold _law_signed_F
  have c : eCall _law_words_S [.val (eVar 1)] [.ino bx, .val (.int n), .non] = .ok (.list ((wordsL n).map wd), false) [.ino bx, .val (.int n), .non] := call1_eq (p := (.int n, false)) rfl (words_sem h0 hn)
  refine ssat_seq (ssat_asg (Sat.of c ⟨rfl, nx_in ?_⟩))
  show SSat _ _
  refine ssat_ret (sat_tup (sat_el (sat_draw0 (r := [.val (.int n), .val (.list ((wordsL n).map wd))]) hb rfl (by decide) (by decide) fun s b1 hs0 hs hb1 => sat_el (sat_bin (Sat.of (a := (.list ((wordsL n).map wd), none)) (ρ' := [.ino b1, .val (.int n), .val (.list ((wordsL n).map wd))]) rfl (sat_oOf (sat_draw0 (m := ((wordsL n).map wd).length) (fl := false) hb1 rfl ?_ ?_ fun j b2 hj0 hj hb2 => ?_)))))))
  · have := words_pos (n := n)
    rw [List.length_map]; omega
  · have := pow_le hn
    rw [List.length_map, words_len]; omega
  · rw [List.length_map] at hj
    obtain ⟨u, hu, e⟩ := pick_at (f := wd) hj0 hj
    refine ⟨rfl, _, e, sat_el_nil ⟨rfl, (s, u), rfl, rfl, words_mem.mp hu, bit_of hs0 hs, b2, hb2, rfl⟩⟩
/-! ### states, as they are drawn -/
def soFar (n : Nat) (st : List SW) : Prop := (∀ p ∈ st, p.2.length = n ∧ (p.1 = 0 ∨ p.1 = 1)) ∧ (∀ p ∈ st, ∀ q ∈ st, par p.2 q.2 = false) ∧ apart n (st.map (·.2))
def frP (n : Nat) (st : List SW) (u : Wd) : Bool := !(valK (heldK n st) (wd u)).isSome && st.all fun p => !par p.2 u
theorem eq_filter {α : Type} {l : List α} {p : α → Bool} : dEq (.int ((l.filter p).length : Nat)) (.int 0) = some (.bool (l.all fun d => !p d), false) := by
  rw [dEq_ii]
  congr 3
  induction l with
  | nil => rfl
  | cons a l ih =>
    cases h : p a with
    | true => simp [h]; omega
    | false => simpa [h] using ih
theorem notIn_held {n : Nat} {st : List SW} {w : Wd} : dNotIn (wd w) (.dict (heldK n st)) = some (.bool (!(valK (heldK n st) (wd w)).isSome), false) := by
  show (if (dictOk (heldK n st) && keyT (wd w)) = true then some (PyData.bool _, false) else none) = _
  rw [if_pos (by rw [held_ok, keyT_wd] <;> rfl)]
def frT : EvT := (tAnd2 (tVal (eBin dNotIn (oVar 6) (oVar 4))) (tVal (eBin dEq (oOf (eOps dLen [(oOf (eComp [7] (iSeq (oVar 2)) (.name 7) (tVal (eCall _law_parts_S [.val (eBin dIx (oVar 7) (oOf (eCon (.int 1)))), .val (eVar 6)])) (eCon (.int 1))))])) (oOf (eCon (.int 0))))))
theorem frT_eq {n : Nat} {st : List SW} {u : Wd} {s0 s1 s3 s5 : Slot} (hn : n ≤ 4) (h : ∀ p ∈ st, p.2.length = n) (hu : u.length = n) :
    frT [s0, s1, .val (.tuple (st.map sp)), s3, .own (.dict (heldK n st)), s5, .val (wd u), .non] = .ok (frP n st u) [s0, s1, .val (.tuple (st.map sp)), s3, .own (.dict (heldK n st)), s5, .val (wd u), .non] := by
  have c := eComp_any (own := [7]) (it := iSeq (oVar 2)) (bs := [(.tuple (st.map sp), none)]) (tg := .name 7) (tt := tVal (eCall _law_parts_S [.val (eBin dIx (oVar 7) (oOf (eCon (.int 1)))), .val (eVar 6)])) (el := eCon (.int 1)) (ρ := [s0, s1, .val (.tuple (st.map sp)), s3, .own (.dict (heldK n st)), s5, .val (wd u), .non]) st sp (fun p => [s0, s1, .val (.tuple (st.map sp)), s3, .own (.dict (heldK n st)), s5, .val (wd u), .val (sp p)]) (fun p => par p.2 u) (fun _ => (.int 1, false)) rfl rfl rfl fun p hp => ⟨rfl, rfl, by
    have lp := h p hp
    have := call2_eq (p := (wd p.2, false)) (q := (wd u, false)) (f := eBin dIx (oVar 7) (oOf (eCon (.int 1)))) (g := eVar 6) (ρ := [s0, s1, .val (.tuple (st.map sp)), s3, .own (.dict (heldK n st)), s5, .val (wd u), .val (sp p)]) rfl rfl (lparts_ok (by omega) (by omega))
    simp only [tVal, this, bind_ok], fun _ => rfl⟩
  have t1 : (tVal (eBin dNotIn (oVar 6) (oVar 4))) [s0, s1, .val (.tuple (st.map sp)), s3, .own (.dict (heldK n st)), s5, .val (wd u), .non] = .ok (!(valK (heldK n st) (wd u)).isSome) [s0, s1, .val (.tuple (st.map sp)), s3, .own (.dict (heldK n st)), s5, .val (wd u), .non] := by
    simp only [tVal, eBin, oVar, List.getElem?_cons_zero, List.getElem?_cons_succ, bind_ok, still_none, if_true, notIn_held]
  have t2 : (tVal (eBin dEq (oOf (eOps dLen [(oOf (eComp [7] (iSeq (oVar 2)) (.name 7) (tVal (eCall _law_parts_S [.val (eBin dIx (oVar 7) (oOf (eCon (.int 1)))), .val (eVar 6)])) (eCon (.int 1))))])) (oOf (eCon (.int 0))))) [s0, s1, .val (.tuple (st.map sp)), s3, .own (.dict (heldK n st)), s5, .val (wd u), .non] = .ok (st.all fun p => !par p.2 u) [s0, s1, .val (.tuple (st.map sp)), s3, .own (.dict (heldK n st)), s5, .val (wd u), .non] := by
    have hl : dLen [.list ((st.filter fun p => par p.2 u).map fun _ => PyData.int 1)] = some (.int ((st.filter fun p => par p.2 u).length : Nat), false) := by
      show some (PyData.int (List.length (List.map _ _)), false) = _
      rw [List.length_map]
    simp only [tVal, eBin, eOps, oList, oOf, c, bind_ok, stills, still_none, Bool.and_self, if_true, List.map_cons, List.map_nil, hl, eCon, eq_filter]
  unfold frT
  simp only [tAnd2, t1, t2, bind_ok]
  unfold frP
  cases (valK (heldK n st) (wd u)).isSome <;> rfl
theorem free_some {n : Nat} {st : List SW} (h : soFar n st) (hk : st.length < n) : ∃ u, u ∈ wordsL n ∧ frP n st u = true := by
  have hw : ∀ w ∈ st.map (·.2), w.length = n := fun w hw => by
    obtain ⟨p, hp, rfl⟩ := List.mem_map.mp hw
    exact (h.1 p hp).1
  obtain ⟨u, h1, h2, h3⟩ := free_word hw (by rw [List.length_map]; exact hk)
  refine ⟨u, words_mem.mpr h1, ?_⟩
  unfold frP
  rw [Bool.and_eq_true, Bool.not_eq_true', ← Bool.not_eq_true, held_in, List.all_eq_true]
  refine ⟨h2, fun p hp => ?_⟩
  rw [par_comm, h3 p.2 (List.mem_map_of_mem hp)]
  rfl
theorem soFar_snoc {n : Nat} {st : List SW} {p : SW} (h : soFar n st) (h1 : p.2.length = n) (h2 : p.1 = 0 ∨ p.1 = 1) (h3 : frP n st p.2 = true) : soFar n (st ++ [p]) := by
  unfold frP at h3
  rw [Bool.and_eq_true, Bool.not_eq_true', ← Bool.not_eq_true, held_in, List.all_eq_true] at h3
  obtain ⟨g1, g2, g3⟩ := h
  have hq : ∀ q ∈ st, par q.2 p.2 = false := fun q hq => by simpa using h3.2 q hq
  refine ⟨fun q hq' => ?_, fun a ha b hb => ?_, ?_⟩
  · rcases List.mem_append.mp hq' with e | e
    · exact g1 q e
    · rw [List.mem_singleton] at e; rw [e]; exact ⟨h1, h2⟩
  · rcases List.mem_append.mp ha with ea | ea
    · rcases List.mem_append.mp hb with eb | eb
      · exact g2 a ea b eb
      · rw [List.mem_singleton] at eb; rw [eb]; exact hq a ea
    · rw [List.mem_singleton] at ea; rw [ea]
      rcases List.mem_append.mp hb with eb | eb
      · rw [par_comm]; exact hq b eb
      · rw [List.mem_singleton] at eb; rw [eb]; exact par_self _
  · rw [List.map_append]
    exact apart_snoc.mpr ⟨g3, h3.1⟩
end Ow

namespace Ow
open PySem PyProof.Rows PySem.Spec L2
def stBd : StF := (sSeq (sAsg 4 (eCall _law_held_S [.val (eVar 1), .val (eVar 2)])) (sSeq (sAsg 5 (eComp [6] (iSeq (oOf (eCall _law_words_S [.val (eVar 1)]))) (.name 6) frT (eVar 6))) (sAsg 2 (eBin dAdd (oVar 2) (oOf (eTup [(eTup [(eCall _law_draw_S [.ref 0, .val (eCon (.int 2))]), (eBin dIx (oVar 5) (oOf (eCall _law_draw_S [.ref 0, .val (eOps dLen [(oVar 5)])])))])]))))))
theorem stBd_ok {bx : D} {n : Nat} {st : List SW} {s3 s4 s5 : Slot} {w : Wp} (hb : Bx bx) (h0 : 1 ≤ n) (hn : n ≤ 4) (hs : soFar n st) (hk : st.length < n) (h4 : isNoIno (some s4) = true) (h5 : isNoIno (some s5) = true)
    (h : ∀ (p : SW) (b' : D) (s4 s5 : Slot), Bx b' → soFar n (st ++ [p]) → isNoIno (some s4) = true → isNoIno (some s5) = true → w.nx [.ino b', .val (.int n), .val (.tuple ((st ++ [p]).map sp)), s3, s4, s5, .non, .non]) :
    SSat (stBd [.ino bx, .val (.int n), .val (.tuple (st.map sp)), s3, s4, s5, .non, .non]) w := by
  unfold stBd
  have c1 : eCall _law_held_S [.val (eVar 1), .val (eVar 2)] [.ino bx, .val (.int n), .val (.tuple (st.map sp)), s3, s4, s5, .non, .non] = .ok (.dict (heldK n st), true) [.ino bx, .val (.int n), .val (.tuple (st.map sp)), s3, s4, s5, .non, .non] :=
    call2_eq (p := (.int n, false)) (q := (.tuple (st.map sp), false)) rfl rfl (lheld_sem (by omega) (by omega))
  refine ssat_seq (ssat_asg (Sat.of c1 ⟨h4, nx_in ?_⟩))
  show SSat (sSeq _ _ [.ino bx, .val (.int n), .val (.tuple (st.map sp)), s3, .own (.dict (heldK n st)), s5, .non, .non]) _
  have c2 : eCall _law_words_S [.val (eVar 1)] [.ino bx, .val (.int n), .val (.tuple (st.map sp)), s3, .own (.dict (heldK n st)), s5, .non, .non] = .ok (.list ((wordsL n).map wd), false) [.ino bx, .val (.int n), .val (.tuple (st.map sp)), s3, .own (.dict (heldK n st)), s5, .non, .non] := call1_eq (p := (.int n, false)) rfl (words_sem h0 hn)
  have i3 : iSeq (oOf (eCall _law_words_S [.val (eVar 1)])) [.ino bx, .val (.int n), .val (.tuple (st.map sp)), s3, .own (.dict (heldK n st)), s5, .non, .non] = .ok ((wordsL n).map wd, [(.list ((wordsL n).map wd), none)]) [.ino bx, .val (.int n), .val (.tuple (st.map sp)), s3, .own (.dict (heldK n st)), s5, .non, .non] := by
    simp only [iSeq, oOf, c2, bind_ok, itemsD]
  have c4 := eComp_any (own := [6]) (tg := .name 6) (tt := frT) (el := eVar 6) (wordsL n) wd (fun u => [.ino bx, .val (.int n), .val (.tuple (st.map sp)), s3, .own (.dict (heldK n st)), s5, .val (wd u), .non]) (frP n st) (fun u => (wd u, false)) i3 rfl rfl fun u hu => ⟨rfl, rfl, frT_eq hn (fun p hp => (hs.1 p hp).1) (words_mem.mp hu), fun _ => rfl⟩
  refine ssat_seq (ssat_asg (Sat.of c4 ⟨h5, nx_in ?_⟩))
  show SSat (sAsg _ _ [.ino bx, .val (.int n), .val (.tuple (st.map sp)), s3, .own (.dict (heldK n st)), .own (.list (((wordsL n).filter (frP n st)).map wd)), .non, .non]) _
  obtain ⟨u0, hu0, hf0⟩ := free_some hs hk
  have pos : 0 < ((wordsL n).filter (frP n st)).length := List.length_pos_of_mem (List.mem_filter.mpr ⟨hu0, hf0⟩)
  have le : ((wordsL n).filter (frP n st)).length ≤ 256 := by
    have h1 := List.length_filter_le (frP n st) (wordsL n)
    have h2 := pow_le hn
    rw [words_len] at h1
    omega
  refine ssat_asg (sat_bin (Sat.of (a := (.tuple (st.map sp), none)) (ρ' := [.ino bx, .val (.int n), .val (.tuple (st.map sp)), s3, .own (.dict (heldK n st)), .own (.list (((wordsL n).filter (frP n st)).map wd)), .non, .non]) rfl ?_))
  refine sat_oOf (sat_tup (sat_el (sat_tup (sat_el (sat_draw0 (r := [.val (.int n), .val (.tuple (st.map sp)), s3, .own (.dict (heldK n st)), .own (.list (((wordsL n).filter (frP n st)).map wd)), .non, .non]) hb rfl (by decide) (by decide) fun s b1 hs0 hs2 hb1 => sat_el (sat_bin (Sat.of (a := (.list (((wordsL n).filter (frP n st)).map wd), some 5)) (ρ' := [.ino b1, .val (.int n), .val (.tuple (st.map sp)), s3, .own (.dict (heldK n st)), .own (.list (((wordsL n).filter (frP n st)).map wd)), .non, .non]) rfl (sat_oOf (sat_draw0 (m := (((wordsL n).filter (frP n st)).map wd).length) (fl := false) hb1 ?_ ?_ ?_ fun j b2 hj0 hj hb2 => ?_)))))))))
  · simp [eOps, oList, oVar, stills, still, dLen]
  · rw [List.length_map]; omega
  · rw [List.length_map]; omega
  · rw [List.length_map] at hj
    obtain ⟨u, hu, e⟩ := pick_at (f := wd) hj0 hj
    obtain ⟨hu1, hu2⟩ := List.mem_filter.mp hu
    refine ⟨by simp [still], _, e, sat_el_nil (sat_el_nil ?_)⟩
    refine ⟨rfl, (.tuple ((st ++ [((s, u) : SW)]).map sp), false), ?_, rfl, ?_⟩
    · show (if (st.map sp).length + 1 ≤ sizeLine then some (PyData.tuple (st.map sp ++ [sp (s, u)]), false) else none) = _
      rw [if_pos (by rw [List.length_map, sizeLine_eq]; omega), List.map_append] <;> rfl
    · exact h (s, u) b2 _ _ hb2 (soFar_snoc hs (words_mem.mp hu1) (bit_of hs0 hs2) hu2) rfl rfl
theorem state_sem {bx : D} {n : Nat} (hb : Bx bx) (h0 : 1 ≤ n) (hn : n ≤ 4) : FSat (_law_state_S [bx, .int n]) (fun r fl outs => ∃ st : List SW, r = .tuple (st.map sp) ∧ fl = false ∧ st.length = n ∧ soFar n st ∧ ∃ b', Bx b' ∧ outs = [b', .none]) (fun _ => False) := by
  refine fsat_run rfl ?_
  show SSat (_law_state_F [.ino bx, .val (.int n), .non, .non, .non, .non, .non, .non]) _
  unfold _law_state_F
  refine ssat_seq (ssat_asg (Sat.of (a := (.tuple ([] : List D), false)) (ρ' := [.ino bx, .val (.int n), .non, .non, .non, .non, .non, .non]) rfl ⟨rfl, nx_in ?_⟩))
  refine ssat_seq (ssat_forS (Sat.of (rng_int (n := n) rfl (by omega)) ⟨rfl, ?_⟩))
  refine ssat_for (fun ds ρ => ∃ (st : List SW) (b : D) (s3 s4 s5 : Slot), Bx b ∧ st.length ≤ n ∧ soFar n st ∧ ds = ((List.range n).drop st.length).map (fun (i : Nat) => PyData.int (0 + (i : Int))) ∧ quiet (some s3) ∧ isNoIno (some s4) = true ∧ isNoIno (some s5) = true ∧ ρ = [.ino b, .val (.int n), .val (.tuple (st.map sp)), s3, s4, s5, .non, .non]) ?_ ?_ _ _
    ⟨[], bx, .non, .non, .non, hb, Nat.zero_le _, ⟨(fun _ h => by cases h), (fun _ h => by cases h), fun k hk => absurd hk (Nat.not_lt_zero _)⟩, rfl, trivial, rfl, rfl, rfl⟩
  · rintro x xs ρ ⟨st, b, s3, s4, s5, hb', hl, hs, hd, h3, h4, h5, rfl⟩
    refine ⟨rfl, ?_⟩
    have hk' : st.length < n := by
      rcases Nat.lt_or_ge st.length n with q | q
      · exact q
      · rw [List.drop_eq_nil_of_le (by simp; omega)] at hd
        cases hd
    have e : (List.range n).drop st.length = st.length :: (List.range n).drop (st.length + 1) := by
      have := List.drop_eq_getElem_cons (l := List.range n) (i := st.length) (by simpa using hk')
      rw [List.getElem_range] at this
      exact this
    rw [e, List.map_cons, List.cons.injEq] at hd
    obtain ⟨rfl, rfl⟩ := hd
    refine ⟨[.ino b, .val (.int n), .val (.tuple (st.map sp)), .val (.int (0 + (st.length : Int))), s4, s5, .non, .non], by cases s3 <;> first | rfl | exact h3.elim, ?_⟩
    show SSat (stBd _) _
    refine stBd_ok hb' h0 hn hs hk' h4 h5 fun p b' s4 s5 hb2 hs2 h4 h5 => nx_in ⟨st ++ [p], b', .val (.int (0 + (st.length : Int))), s4, s5, hb2, by simp; omega, hs2, by simp, trivial, h4, h5, rfl⟩
  · rintro ρ ⟨st, b, s3, s4, s5, hb', hl, hs, hd, h3, h4, h5, rfl⟩
    refine ⟨rfl, nx_in ?_⟩
    have hk2 : st.length = n := by
      rcases Nat.lt_or_ge st.length n with q | q
      · have := congrArg List.length hd
        simp at this
        omega
      · omega
    exact ssat_ret (Sat.of (a := (.tuple (st.map sp), false)) (ρ' := [.ino b, .val (.int n), .val (.tuple (st.map sp)), s3, s4, s5, .non, .non]) rfl ⟨rfl, st, rfl, rfl, hk2, hs, b, hb', rfl⟩)
end Ow

namespace Ow
open PySem PyProof.Rows PySem.Spec L2
/-! ### what is spoilt stays tame -/
def AD (k : Nat) (f : EvE) (ρ : AE) : Prop := ∃ d, f ρ = .ok (d, false) ρ ∧ tame k d = true
def AT (k L : Nat) (f : EvE) (ρ : AE) : Prop := ∃ ds : List D, f ρ = .ok (.tuple ds, false) ρ ∧ ds.length ≤ L ∧ ∀ x ∈ ds, tame k x = true
theorem AT.ad {k L : Nat} {f : EvE} {ρ : AE} (h : AT k L f ρ) : AD (k + 1) f ρ := by
  obtain ⟨ds, e, _, h⟩ := h
  exact ⟨_, e, by show ds.all (tame k) = true; exact List.all_eq_true.mpr h⟩
theorem AD.up {k : Nat} {f : EvE} {ρ : AE} (h : AD k f ρ) : AD (k + 1) f ρ := by
  obtain ⟨d, e, h⟩ := h
  exact ⟨d, e, tame_up k d h⟩
theorem AT.up {k L : Nat} {f : EvE} {ρ : AE} (h : AT k L f ρ) : AT (k + 1) L f ρ := by
  obtain ⟨ds, e, l, h⟩ := h
  exact ⟨ds, e, l, fun x hx => tame_up k x (h x hx)⟩
theorem ad_con {k : Nat} {d : D} {ρ : AE} (h : tame k d = true) : AD k (eCon d) ρ := ⟨d, rfl, h⟩
theorem at_tup0 {k : Nat} {ρ : AE} : AT k 0 (eTup []) ρ := ⟨[], rfl, Nat.le_refl _, fun _ h => by cases h⟩
theorem at_tup1 {k : Nat} {f : EvE} {ρ : AE} (h : AD k f ρ) : AT k 1 (eTup [f]) ρ := by
  obtain ⟨d, e, h⟩ := h
  exact ⟨[d], by simp only [eTup, eList, e, bind_ok], by simp, fun x hx => by rw [List.mem_singleton] at hx; rw [hx]; exact h⟩
theorem at_tup2 {k : Nat} {f g : EvE} {ρ : AE} (h : AD k f ρ) (q : AD k g ρ) : AT k 2 (eTup [f, g]) ρ := by
  obtain ⟨d, e, h⟩ := h
  obtain ⟨d2, e2, h2⟩ := q
  exact ⟨[d, d2], by simp only [eTup, eList, e, e2, bind_ok], by simp, fun x hx => by
    simp only [List.mem_cons, List.not_mem_nil, or_false] at hx
    rcases hx with rfl | rfl
    · exact h
    · exact h2⟩
theorem at_add {k L M : Nat} {f g : EvE} {ρ : AE} (h : AT k L f ρ) (q : AT k M g ρ) (hz : L + M ≤ 1000 := by decide) : AT k (L + M) (eBin dAdd (oOf f) (oOf g)) ρ := by
  obtain ⟨ds, e, l, h⟩ := h
  obtain ⟨es, e2, l2, h2⟩ := q
  refine ⟨ds ++ es, ?_, by rw [List.length_append]; omega, fun x hx => (List.mem_append.mp hx).elim (h x) (h2 x)⟩
  have : dAdd (.tuple ds) (.tuple es) = some (.tuple (ds ++ es), false) := by
    show (if ds.length + es.length ≤ sizeLine then _ else _) = _
    rw [if_pos (by rw [sizeLine_eq]; omega)]
  simp only [eBin, oOf, e, e2, bind_ok, still_none, if_true, this]
theorem at_addV {k L M i : Nat} {g : EvE} {ρ : AE} {ds : List D} (hi : ρ[i]? = some (.val (.tuple ds))) (l : ds.length ≤ L) (h : ∀ x ∈ ds, tame k x = true) (q : AT k M g ρ) (hz : L + M ≤ 1000 := by decide) : AT k (L + M) (eBin dAdd (oVar i) (oOf g)) ρ := by
  obtain ⟨es, e2, l2, h2⟩ := q
  refine ⟨ds ++ es, ?_, by rw [List.length_append]; omega, fun x hx => (List.mem_append.mp hx).elim (h x) (h2 x)⟩
  have : dAdd (.tuple ds) (.tuple es) = some (.tuple (ds ++ es), false) := by
    show (if ds.length + es.length ≤ sizeLine then _ else _) = _
    rw [if_pos (by rw [sizeLine_eq]; omega)]
  simp only [eBin, oOf, oVar, hi, e2, bind_ok, still_none, if_true, this]
/-- a tuple of one or more, so many times -/
theorem at_mul {k L : Nat} {f : EvE} {g : EvO} {ρ : AE} {j : Int} (h : AT k L f ρ) (hf : ∀ d, f ρ = .ok (d, false) ρ → d ≠ .tuple []) (hg : g ρ = .ok (.int j, none) ρ) (h0 : 0 ≤ j) (h1 : j ≤ 8) (hz : L ≤ 100 := by decide) : AT k (8 * L) (eBin dMul (oOf f) g) ρ := by
  obtain ⟨ds, e, l, h⟩ := h
  have hne : ds ≠ [] := fun q => hf _ e (by rw [q])
  refine ⟨(List.replicate j.toNat ds).flatten, ?_, ?_, fun x hx => ?_⟩
  · have : dMul (.tuple ds) (.int j) = some (.tuple (List.replicate j.toNat ds).flatten, false) := by
      show (if ds ≠ [] ∧ -(2 ^ 63) ≤ j ∧ j ≤ 1000 ∧ ds.length ≤ 1000 then _ else _) = _
      rw [if_pos ⟨hne, by omega, by omega, by omega⟩]
    simp only [eBin, oOf, e, hg, bind_ok, still_none, if_true, this]
  · rw [List.length_flatten, List.map_replicate, List.sum_replicate_nat]
    exact Nat.mul_le_mul (by omega) l
  · obtain ⟨l', hl', hx'⟩ := List.mem_flatten.mp hx
    rw [(List.mem_replicate.mp hl').2] at hx'
    exact h x hx'
/-- what stands there while a state is spoilt -/
structure Spo (n : Nat) (st : List SW) (at_ : Nat) (ρ : AE) : Prop where
  l : st.length = n
  n0 : 1 ≤ n
  n4 : n ≤ 4
  a : at_ < n
  w : ∀ p ∈ st, p.2.length = n
  s1 : ρ[1]? = some (.val (.tuple (st.map sp)))
  s2 : ρ[2]? = some (.val (.int n))
  s3 : ρ[3]? = some (.val (.int at_))
theorem tame_sp (p : SW) : tame 2 (sp p) = true := by
  show ([PyData.int p.1, wd p.2].all (tame 1)) = true
  have : tame 1 (wd p.2) = true := by
    show (wl p.2).all (tame 0) = true
    rw [List.all_eq_true]
    intro d hd
    unfold wl at hd
    obtain ⟨a, _, rfl⟩ := List.mem_map.mp hd
    rfl
  simp [this, tame]
theorem at_slice {n : Nat} {st : List SW} {a : Nat} {ρ : AE} {lo hi : Option EvO} {l h : Option Int} (S : Spo n st a ρ) (h1 : evPart lo ρ = .ok l ρ) (h2 : evPart hi ρ = .ok h ρ) : AT 2 4 (eSlice (oVar 1) lo hi) ρ := by
  refine ⟨cutD (st.map sp) l h, by simp only [eSlice, oVar, S.s1, h1, h2, bind_ok, still_none, if_true], ?_, fun x hx => ?_⟩
  · unfold cutD
    have := S.l
    have := S.n4
    rw [List.length_take, List.length_drop, List.length_map]
    omega
  · obtain ⟨p, _, rfl⟩ := List.mem_map.mp (List.mem_of_mem_drop (List.mem_of_mem_take hx))
    exact tame_sp p
theorem part_at {n : Nat} {st : List SW} {a : Nat} {ρ : AE} (S : Spo n st a ρ) : evPart (some (oVar 3)) ρ = .ok (some (a : Int)) ρ := by
  simp only [evPart, oVar, S.s3, bind_ok]
theorem part_next {n : Nat} {st : List SW} {a : Nat} {ρ : AE} (S : Spo n st a ρ) : evPart (some (oOf (eBin dAdd (oVar 3) (oOf (eCon (.int 1)))))) ρ = .ok (some ((a : Int) + 1)) ρ := by
  simp only [evPart, oOf, eBin, oVar, eCon, S.s3, bind_ok, still_none, if_true, dAdd]
theorem part_one {ρ : AE} : evPart (some (oOf (eCon (.int 1)))) ρ = .ok (some 1) ρ := rfl
theorem ix_any {n : Nat} {st : List SW} {a : Nat} {ρ : AE} {g : EvO} {j : Int} (S : Spo n st a ρ) (hg : g ρ = .ok (.int j, none) ρ) (h0 : -1 ≤ j) (h1 : j < n) : ∃ p ∈ st, eBin dIx (oVar 1) g ρ = .ok (sp p, false) ρ := by
  have hl := S.l
  have hn := S.n0
  have : ∃ p ∈ st, atI st j = some p := by
    by_cases h : 0 ≤ j
    · obtain ⟨p, e, hp⟩ := atI_lt h (l := st) (by omega)
      exact ⟨p, hp, e⟩
    · have e : ixN st.length j = some (st.length - 1) := by
        unfold ixN
        rw [if_neg (by omega), if_pos (by omega)]
        congr 1
        omega
      refine ⟨st[st.length - 1]'(by omega), List.getElem_mem _, ?_⟩
      unfold atI
      rw [e]
      exact List.getElem?_eq_getElem (by omega)
  obtain ⟨p, hp, e⟩ := this
  refine ⟨p, hp, ?_⟩
  have q : dIx (.tuple (st.map sp)) (.int j) = some (sp p, false) := by
    show (atI (st.map sp) j).map _ = _
    rw [atI_map, e] <;> rfl
  simp only [eBin, oVar, S.s1, hg, bind_ok, still_none, if_true, q]
/-- the state with one thing put into it -/
theorem at_put {n : Nat} {st : List SW} {a : Nat} {ρ : AE} {f : EvE} (S : Spo n st a ρ) (h : AD 2 f ρ) : AT 2 9 (eBin dAdd (oOf (eBin dAdd (oOf (eSlice (oVar 1) none (some (oVar 3)))) (oOf (eTup [f])))) (oOf (eSlice (oVar 1) (some (oOf (eBin dAdd (oVar 3) (oOf (eCon (.int 1)))))) none))) ρ :=
  at_add (L := 5) (M := 4) (at_add (L := 4) (M := 1) (at_slice S (l := none) rfl (part_at S)) (at_tup1 h)) (at_slice S (h := none) (part_next S) rfl)
end Ow

namespace Ow
open PySem PyProof.Rows PySem.Spec L2
def putE (f : EvE) : EvE := (eBin dAdd (oOf (eBin dAdd (oOf (eSlice (oVar 1) none (some (oVar 3)))) (oOf (eTup [f])))) (oOf (eSlice (oVar 1) (some (oOf (eBin dAdd (oVar 3) (oOf (eCon (.int 1)))))) none)))
def wdE : EvE := (eBin dIx (oOf (eBin dIx (oVar 1) (oVar 3))) (oOf (eCon (.int 1))))
theorem ad_put {n : Nat} {st : List SW} {a : Nat} {ρ : AE} {f : EvE} (S : Spo n st a ρ) (h : AD 2 f ρ) : AD 4 (putE f) ρ := (at_put S h).ad.up
theorem le_list {ρ : AE} : ∀ {fs : List EvE}, (∀ f ∈ fs, AD 4 f ρ) → ∃ ds, eList fs ρ = .ok ds ρ ∧ ds.length = fs.length ∧ ∀ x ∈ ds, Tm x
  | [], _ => ⟨[], rfl, rfl, fun _ h => by cases h⟩
  | f :: fs, h => by
    obtain ⟨d, e, hd⟩ := h f (by simp)
    obtain ⟨ds, e2, l, hds⟩ := le_list (fs := fs) fun g hg => h g (List.mem_cons_of_mem _ hg)
    exact ⟨d :: ds, by simp only [eList, e, e2, bind_ok], by simp [l], fun x hx => by
      rcases List.mem_cons.mp hx with rfl | hx
      · exact hd
      · exact hds x hx⟩
theorem le_lst {ρ : AE} {fs : List EvE} (h : ∀ f ∈ fs, AD 4 f ρ) : ∃ ds, eLst fs ρ = .ok (.list ds, true) ρ ∧ ds.length = fs.length ∧ ∀ x ∈ ds, Tm x := by
  obtain ⟨ds, e, l, q⟩ := le_list h
  exact ⟨ds, by simp only [eLst, e, bind_ok], l, q⟩
/-- bad = bad + [..] -/
theorem more_ok {ρ : AE} {fs : List EvE} {ds : List D} {w : Wp} (h5 : ρ[5]? = some (.own (.list ds))) (l : ds.length ≤ 100) (hds : ∀ x ∈ ds, Tm x) (h : ∀ f ∈ fs, AD 4 f ρ) (hf : fs.length ≤ 100)
    (q : ∀ es : List D, es.length = ds.length + fs.length → (∀ x ∈ es, Tm x) → w.nx (ρ.set 5 (.own (.list es)))) : SSat (sAsg 5 (eBin dAdd (oVar 5) (oOf (eLst fs))) ρ) w := by
  obtain ⟨es, e, le, he⟩ := le_lst h
  have a : dAdd (.list ds) (.list es) = some (.list (ds ++ es), true) := by
    show (if ds.length + es.length ≤ sizeLine then _ else _) = _
    rw [if_pos (by rw [sizeLine_eq]; omega)]
  have c : eBin dAdd (oVar 5) (oOf (eLst fs)) ρ = .ok (.list (ds ++ es), true) ρ := by
    simp only [eBin, oOf, oVar, h5, e, bind_ok]
    rw [if_pos (by simp [still, h5]), a]
  exact ssat_asg (Sat.of c ⟨by rw [h5]; rfl, q _ (by rw [List.length_append, le]) fun x hx => (List.mem_append.mp hx).elim (hds x) (he x)⟩)
section
variable {n : Nat} {st : List SW} {a : Nat} {ρ : AE}
theorem ix_at (S : Spo n st a ρ) : ∃ p ∈ st, eBin dIx (oVar 1) (oVar 3) ρ = .ok (sp p, false) ρ := ix_any S (j := a) (by simp only [oVar, S.s3]) (by omega) (by have := S.a; omega)
theorem ad_at (S : Spo n st a ρ) : AD 2 (eBin dIx (oVar 1) (oVar 3)) ρ := let ⟨p, _, e⟩ := ix_at S; ⟨_, e, tame_sp p⟩
theorem at_at (S : Spo n st a ρ) : AT 1 2 (eBin dIx (oVar 1) (oVar 3)) ρ := by
  obtain ⟨p, _, e⟩ := ix_at S
  have := tame_sp p
  exact ⟨_, e, by simp, List.all_eq_true.mp this⟩
theorem at_wd (S : Spo n st a ρ) : AT 0 4 wdE ρ := by
  obtain ⟨p, hp, e⟩ := ix_at S
  refine ⟨wl p.2, ?_, ?_, fun x hx => ?_⟩
  · unfold wdE
    rw [eBin]
    simp only [oOf, e, eCon, bind_ok, still_none, if_true]
    rw [show dIx (sp p) (.int 1) = some (wd p.2, false) from pair_ix1 _ _] <;> rfl
  · unfold wl
    rw [List.length_map, S.w p hp]
    exact S.n4
  · unfold wl at hx
    obtain ⟨b, _, rfl⟩ := List.mem_map.mp hx
    rfl
theorem ad_wd (S : Spo n st a ρ) : AD 1 wdE ρ := (at_wd S).ad
theorem ad_before (S : Spo n st a ρ) : ∃ p ∈ st, eBin dIx (oVar 1) (oOf (eBin dSub (oVar 3) (oOf (eCon (.int 1))))) ρ = .ok (sp p, false) ρ := by
  have ha := S.a
  refine ix_any S (j := (a : Int) - 1) ?_ (by omega) (by omega)
  simp only [oOf, eBin, oVar, eCon, S.s3, bind_ok, still_none, if_true, dSub]
theorem g_n (S : Spo n st a ρ) : oVar 2 ρ = .ok (.int n, none) ρ := by simp only [oVar, S.s2]
theorem g_n1 (S : Spo n st a ρ) : oOf (eBin dSub (oVar 2) (oOf (eCon (.int 1)))) ρ = .ok (.int ((n : Int) - 1), none) ρ := by
  simp only [oOf, eBin, oVar, eCon, S.s2, bind_ok, still_none, if_true, dSub]
theorem g_5n (S : Spo n st a ρ) : oOf (eBin dSub (oOf (eCon (.int 5))) (oVar 2)) ρ = .ok (.int (5 - (n : Int)), none) ρ := by
  simp only [oOf, eBin, oVar, eCon, S.s2, bind_ok, still_none, if_true, dSub]
theorem at_one {k : Nat} {d : D} (h : tame k d = true) : AT k 1 (eTup [eCon d]) ρ := at_tup1 (ad_con h)
theorem one_ne {f : EvE} {ρ : AE} : ∀ d, eTup [f] ρ = .ok (d, false) ρ → d ≠ .tuple [] := by
  intro d h e
  subst e
  simp only [eTup, eList] at h
  cases hf : f ρ with
  | ok p ρ1 => rw [hf] at h; simp only [Res.bind] at h; cases h
  | exc c => rw [hf] at h; cases h
  | stuck => rw [hf] at h; cases h
theorem at_zeros {d : D} {g : EvO} {j : Int} (hd : tame 0 d = true) (hg : g ρ = .ok (.int j, none) ρ) (h0 : 0 ≤ j) (h1 : j ≤ 8) : AT 0 8 (eBin dMul (oOf (eTup [eCon d])) g) ρ := at_mul (L := 1) (at_one hd) one_ne hg h0 h1
theorem first6 {q : SW} (S : Spo n st a ρ) (h4 : ρ[4]? = some (.val (sp q))) : ∀ f ∈ [putE (eVar 4), (eSlice (oVar 1) (some (oOf (eCon (.int 1)))) none), (eBin dAdd (oVar 1) (oOf (eTup [(eVar 4)]))), putE (eTup [(eCon (.int 0)), (eBin dMul (oOf (eTup [(eCon (.int 0))])) (oVar 2))]), (eUn dRev (oVar 1)), (eTup [])], AD 4 f ρ := by
  have hn := S.n4
  have hl := S.l
  have v4 : AD 2 (eVar 4) ρ := ⟨sp q, by simp only [eVar, h4], tame_sp q⟩
  have hst : ∀ x ∈ st.map sp, tame 2 x = true := fun x hx => by
    obtain ⟨p, _, rfl⟩ := List.mem_map.mp hx
    exact tame_sp p
  intro f hf
  simp only [List.mem_cons, List.not_mem_nil, or_false] at hf
  rcases hf with rfl | rfl | rfl | rfl | rfl | rfl
  · exact ad_put S v4
  · exact (at_slice S (h := none) part_one rfl).ad.up
  · exact (at_addV (L := 4) (M := 1) S.s1 (by rw [List.length_map]; omega) hst (at_tup1 v4)).ad.up
  · exact ad_put S (at_tup2 (k := 1) (ad_con rfl) (at_zeros rfl (g_n S) (by omega) (by omega)).ad).ad
  · refine ⟨.tuple (st.map sp).reverse, by simp only [eUn, oVar, S.s1, bind_ok, dRev], ?_⟩
    show (st.map sp).reverse.all (tame 3) = true
    rw [List.all_eq_true]
    exact fun x hx => tame_up 2 x (hst x (List.mem_reverse.mp hx))
  · exact (at_tup0 (k := 3)).ad
theorem next5 (S : Spo n st a ρ) : ∀ f ∈ [putE (eTup [(eCon (.int 2)), wdE]), putE (eTup [(eCon (.int 0)), (eBin dAdd (oOf (eTup [(eCon (.int 4))])) (oOf (eBin dMul (oOf (eTup [(eCon (.int 0))])) (oOf (eBin dSub (oVar 2) (oOf (eCon (.int 1))))))))]), (eCon .none), (eCon (.int 3)), (eCon (.str "state"))], AD 4 f ρ := by
  have hn := S.n4
  have h0 := S.n0
  intro f hf
  simp only [List.mem_cons, List.not_mem_nil, or_false] at hf
  rcases hf with rfl | rfl | rfl | rfl | rfl
  · exact ad_put S (at_tup2 (k := 1) (ad_con rfl) (ad_wd S)).ad
  · exact ad_put S (at_tup2 (k := 1) (ad_con rfl) (at_add (L := 1) (M := 8) (at_one rfl) (at_zeros rfl (g_n1 S) (by omega) (by omega))).ad).ad
  · exact ad_con rfl
  · exact ad_con rfl
  · exact ad_con rfl
theorem next3 (S : Spo n st a ρ) : ∀ f ∈ [putE wdE, putE (eTup [(eCon (.int 0)), (eBin dAdd (oOf wdE) (oOf (eTup [(eCon (.int 0))])))]), putE (eBin dAdd (oOf (eBin dIx (oVar 1) (oVar 3))) (oOf (eTup [(eCon (.int 0))])))], AD 4 f ρ := by
  intro f hf
  simp only [List.mem_cons, List.not_mem_nil, or_false] at hf
  rcases hf with rfl | rfl | rfl
  · exact ad_put S (ad_wd S).up
  · exact ad_put S (at_tup2 (k := 1) (ad_con rfl) (at_add (L := 4) (M := 1) (at_wd S) (at_one rfl)).ad).ad
  · exact ad_put S (at_add (L := 2) (M := 1) (at_at S) (at_one rfl)).ad
end
end Ow

namespace Ow
open PySem PyProof.Rows PySem.Spec L2
def padE : EvE := (eTup [(eVar 6), (eBin dAdd (oVar 7) (oOf (eBin dMul (oOf (eTup [(eCon (.int 0))])) (oOf (eBin dSub (oOf (eCon (.int 5))) (oVar 2))))))])
def longE : EvE := (eBin dAdd (oOf (eOps dTuple [(oOf (eComp [6, 7] (iSeq (oVar 1)) (.tup [(.name 6), (.name 7)]) tTrue padE))])) (oOf (eBin dMul (oOf (eTup [(eTup [(eCon (.int 0)), (eBin dMul (oOf (eTup [(eCon (.int 1))])) (oOf (eCon (.int 5))))])])) (oOf (eBin dSub (oOf (eCon (.int 5))) (oVar 2))))))
theorem spo_mk {n : Nat} {st : List SW} {a : Nat} {s0 s4 s5 s6 s7 : Slot} (l : st.length = n) (n0 : 1 ≤ n) (n4 : n ≤ 4) (ha : a < n) (w : ∀ p ∈ st, p.2.length = n) : Spo n st a [s0, .val (.tuple (st.map sp)), .val (.int n), .val (.int a), s4, s5, s6, s7] := ⟨l, n0, n4, ha, w, rfl, rfl, rfl⟩
theorem ad_long {n : Nat} {st : List SW} {a : Nat} {s0 s4 s5 : Slot} (l : st.length = n) (n0 : 1 ≤ n) (n4 : n ≤ 4) (ha : a < n) (w : ∀ p ∈ st, p.2.length = n) : AD 4 longE [s0, .val (.tuple (st.map sp)), .val (.int n), .val (.int a), s4, s5, .non, .non] := by
  have S := spo_mk (s0 := s0) (s4 := s4) (s5 := s5) (s6 := .non) (s7 := .non) l n0 n4 ha w
  have H : ∀ p : SW, ∃ d : D, p ∈ st → padE [s0, .val (.tuple (st.map sp)), .val (.int n), .val (.int a), s4, s5, .val (.int p.1), .val (wd p.2)] = .ok (d, false) [s0, .val (.tuple (st.map sp)), .val (.int n), .val (.int a), s4, s5, .val (.int p.1), .val (wd p.2)] ∧ tame 2 d = true := fun p => by
    by_cases hp : p ∈ st
    · have S2 := spo_mk (s0 := s0) (s4 := s4) (s5 := s5) (s6 := .val (.int p.1)) (s7 := .val (wd p.2)) l n0 n4 ha w
      have v6 : AD 1 (eVar 6) [s0, .val (.tuple (st.map sp)), .val (.int n), .val (.int a), s4, s5, .val (.int p.1), .val (wd p.2)] := ⟨.int p.1, rfl, rfl⟩
      have q := at_tup2 (k := 1) v6 (at_addV (i := 7) (L := 4) (M := 8) (ds := wl p.2) rfl (by unfold wl; rw [List.length_map, w p hp]; exact n4) (fun x hx => by
        unfold wl at hx
        obtain ⟨b, _, rfl⟩ := List.mem_map.mp hx
        rfl) (at_zeros (d := .int 0) rfl (g_5n S2) (by omega) (by omega))).ad
      obtain ⟨d, e, hd⟩ := q.ad
      exact ⟨d, fun _ => ⟨e, hd⟩⟩
    · exact ⟨.none, fun h => absurd h hp⟩
  obtain ⟨g, hg⟩ := Classical.axiomOfChoice H
  have c := eComp_all (own := [6, 7]) (it := iSeq (oVar 1)) (bs := [(.tuple (st.map sp), none)]) (tg := .tup [.name 6, .name 7]) (el := padE) (ρ := [s0, .val (.tuple (st.map sp)), .val (.int n), .val (.int a), s4, s5, .non, .non]) st sp (fun p => [s0, .val (.tuple (st.map sp)), .val (.int n), .val (.int a), s4, s5, .val (.int p.1), .val (wd p.2)]) (fun p => (g p, false)) rfl rfl rfl fun p hp => ⟨rfl, rfl, (hg p hp).1⟩
  have t1 : AT 2 4 (eOps dTuple [(oOf (eComp [6, 7] (iSeq (oVar 1)) (.tup [(.name 6), (.name 7)]) tTrue padE))]) [s0, .val (.tuple (st.map sp)), .val (.int n), .val (.int a), s4, s5, .non, .non] := by
    refine ⟨st.map fun p => g p, ?_, by rw [List.length_map]; omega, fun x hx => ?_⟩
    · simp only [eOps, oList, oOf, c, bind_ok, stills, still_none, Bool.and_self, if_true, List.map_cons, List.map_nil, dTuple]
    · obtain ⟨p, hp, rfl⟩ := List.mem_map.mp hx
      exact (hg p hp).2
  have t2 : AT 2 8 (eBin dMul (oOf (eTup [(eTup [(eCon (.int 0)), (eBin dMul (oOf (eTup [(eCon (.int 1))])) (oOf (eCon (.int 5))))])])) (oOf (eBin dSub (oOf (eCon (.int 5))) (oVar 2)))) [s0, .val (.tuple (st.map sp)), .val (.int n), .val (.int a), s4, s5, .non, .non] :=
    at_mul (L := 1) (at_tup1 (at_tup2 (k := 1) (ad_con rfl) (at_zeros (d := .int 1) (g := oOf (eCon (.int 5))) (j := 5) rfl rfl (by decide) (by decide)).ad).ad) one_ne (g_5n S) (by omega) (by omega)
  exact (at_add (L := 4) (M := 8) t1 t2).ad.up
theorem next2 {n : Nat} {st : List SW} {a : Nat} {s0 s4 s5 : Slot} (l : st.length = n) (n0 : 1 ≤ n) (n4 : n ≤ 4) (ha : a < n) (w : ∀ p ∈ st, p.2.length = n) : ∀ f ∈ [longE, putE (eTup [(eCon (.str "0")), wdE])], AD 4 f [s0, .val (.tuple (st.map sp)), .val (.int n), .val (.int a), s4, s5, .non, .non] := by
  intro f hf
  simp only [List.mem_cons, List.not_mem_nil, or_false] at hf
  rcases hf with rfl | rfl
  · exact ad_long l n0 n4 ha w
  · have S := spo_mk (s0 := s0) (s4 := s4) (s5 := s5) (s6 := .non) (s7 := .non) l n0 n4 ha w
    exact ad_put S (at_tup2 (k := 1) (ad_con rfl) (ad_wd S)).ad
def tmE : EvE := (eCall _law_times_S [.val (eBin dIx (oVar 1) (oVar 3)), .val (eBin dIx (oVar 1) (oOf (eBin dSub (oVar 3) (oOf (eCon (.int 1))))))])
def bfE : EvE := (eBin dIx (oVar 1) (oOf (eBin dSub (oVar 3) (oOf (eCon (.int 1))))))
theorem ad_tm {n : Nat} {st : List SW} {a : Nat} {ρ : AE} (S : Spo n st a ρ) : AD 2 tmE ρ := by
  obtain ⟨p, hp, e1⟩ := ix_at S
  obtain ⟨q, hq, e2⟩ := ad_before S
  have := S.w p hp
  have := S.n4
  exact ⟨sp (tms p q), call2_eq (p := (sp p, false)) (q := (sp q, false)) e1 e2 (ltimes_ok (by omega)), tame_sp _⟩
theorem ad_bf {n : Nat} {st : List SW} {a : Nat} {ρ : AE} (S : Spo n st a ρ) : AD 2 bfE ρ := by
  obtain ⟨q, hq, e2⟩ := ad_before S
  exact ⟨_, e2, tame_sp q⟩
theorem app1_ok {ρ : AE} {f : EvE} {ds : List D} {w : Wp} (h5 : ρ[5]? = some (.own (.list ds))) (l : ds.length ≤ 100) (hds : ∀ x ∈ ds, Tm x) (h : AD 4 f ρ) (q : ∀ es : List D, es.length = ds.length + 1 → (∀ x ∈ es, Tm x) → w.nx (ρ.set 5 (.own (.list es)))) : SSat (sApp 5 f ρ) w := by
  obtain ⟨d, e, hd⟩ := h
  refine ssat_app h5 (Sat.of e ⟨ds, h5, by omega, q _ (by simp) fun x hx => ?_⟩)
  rcases List.mem_append.mp hx with hx | hx
  · exact hds x hx
  · rw [List.mem_singleton] at hx
    subst hx
    exact hd
theorem other_sem {bx : D} {n : Nat} {st : List SW} (hb : Bx bx) (l : st.length = n) (n0 : 1 ≤ n) (n4 : n ≤ 4) (hw : ∀ p ∈ st, p.2.length = n) : FSat (_law_other_state_S [bx, .tuple (st.map sp)]) (fun r fl outs => Tm r ∧ fl = false ∧ ∃ b', Bx b' ∧ outs = [b', .none]) (fun _ => False) := by
  refine fsat_run rfl ?_
  show SSat (_law_other_state_F [.ino bx, .val (.tuple (st.map sp)), .non, .non, .non, .non, .non, .non]) _
  unfold _law_other_state_F
  refine ssat_seq (ssat_asg (Sat.of (a := (.int (st.map sp).length, false)) (ρ' := [.ino bx, .val (.tuple (st.map sp)), .non, .non, .non, .non, .non, .non]) rfl ⟨rfl, nx_in ?_⟩))
  rw [List.length_map, l]
  show SSat (sSeq _ _ [.ino bx, .val (.tuple (st.map sp)), .val (.int n), .non, .non, .non, .non, .non]) _
  refine ssat_seq (ssat_asg (sat_draw0 (r := [.val (.tuple (st.map sp)), .val (.int n), .non, .non, .non, .non, .non]) (m := n) (fl := false) hb rfl (by omega) (by omega) fun a b1 ha0 ha hb1 => ⟨rfl, nx_in ?_⟩))
  obtain ⟨a, rfl⟩ : ∃ k : Nat, a = (k : Int) := ⟨a.toNat, by omega⟩
  have ha : a < n := by omega
  show SSat (sSeq _ _ [.ino b1, .val (.tuple (st.map sp)), .val (.int n), .val (.int a), .non, .non, .non, .non]) _
  refine ssat_seq (ssat_asg (sat_call2 rfl (Sat.of (a := (.int n, false)) (ρ' := [.ino b1, .val (.tuple (st.map sp)), .val (.int n), .val (.int a), .non, .non, .non, .non]) rfl ⟨.ino b1, b1, rfl, rfl, (signed_sem hb1 n0 n4).imp (fun r fl outs q => ?_) fun _ h => h⟩)))
  obtain ⟨q, rfl, rfl, _, _, b2, hb2, rfl⟩ := q
  refine ⟨rfl, nx_in ?_⟩
  show SSat (sSeq _ _ [.ino b2, .val (.tuple (st.map sp)), .val (.int n), .val (.int a), .val (sp q), .non, .non, .non]) _
  have S : ∀ s5 : Slot, Spo n st a [.ino b2, .val (.tuple (st.map sp)), .val (.int n), .val (.int a), .val (sp q), s5, .non, .non] := fun s5 => spo_mk l n0 n4 ha hw
  obtain ⟨d1, e1, l1, t1⟩ := le_lst (first6 (S .non) rfl)
  refine ssat_seq (ssat_asg (Sat.of e1 ⟨rfl, nx_in ?_⟩))
  show SSat (sSeq _ _ [.ino b2, .val (.tuple (st.map sp)), .val (.int n), .val (.int a), .val (sp q), .own (.list d1), .non, .non]) _
  have l1 : d1.length = 6 := l1
  refine ssat_seq (more_ok rfl (by omega) t1 (next5 (S _)) (by decide) fun d2 l2 t2 => nx_in ?_)
  show SSat (sSeq _ _ [.ino b2, .val (.tuple (st.map sp)), .val (.int n), .val (.int a), .val (sp q), .own (.list d2), .non, .non]) _
  have l2 : d2.length = d1.length + 5 := l2
  refine ssat_seq (more_ok rfl (by omega) t2 (next3 (S _)) (by decide) fun d3 l3 t3 => nx_in ?_)
  show SSat (sSeq _ _ [.ino b2, .val (.tuple (st.map sp)), .val (.int n), .val (.int a), .val (sp q), .own (.list d3), .non, .non]) _
  have l3 : d3.length = d2.length + 3 := l3
  refine ssat_seq (more_ok rfl (by omega) t3 (next2 l n0 n4 ha hw) (by decide) fun d4 l4 t4 => nx_in ?_)
  show SSat (sSeq _ _ [.ino b2, .val (.tuple (st.map sp)), .val (.int n), .val (.int a), .val (sp q), .own (.list d4), .non, .non]) _
  have l4 : d4.length = d3.length + 2 := l4
  have fin : ∀ (w : Wp) (d5 : List D), 0 < d5.length → d5.length ≤ 100 → (∀ x ∈ d5, Tm x) → (∀ d b3, Tm d → Bx b3 → w.rt d false [.ino b3, .val (.tuple (st.map sp)), .val (.int n), .val (.int a), .val (sp q), .own (.list d5), .non, .non]) →
      SSat (sRet (eBin dIx (oVar 5) (oOf (eCall _law_draw_S [.ref 0, .val (eOps dLen [(oVar 5)])]))) [.ino b2, .val (.tuple (st.map sp)), .val (.int n), .val (.int a), .val (sp q), .own (.list d5), .non, .non]) w := fun w d5 p5 q5 t5 hw5 => by
    refine ssat_ret (sat_bin (Sat.of (a := (.list d5, some 5)) (ρ' := [.ino b2, .val (.tuple (st.map sp)), .val (.int n), .val (.int a), .val (sp q), .own (.list d5), .non, .non]) rfl (sat_oOf (sat_draw0 (r := [.val (.tuple (st.map sp)), .val (.int n), .val (.int a), .val (sp q), .own (.list d5), .non, .non]) (m := d5.length) (fl := false) hb2 ?_ (by omega) (by omega) fun j b3 hj0 hj hb3 => ?_))))
    · simp [eOps, oList, oVar, stills, still, dLen]
    · obtain ⟨x, e, hx⟩ := atI_lt hj0 hj
      refine ⟨by simp [still], (x, false), ?_, hw5 x b3 (t5 x hx) hb3⟩
      show (atI d5 j).map _ = _
      rw [e] <;> rfl
  have hgt : tVal (eBin dGt (oVar 2) (oOf (eCon (.int 1)))) [.ino b2, .val (.tuple (st.map sp)), .val (.int n), .val (.int a), .val (sp q), .own (.list d4), .non, .non] = .ok (decide ((1 : Int) < n)) [.ino b2, .val (.tuple (st.map sp)), .val (.int n), .val (.int a), .val (sp q), .own (.list d4), .non, .non] := by
    simp [tVal, eBin, oVar, oOf, eCon, still]
  refine ssat_guard hgt ?_ ?_
  · intro _
    refine ssat_seq (app1_ok rfl (by omega) t4 (ad_put (S _) (ad_tm (S _))) fun d5 l5 t5 => nx_in ?_)
    show SSat _ _
    refine app1_ok (ds := d5) rfl (by omega) t5 (ad_put (S _) (ad_bf (S _))) fun d6 l6 t6 => nx_in ?_
    exact fin _ d6 (by omega) (by omega) t6 fun d b3 hd hb3 => ⟨rfl, hd, rfl, b3, hb3, rfl⟩
  · intro _
    exact fin _ d4 (by omega) (by omega) t4 fun d b3 hd hb3 => ⟨rfl, hd, rfl, b3, hb3, rfl⟩
end Ow

namespace Ow
open PySem PyProof.Rows PySem.Spec L2
theorem mulD_comm {a b : D} (h : mulD a b) : mulD b a := by
  obtain ⟨p, q, rfl, rfl, h1, h2, h3, h4, h5, h6⟩ := h
  exact ⟨q, p, rfl, rfl, by omega, by omega, h3.symm, h5, h4, by rw [par_comm]; exact h6⟩
theorem mulD_iff {n : Nat} {p : SW} {d : D} (h0 : 1 ≤ n) (hn : n ≤ 4) (hl : p.2.length = n) (hs : p.1 = 0 ∨ p.1 = 1) : mulD (sp p) d ↔ isS n d = true ∧ ∃ q, d = sp q ∧ par p.2 q.2 = false := by
  constructor
  · rintro ⟨p', q, e, rfl, h1, h2, h3, h4, h5, h6⟩
    rw [← sp_inj e] at h3 h6
    exact ⟨isS_sp.mpr ⟨q, rfl, by omega, h5⟩, q, rfl, h6⟩
  · rintro ⟨h1, q, rfl, h2⟩
    obtain ⟨q', e, h3, h4⟩ := isS_sp.mp h1
    rw [← sp_inj e] at h3 h4
    exact ⟨p, q, rfl, rfl, by omega, by omega, by omega, hs, h4, h2⟩
theorem okC_tame {m k : Nat} {a b : D} (ha : tame m a = true) (hb : tame k b = true) (hm : m ≤ 60) : okC a b = true := by
  obtain ⟨h1, h2⟩ := tame_plain m a ha
  obtain ⟨h3, h4⟩ := tame_plain k b hb
  simp [okC, h1, h3]
  omega
theorem eqv_self : ∀ (k : Nat) (d : D), tame k d = true → PyData.eqv d d = true
  | k, .none, _ => rfl
  | k, .int i, _ => by simp [PyData.eqv]
  | k, .str x, _ => by simp [PyData.eqv]
  | k + 1, .tuple ds, h => by
    have h : ds.all (tame k) = true := by simpa only [tame] using h
    rw [List.all_eq_true] at h
    have go : ∀ l : List D, (∀ d ∈ l, tame k d = true) → PyData.eqvAll l l = true := fun l => by
      induction l with
      | nil => intro _; rfl
      | cons a l ih =>
        intro hl
        simp only [PyData.eqvAll, eqv_self k a (hl a (by simp)), ih fun d hd => hl d (List.mem_cons_of_mem _ hd), Bool.and_self]
    simpa only [PyData.eqv] using go ds h
  | 0, .tuple ds, h => by simp [tame] at h
  | k, .bool _, h => by cases k <;> simp [tame] at h
  | k, .list _, h => by cases k <;> simp [tame] at h
  | k, .dict _, h => by cases k <;> simp [tame] at h
theorem ne_self {k : Nat} {d : D} (h : tame k d = true) (hk : k ≤ 60) : dNe d d = some (.bool false, false) := by
  rw [dNe, if_pos (okC_tame h h hk), eqv_self k d h] <;> rfl
theorem eq_self {k : Nat} {d : D} (h : tame k d = true) (hk : k ≤ 60) : dEq d d = some (.bool true, false) := by
  rw [dEq, if_pos (okC_tame h h hk), eqv_self k d h]
def okD (d : D) : D := .tuple [.int 0, d]
theorem tame_ok {p : SW} : tame 3 (okD (sp p)) = true := by
  show ([PyData.int 0, sp p].all (tame 2)) = true
  simp [tame_sp, tame]
def mrEnd : StF := (sSeq (sAsg 4 (eTup [(eCon (.int 1)), (eCon (.str "state"))])) (sSeq (sIf (tAnd2 (tVal (eCall _law_is_signed_S [.val (eVar 1), .val (eVar 3)])) (tNot1 (tVal (eCall _law_parts_S [.val (eBin dIx (oVar 2) (oOf (eCon (.int 1)))), .val (eBin dIx (oVar 3) (oOf (eCon (.int 1))))])))) (sAsg 4 (eTup [(eCon (.int 0)), (eCall _law_times_S [.val (eVar 2), .val (eVar 3)])])) sNx) (sSeq (sIf (tVal (eBin dNe (oOf (eTold readD2 toldWord (eCall multiply_S [.val (eVar 2), .val (eVar 3)]))) (oVar 4))) (sRet (eCon (.bool false))) sNx) (sRet (eOr2 (eBin dEq (oOf (eBin dIx (oVar 4) (oOf (eCon (.int 0))))) (oOf (eCon (.int 0)))) (eBin dEq (oOf (eTold readD2 toldWord (eCall multiply_S [.val (eVar 3), .val (eVar 2)]))) (oOf (eTup [(eCon (.int 1)), (eCon (.str "state"))]))))))))
/-- the second part of a pair -/
theorem ix1_eq {ρ : AE} {i : Nat} {p : SW} (h : ρ[i]? = some (.val (sp p))) : eBin dIx (oVar i) (oOf (eCon (.int 1))) ρ = .ok (wd p.2, false) ρ := by
  rw [eBin]
  simp only [oOf, oVar, h, eCon, bind_ok, still_none, if_true]
  rw [show dIx (sp p) (.int 1) = some (wd p.2, false) from pair_ix1 _ _] <;> rfl
def mrT : EvT := (tAnd2 (tVal (eCall _law_is_signed_S [.val (eVar 1), .val (eVar 3)])) (tNot1 (tVal (eCall _law_parts_S [.val (eBin dIx (oVar 2) (oOf (eCon (.int 1)))), .val (eBin dIx (oVar 3) (oOf (eCon (.int 1))))]))))
section
variable {n : Nat} {p q : SW} {d : D} {ρ : AE}
theorem mrS_eq (hd : Tm d) (h1 : ρ[1]? = some (.val (.int n))) (h3 : ρ[3]? = some (.val d)) : tVal (eCall _law_is_signed_S [.val (eVar 1), .val (eVar 3)]) ρ = .ok (isS n d) ρ := by
  have c := call2_eq (sem := _law_is_signed_S) (f := eVar 1) (g := eVar 3) (ρ := ρ) (p := (.int n, false)) (q := (d, false)) (by simp only [eVar, h1]) (by simp only [eVar, h3]) (lissigned_sem hd)
  simp only [tVal, c, bind_ok]
theorem mrP_eq (hl : p.2.length ≤ 4) (hq : q.2.length = p.2.length) (h2 : ρ[2]? = some (.val (sp p))) (h3 : ρ[3]? = some (.val (sp q))) : tVal (eCall _law_parts_S [.val (eBin dIx (oVar 2) (oOf (eCon (.int 1)))), .val (eBin dIx (oVar 3) (oOf (eCon (.int 1))))]) ρ = .ok (par p.2 q.2) ρ := by
  have c := call2_eq (sem := _law_parts_S) (ρ := ρ) (p := (wd p.2, false)) (q := (wd q.2, false)) (ix1_eq h2) (ix1_eq h3) (lparts_ok (by omega) (by omega))
  simp only [tVal, c, bind_ok]
theorem mrT_eq {b : Bool} (hd : Tm d) (h1 : ρ[1]? = some (.val (.int n))) (h2 : ρ[2]? = some (.val (sp p))) (h3 : ρ[3]? = some (.val d)) (h0 : 1 ≤ n) (hn : n ≤ 4) (hl : p.2.length = n) (hs : p.1 = 0 ∨ p.1 = 1) (hb : b = true ↔ mulD (sp p) d) : mrT ρ = .ok b ρ := by
  have e1 := mrS_eq hd h1 h3
  unfold mrT
  cases hS : isS n d with
  | false =>
    have : b = false := by
      rw [← Bool.not_eq_true, hb, mulD_iff h0 hn hl hs, hS]
      rintro ⟨h, _⟩
      cases h
    rw [hS] at e1
    simp only [tAnd2, e1, bind_ok]
    rw [this] <;> rfl
  | true =>
    obtain ⟨q, rfl, hq, hq2⟩ := isS_sp.mp hS
    have e2 := mrP_eq (by omega) (by omega) h2 h3
    have : b = !par p.2 q.2 := by
      rw [Bool.eq_iff_iff, hb, mulD_iff h0 hn hl hs, Bool.not_eq_true']
      constructor
      · rintro ⟨_, q', e, h⟩
        rw [sp_inj e]
        exact h
      · intro h
        exact ⟨hS, q, rfl, h⟩
    rw [hS] at e1
    simp only [tAnd2, tNot1, e1, e2, bind_ok, if_true]
    rw [this] <;> rfl
theorem mrC_eq (hl : p.2.length ≤ 4) (hq : q.2.length = p.2.length) (h2 : ρ[2]? = some (.val (sp p))) (h3 : ρ[3]? = some (.val (sp q))) : eTup [(eCon (.int 0)), (eCall _law_times_S [.val (eVar 2), .val (eVar 3)])] ρ = .ok (okD (sp (tms p q)), false) ρ := by
  have c : eCall _law_times_S [.val (eVar 2), .val (eVar 3)] ρ = .ok (sp (tms p q), false) ρ := call2_eq (p := (sp p, false)) (q := (sp q, false)) (by simp only [eVar, h2]) (by simp only [eVar, h3]) (ltimes_ok (by omega))
  simp only [eTup, eList, eCon, c, bind_ok, okD]
theorem mask_val {i : Nat} {d : D} (h : ρ[i]? = some (.val d)) : (maskA ρ)[i]? = some (.val d) := by simp [maskA, h]
theorem mrA_eq {i j : Nat} {a b x : D} (hi : ρ[i]? = some (.val a)) (hj : ρ[j]? = some (.val b)) (hx : tellR (multiply_S [a, b]) = some x) : eTold readD2 toldWord (eCall multiply_S [.val (eVar i), .val (eVar j)]) ρ = .ok (x, false) ρ := by
  refine told_any (ps := [(a, none), (b, none)]) ?_ (by simp) hx
  simp only [evArgs, eVar, mask_val hi, mask_val hj, bind_ok]
theorem ix0_eq {i : Nat} {a b : D} (h : ρ[i]? = some (.val (.tuple [a, b]))) : eBin dIx (oVar i) (oOf (eCon (.int 0))) ρ = .ok (a, false) ρ := by
  simp only [eBin, oOf, oVar, h, eCon, bind_ok, still_none, if_true]
  rw [show dIx (.tuple [a, b]) (.int 0) = some (a, false) from pair_ix0 _ _]
theorem eq0_eq {f : EvE} {k : Int} (h : f ρ = .ok (.int k, false) ρ) : eBin dEq (oOf f) (oOf (eCon (.int 0))) ρ = .ok (.bool (decide (k = 0)), false) ρ := by
  simp only [eBin, oOf, h, eCon, bind_ok, still_none, if_true, dEq_ii]
end
theorem mrEnd_ok {n : Nat} {p : SW} {d b : D} {w : Wp} (h0 : 1 ≤ n) (hn : n ≤ 4) (hl : p.2.length = n) (hs : p.1 = 0 ∨ p.1 = 1) (hd : Tm d)
    (h : ∀ e, w.rt (.bool true) false [.ino b, .val (.int n), .val (sp p), .val d, .val e]) : SSat (mrEnd [.ino b, .val (.int n), .val (sp p), .val d, .non]) w := by
  unfold mrEnd
  have q0 : eTup [(eCon (.int 1)), (eCon (.str "state"))] [.ino b, .val (.int n), .val (sp p), .val d, .non] = .ok (bad1, false) [.ino b, .val (.int n), .val (sp p), .val d, .non] := rfl
  refine ssat_seq (ssat_asg (Sat.of q0 ⟨rfl, nx_in ?_⟩))
  show SSat (sSeq (sIf mrT _ _) _ [.ino b, .val (.int n), .val (sp p), .val d, .val bad1]) _
  by_cases hm : mulD (sp p) d
  · refine ssat_guard (mrT_eq (b := true) hd rfl rfl rfl h0 hn hl hs ⟨fun _ => hm, fun _ => rfl⟩) ?_ (fun hb => by cases hb)
    intro _
    obtain ⟨hS, q, rfl, hpar⟩ := (mulD_iff h0 hn hl hs).mp hm
    obtain ⟨q', eq', hq, _⟩ := isS_sp.mp hS
    rw [← sp_inj eq'] at hq
    refine ssat_asg (Sat.of (mrC_eq (by omega) (by omega) rfl rfl) ⟨rfl, nx_in ?_⟩)
    show SSat (sSeq _ _ [.ino b, .val (.int n), .val (sp p), .val (sp q), .val (okD (sp (tms p q)))]) _
    have tm : tellR (multiply_S [sp p, sp q]) = some (okD (sp (tms p q))) := by
      rcases tell_mult (a := sp p) (b := sp q) tm_sp hd with ⟨p2, q2, e1, e2, _, e⟩ | ⟨hno, _⟩
      · rw [e, ← sp_inj e1, ← sp_inj e2] <;> rfl
      · exact absurd hm hno
    generalize hK : okD (sp (tms p q)) = K at *
    have hK2 : tame 3 K = true := hK ▸ tame_ok
    refine ssat_guard (b := false) ?_ (fun hb => by cases hb) ?_
    · simp only [tVal, eBin, oOf, mrA_eq (ρ := [.ino b, .val (.int n), .val (sp p), .val (sp q), .val K]) (i := 2) (j := 3) rfl rfl tm, oVar, List.getElem?_cons_zero, List.getElem?_cons_succ, bind_ok, still_none, if_true, ne_self hK2 (by decide)]
    · intro _
      refine ssat_ret (Sat.bind (Sat.of (eq0_eq (ix0_eq (i := 4) (a := .int 0) (b := sp (tms p q)) (by rw [← hK] <;> rfl))) ?_))
      exact h _
  · refine ssat_guard (mrT_eq (b := false) hd rfl rfl rfl h0 hn hl hs ⟨fun h => (by cases h), fun h => absurd h hm⟩) (fun hb => by cases hb) ?_
    intro _
    have tm : tellR (multiply_S [sp p, d]) = some bad1 := by
      rcases tell_mult (a := sp p) (b := d) tm_sp hd with ⟨_, _, _, _, hy, _⟩ | ⟨_, e⟩
      · exact absurd hy hm
      · exact e
    have tm2 : tellR (multiply_S [d, sp p]) = some bad1 := by
      rcases tell_mult (a := d) (b := sp p) hd tm_sp with ⟨_, _, _, _, hy, _⟩ | ⟨_, e⟩
      · exact absurd (mulD_comm hy) hm
      · exact e
    have hK2 : tame 2 bad1 = true := rfl
    have hK3 : dEq bad1 (.tuple [.int 1, .str "state"]) = some (.bool true, false) := eq_self hK2 (by decide)
    have hK4 : dIx bad1 (.int 0) = some (.int 1, false) := pair_ix0 _ _
    generalize bad1 = K at *
    refine ssat_guard (b := false) ?_ (fun hb => by cases hb) ?_
    · simp only [tVal, eBin, oOf, mrA_eq (ρ := [.ino b, .val (.int n), .val (sp p), .val d, .val K]) (i := 2) (j := 3) rfl rfl tm, oVar, List.getElem?_cons_zero, List.getElem?_cons_succ, bind_ok, still_none, if_true, ne_self hK2 (by decide)]
    · intro _
      have i4 : eBin dIx (oVar 4) (oOf (eCon (.int 0))) [.ino b, .val (.int n), .val (sp p), .val d, .val K] = .ok (.int 1, false) [.ino b, .val (.int n), .val (sp p), .val d, .val K] := by
        simp only [eBin, oOf, oVar, List.getElem?_cons_zero, List.getElem?_cons_succ, bind_ok, still_none, if_true, eCon, hK4]
      have e2 : eBin dEq (oOf (eTold readD2 toldWord (eCall multiply_S [.val (eVar 3), .val (eVar 2)]))) (oOf (eTup [(eCon (.int 1)), (eCon (.str "state"))])) [.ino b, .val (.int n), .val (sp p), .val d, .val K] = .ok (.bool true, false) [.ino b, .val (.int n), .val (sp p), .val d, .val K] := by
        simp only [eBin, oOf, mrA_eq (ρ := [.ino b, .val (.int n), .val (sp p), .val d, .val K]) (i := 3) (j := 2) rfl rfl tm2, eTup, eList, eCon, bind_ok, still_none, if_true, hK3]
      refine ssat_ret (Sat.bind (Sat.of (eq0_eq i4) ?_))
      exact Sat.of e2 (h _)
end Ow

namespace Ow
open PySem PyProof.Rows PySem.Spec L2
/-! ### the draws of _law_multiply_right -/
theorem sat_if0 {r : AE} {d : D} {m : Int} {P : Bool → AE → Prop} (hb : Bx d) (h0 : 0 < m) (h1 : m < 2 ^ 30) (h : ∀ b d', Bx d' → P b (.ino d' :: r)) : Sat (tVal (eBin dEq (oOf (eCall _law_draw_S [.ref 0, .val (eCon (.int m))])) (oOf (eCon (.int 0)))) (.ino d :: r)) P :=
  sat_tval (sat_bin (sat_oOf (sat_draw0 (m := m) (fl := false) hb rfl h0 h1 fun k d' _ _ hd => sat_oOf (Sat.of (a := (.int 0, false)) (ρ' := .ino d' :: r) rfl ⟨rfl, (.bool (decide (k = 0)), false), dEq_ii _ _, _, rfl, h _ d' hd⟩))))
def mrK : List EvE := [(eTup [(eBin dIx (oVar 3) (oOf (eCon (.int 0)))), (eBin dIx (oVar 3) (oOf (eCon (.int 1)))), (eCon (.int 0))]), (eTup [(eCon (.int 2)), (eBin dIx (oVar 3) (oOf (eCon (.int 1))))]), (eTup [(eCon (.int 0)), (eBin dMul (oOf (eTup [(eCon (.int 4))])) (oVar 1))]), (eBin dIx (oVar 3) (oOf (eCon (.int 1)))), (eCon (.int 3)), (eCon .none), (eTup [(eCon (.int 0)), (eTup [])]), (eTup [(eCon (.str "1")), (eBin dIx (oVar 3) (oOf (eCon (.int 1))))]), (eTup [(eCon (.int 0)), (eBin dMul (oOf (eTup [(eCon (.int 1))])) (oOf (eCon (.int 5))))])]
theorem at_tup3 {k : Nat} {f g h : EvE} {ρ : AE} (q1 : AD k f ρ) (q2 : AD k g ρ) (q3 : AD k h ρ) : AT k 3 (eTup [f, g, h]) ρ := by
  obtain ⟨d, e, h1⟩ := q1
  obtain ⟨d2, e2, h2⟩ := q2
  obtain ⟨d3, e3, h3⟩ := q3
  exact ⟨[d, d2, d3], by simp only [eTup, eList, e, e2, e3, bind_ok], by simp, fun x hx => by
    simp only [List.mem_cons, List.not_mem_nil, or_false] at hx
    rcases hx with rfl | rfl | rfl
    · exact h1
    · exact h2
    · exact h3⟩
theorem tame_wd1 (w : Wd) : tame 1 (wd w) = true := by
  show (wl w).all (tame 0) = true
  rw [List.all_eq_true]
  intro d hd
  unfold wl at hd
  obtain ⟨a, _, rfl⟩ := List.mem_map.mp hd
  rfl
theorem mrK_ok {n : Nat} {q : SW} {ρ : AE} (hn : n ≤ 4) (h1 : ρ[1]? = some (.val (.int n))) (h3 : ρ[3]? = some (.val (sp q))) : ∀ f ∈ mrK, AD 4 f ρ := by
  have a0 : AD 1 (eBin dIx (oVar 3) (oOf (eCon (.int 0)))) ρ := ⟨.int q.1, ix0_eq h3, rfl⟩
  have a1 : AD 1 (eBin dIx (oVar 3) (oOf (eCon (.int 1)))) ρ := ⟨wd q.2, ix1_eq h3, tame_wd1 _⟩
  have g1 : oVar 1 ρ = .ok (.int n, none) ρ := by simp only [oVar, h1]
  have g5 : oOf (eCon (.int 5)) ρ = .ok (.int 5, none) ρ := rfl
  intro f hf
  unfold mrK at hf
  simp only [List.mem_cons, List.not_mem_nil, or_false] at hf
  rcases hf with rfl | rfl | rfl | rfl | rfl | rfl | rfl | rfl | rfl
  · exact (at_tup3 a0 a1 (ad_con rfl)).ad.up.up
  · exact (at_tup2 (k := 1) (ad_con rfl) a1).ad.up.up
  · exact (at_tup2 (k := 1) (ad_con rfl) (at_zeros rfl g1 (by omega) (by omega)).ad).ad.up.up
  · exact a1.up.up.up
  · exact ad_con rfl
  · exact ad_con rfl
  · exact (at_tup2 (k := 1) (ad_con rfl) (at_tup0 (k := 0)).ad).ad.up.up
  · exact (at_tup2 (k := 1) (ad_con rfl) a1).ad.up.up
  · exact (at_tup2 (k := 1) (ad_con rfl) (at_zeros rfl g5 (by omega) (by omega)).ad).ad.up.up
def mrI : StF := (sIf (tVal (eBin dEq (oOf (eCall _law_draw_S [.ref 0, .val (eCon (.int 6))])) (oOf (eCon (.int 0))))) (sAsg 3 (eBin dIx (oOf (eLst mrK)) (oOf (eCall _law_draw_S [.ref 0, .val (eCon (.int 9))])))) sNx)
theorem mrI_ok {bx : D} {n : Nat} {p q : SW} {w : Wp} (hb : Bx bx) (hn : n ≤ 4) (h : ∀ d b', Tm d → Bx b' → w.nx [.ino b', .val (.int n), .val (sp p), .val d, .non]) : SSat (mrI [.ino bx, .val (.int n), .val (sp p), .val (sp q), .non]) w := by
  unfold mrI
  refine ssat_if (sat_if0 hb (by decide) (by decide) fun b b1 hb1 => ?_)
  cases b with
  | false => exact nx_in (h _ _ tm_sp hb1)
  | true =>
    show SSat (sAsg 3 _ [.ino b1, .val (.int n), .val (sp p), .val (sp q), .non]) _
    obtain ⟨ds, e, l, hds⟩ := le_lst (mrK_ok (q := q) (ρ := [.ino b1, .val (.int n), .val (sp p), .val (sp q), .non]) hn rfl rfl)
    have l : ds.length = 9 := l
    refine ssat_asg (sat_bin (sat_oOf (Sat.of e (sat_oOf (sat_draw0 (m := 9) (fl := false) hb1 rfl (by decide) (by decide) fun j b3 hj0 hj hb3 => ?_)))))
    obtain ⟨x, e, hx⟩ := atI_lt hj0 (l := ds) (by omega)
    refine ⟨rfl, (x, false), ?_, rfl, h x b3 (hds x hx) hb3⟩
    show (atI ds j).map _ = _
    rw [e] <;> rfl
def mrS : StF := (sAsgT (.tup [(.name 2), (.name 3)]) (eTup [(eCall _law_signed_S [.ref 0, .val (eVar 1)]), (eCall _law_signed_S [.ref 0, .val (eIte (tVal (eBin dEq (oOf (eCall _law_draw_S [.ref 0, .val (eCon (.int 6))])) (oOf (eCon (.int 0))))) (eBin dAdd (oOf (eCon (.int 1))) (oOf (eCall _law_draw_S [.ref 0, .val (eCon (.int 4))]))) (eVar 1))])]))
theorem sat_sgn0 {r : AE} {d : D} {f : EvE} {P : D × Bool → AE → Prop} (hb : Bx d) (hf : Sat (f (.ino d :: r)) fun p ρ1 => ∃ (m : Nat) (d' : D), p.1 = .int m ∧ 1 ≤ m ∧ m ≤ 4 ∧ Bx d' ∧ ρ1 = .ino d' :: r)
    (h : ∀ (m : Nat) (q : SW) (d' : D), q.2.length = m → (q.1 = 0 ∨ q.1 = 1) → Bx d' → P (sp q, false) (.ino d' :: r)) : Sat (eCall _law_signed_S [.ref 0, .val f] (.ino d :: r)) P := by
  refine sat_call2 rfl (hf.imp ?_)
  rintro ⟨p, fl⟩ ρ1 ⟨m, d', rfl, h1, h2, hb, rfl⟩
  refine ⟨.ino d', d', rfl, rfl, (signed_sem hb h1 h2).imp (fun r fl outs q => ?_) fun _ h => h⟩
  obtain ⟨q, rfl, rfl, ql, qs, b', hb', rfl⟩ := q
  exact h m q b' ql qs hb'
theorem mrS_ok {bx : D} {n : Nat} {w : Wp} (hb : Bx bx) (h0 : 1 ≤ n) (hn : n ≤ 4) (h : ∀ (p q : SW) (b' : D), p.2.length = n → (p.1 = 0 ∨ p.1 = 1) → Bx b' → w.nx [.ino b', .val (.int n), .val (sp p), .val (sp q), .non]) : SSat (mrS [.ino bx, .val (.int n), .non, .non, .non]) w := by
  unfold mrS
  have first : ∀ P : D × Bool → AE → Prop, (∀ (q : SW) (d' : D), q.2.length = n → (q.1 = 0 ∨ q.1 = 1) → Bx d' → P (sp q, false) [.ino d', .val (.int n), .non, .non, .non]) → Sat (eCall _law_signed_S [.ref 0, .val (eVar 1)] [.ino bx, .val (.int n), .non, .non, .non]) P := fun P hP => by
    refine sat_call2 rfl (Sat.of (a := (.int n, false)) (ρ' := [.ino bx, .val (.int n), .non, .non, .non]) rfl ⟨.ino bx, bx, rfl, rfl, (signed_sem hb h0 hn).imp (fun r fl outs q => ?_) fun _ h => h⟩)
    obtain ⟨q, rfl, rfl, ql, qs, b', hb', rfl⟩ := q
    exact hP q b' ql qs hb'
  refine ssat_asgT (sat_tup (sat_el (first _ fun p b1 pl ps hb1 => sat_el (sat_sgn0 hb1 (sat_ite (sat_if0 hb1 (by decide) (by decide) fun b b2 hb2 => ?_)) fun m q b3 ql qs hb3 => sat_el_nil ⟨_, rfl, h p q b3 pl ps hb3⟩))))
  cases b with
  | false =>
    rw [if_neg (by decide)]
    exact Sat.of (a := (.int n, false)) (ρ' := [.ino b2, .val (.int n), .non, .non, .non]) rfl ⟨n, b2, rfl, h0, hn, hb2, rfl⟩
  | true =>
    rw [if_pos rfl]
    refine sat_bin (sat_oOf (Sat.of (a := (.int 1, false)) (ρ' := [.ino b2, .val (.int n), .non, .non, .non]) rfl (sat_oOf (sat_draw0 (m := 4) (fl := false) hb2 rfl (by decide) (by decide) fun j b3 hj0 hj hb3 => ?_))))
    refine ⟨rfl, (.int (1 + j), false), rfl, (1 + j).toNat, b3, ?_, by omega, by omega, hb3, rfl⟩
    show PyData.int (1 + j) = .int ((1 + j).toNat : Int)
    rw [Int.toNat_of_nonneg (by omega)]
theorem mr_split : _law_multiply_right_F = sSeq mrS (sSeq mrI mrEnd) := rfl
theorem mr_ok {bx : D} {n : Nat} (hb : Bx bx) (h0 : 1 ≤ n) (hn : n ≤ 4) : FSat (_law_multiply_right_S [bx, .int n]) (fun r fl outs => r = .bool true ∧ fl = false ∧ ∃ b', Bx b' ∧ outs = [b', .none]) (fun _ => False) := by
  refine fsat_run rfl ?_
  show SSat (_law_multiply_right_F [.ino bx, .val (.int n), .non, .non, .non]) _
  rw [mr_split]
  refine ssat_seq (mrS_ok hb h0 hn fun p q b1 pl ps hb1 => nx_in ?_)
  refine ssat_seq (mrI_ok hb1 hn fun d b2 hd hb2 => nx_in ?_)
  exact mrEnd_ok h0 hn pl ps hd fun e => ⟨rfl, rfl, rfl, b2, hb2, rfl⟩
end Ow

namespace Ow
open PySem PyProof.Rows PySem.Spec L2
/-! ### what can be shown -/
theorem join_le : ∀ ts : List Str, (Str.join ", " ts).length ≤ (ts.map Str.length).sum + 2 * ts.length
  | [] => by show (Str.empty).length ≤ _; exact Nat.zero_le _
  | [x] => by show x.length ≤ _; simp
  | x :: y :: r => by
    have ih := join_le (y :: r)
    have e : Str.join ", " (x :: y :: r) = x ++ ", " ++ Str.join ", " (y :: r) := rfl
    have e2 : ((", " : String) : Str).length = 2 := rfl
    rw [e, strLen_append, strLen_append, e2]
    simp only [List.map_cons, List.sum_cons, List.length_cons] at ih ⊢
    omega
theorem tupleText_le (ts : List Str) : (tupleText ts).length ≤ (ts.map Str.length).sum + 2 * ts.length + 3 := by
  unfold tupleText
  have j := join_le ts
  have e1 : (("(" : String) : Str).length = 1 := rfl
  have e3 : ((if ts.length == 1 then ",)" else ")" : String) : Str).length ≤ 2 := by split <;> decide
  rw [strLen_append, strLen_append, e1]
  omega
/-- what can be shown, in so many signs -/
def OkR (k : Nat) (B : Nat) (d : D) : Prop := d.plain = true ∧ d.hasDict = false ∧ d.showable = true ∧ d.depth ≤ k ∧ d.shown.length ≤ B
theorem okR_leaf {d : D} (h : Leaf d) : OkR 0 10 d := by
  cases d with
  | none => exact ⟨by simp [PyData.plain], by simp [PyData.hasDict], by simp [PyData.showable], by simp [PyData.depth], by simp only [PyData.shown]; decide⟩
  | int i =>
    have h1 : i.natAbs < 10 ^ 8 := by have := h.1; have := h.2; omega
    have h2 : i.natAbs.log2 < 1920 := by
      rcases Nat.eq_zero_or_pos i.natAbs with h0 | h0
      · rw [h0]; decide
      · rw [Nat.log2_lt (by omega)]
        calc i.natAbs < 2 ^ 27 := by omega
          _ ≤ 2 ^ 1920 := Nat.pow_le_pow_right (by decide) (by decide)
    refine ⟨by simp [PyData.plain], by simp [PyData.hasDict], by simp only [PyData.showable]; exact decide_eq_true h2, by simp [PyData.depth], ?_⟩
    simp only [PyData.shown]
    have := int_text_length_le10 (k := 8) (by decide) h1
    show (Str.ofString (toString i)).length ≤ 10
    rw [PySem.ofString_length]
    omega
  | str x =>
    rcases h with rfl | rfl | rfl | rfl <;> exact ⟨by simp [PyData.plain], by simp [PyData.hasDict], by simp [PyData.showable], by simp [PyData.depth], by simp only [PyData.shown]; decide +kernel⟩
  | _ => exact h.elim
theorem okR_all {k B : Nat} : ∀ {ds : List D}, (∀ d ∈ ds, OkR k B d) → PyData.plainAll ds = true ∧ PyData.hasDictAll ds = false ∧ PyData.showableAll ds = true ∧ PyData.depthAll ds ≤ k ∧ ((PyData.shownAll ds).map Str.length).sum ≤ ds.length * B ∧ (PyData.shownAll ds).length = ds.length
  | [], _ => ⟨by simp [PyData.plainAll], by simp [PyData.hasDictAll], by simp [PyData.showableAll], by simp [PyData.depthAll], by simp [PyData.shownAll], by simp [PyData.shownAll]⟩
  | d :: ds, h => by
    obtain ⟨a1, a2, a3, a4, a5⟩ := h d (by simp)
    obtain ⟨b1, b2, b3, b4, b5, b6⟩ := okR_all fun d hd => h d (List.mem_cons_of_mem _ hd)
    refine ⟨by simp [PyData.plainAll, a1, b1], by simp [PyData.hasDictAll, a2, b2], by simp [PyData.showableAll, a3, b3], by simp only [PyData.depthAll]; omega, ?_, by simp [PyData.shownAll, b6]⟩
    simp only [PyData.shownAll, List.map_cons, List.sum_cons, List.length_cons, Nat.succ_mul]
    omega
theorem okR_tuple {k B n : Nat} {ds : List D} (hn : ds.length ≤ n) (h : ∀ d ∈ ds, OkR k B d) : OkR (k + 1) (n * (B + 2) + 3) (.tuple ds) := by
  obtain ⟨b1, b2, b3, b4, b5, b6⟩ := okR_all h
  refine ⟨by simp [PyData.plain, b1], by simp [PyData.hasDict, b2], by simp [PyData.showable, b3], by simp only [PyData.depth]; omega, ?_⟩
  simp only [PyData.shown]
  have t := tupleText_le (PyData.shownAll ds)
  have m1 : ds.length * B ≤ n * B := Nat.mul_le_mul_right _ hn
  rw [b6] at t
  rw [Nat.mul_add]
  omega
theorem OkR.imp {k k' B B' : Nat} {d : D} (h : OkR k B d) (hk : k ≤ k') (hB : B ≤ B') : OkR k' B' d := ⟨h.1, h.2.1, h.2.2.1, Nat.le_trans h.2.2.2.1 hk, Nat.le_trans h.2.2.2.2 hB⟩
theorem okR_wd {u : Wd} (h : u.length ≤ 4) : OkR 1 51 (wd u) := okR_tuple (n := 4) (B := 10) (by unfold wl; rw [List.length_map]; exact h) fun d hd => by
  unfold wl at hd
  obtain ⟨a, _, rfl⟩ := List.mem_map.mp hd
  have := a.isLt
  exact okR_leaf (show Leaf (.int (a.val : Int)) from ⟨by omega, by omega⟩)
theorem okR_sp {p : SW} (h : p.2.length ≤ 4) (hs : p.1 = 0 ∨ p.1 = 1) : OkR 2 109 (sp p) := okR_tuple (k := 1) (n := 2) (B := 51) (Nat.le_refl 2) fun d hd => by
  simp only [List.mem_cons, List.not_mem_nil, or_false] at hd
  rcases hd with rfl | rfl
  · refine (okR_leaf (show Leaf (.int p.1) from ?_)).imp (by decide) (by decide)
    exact ⟨by omega, by omega⟩
  · exact okR_wd h
theorem repr_st {st : List SW} (l : st.length ≤ 4) (h : ∀ p ∈ st, p.2.length ≤ 4 ∧ (p.1 = 0 ∨ p.1 = 1)) : ∃ x, dRepr [.tuple (st.map sp)] = some (.str x, false) := by
  obtain ⟨a1, a2, a3, a4, a5⟩ := okR_tuple (k := 2) (n := 4) (B := 109) (ds := st.map sp) (by rw [List.length_map]; exact l) fun d hd => by
    obtain ⟨p, hp, rfl⟩ := List.mem_map.mp hd
    exact okR_sp (h p hp).1 (h p hp).2
  have hs : 4 * (109 + 2) + 3 ≤ sizeLine := by decide
  refine ⟨PyData.shown (.tuple (st.map sp)), if_pos ?_⟩
  simp only [noDicts, a1, a2, a3, Bool.not_false, Bool.and_self, Bool.true_and, Bool.and_eq_true, decide_eq_true_eq]
  exact ⟨by omega, by omega⟩
/-! ### the keys of what is held -/
theorem keys_putK {kvs : List (D × D)} {k v : D} : ∀ d ∈ (putK kvs k v).map (·.1), d ∈ kvs.map (·.1) ∨ d = k := by
  intro d hd
  unfold putK at hd
  split at hd
  · rw [List.map_map] at hd
    obtain ⟨p, hp, e⟩ := List.mem_map.mp hd
    left
    refine List.mem_map.mpr ⟨p, hp, ?_⟩
    rw [← e]
    simp only [Function.comp]
    split <;> rfl
  · rw [List.map_append, List.mem_append] at hd
    rcases hd with hd | hd
    · exact .inl hd
    · simp at hd
      exact .inr hd
theorem keys_putAll {d : D} : ∀ {ps kvs : List (D × D)}, d ∈ (putAll kvs ps).map (·.1) → d ∈ kvs.map (·.1) ∨ d ∈ ps.map (·.1)
  | [], kvs, h => .inl h
  | p :: ps, kvs, h => by
    have h : d ∈ (putAll (putK kvs p.1 p.2) ps).map (·.1) := h
    rcases keys_putAll h with h | h
    · rcases keys_putK d h with h | h
      · exact .inl h
      · exact .inr (by rw [h]; simp)
    · exact .inr (List.mem_cons_of_mem _ h)
theorem len_putK {kvs : List (D × D)} {k v : D} : (putK kvs k v).length ≤ kvs.length + 1 := by
  unfold putK
  split
  · rw [List.length_map]; omega
  · rw [List.length_append]; simp
theorem len_putAll : ∀ {ps kvs : List (D × D)}, (putAll kvs ps).length ≤ kvs.length + ps.length
  | [], kvs => by simp [putAll]
  | p :: ps, kvs => by
    have h := len_putAll (ps := ps) (kvs := putK kvs p.1 p.2)
    have h2 := len_putK (kvs := kvs) (k := p.1) (v := p.2)
    show (putAll (putK kvs p.1 p.2) ps).length ≤ _
    rw [List.length_cons]
    omega
theorem held_keys {n : Nat} {st : List SW} (h : ∀ p ∈ st, p.2.length = n) : ∀ d ∈ (heldK n st).map (·.1), ∃ u : Wd, d = wd u ∧ u.length = n := by
  intro d hd
  unfold heldK at hd
  rcases keys_putAll hd with hd | hd
  · cases hd
  · rw [List.map_map] at hd
    obtain ⟨p, hp, rfl⟩ := List.mem_map.mp hd
    refine ⟨p.2, rfl, ?_⟩
    have : p.2 ∈ span n (st.map (·.2)) := by
      rw [← prods_span]
      exact List.mem_map_of_mem hp
    exact span_len (fun w hw => by
      obtain ⟨q, hq, rfl⟩ := List.mem_map.mp hw
      exact h q hq) _ this
theorem held_len {n : Nat} {st : List SW} (h : st.length ≤ 4) : (heldK n st).length ≤ 16 := by
  have h1 := len_putAll (ps := (prodsL n st).map kv) (kvs := [])
  have h2 : (prodsL n st).length = 2 ^ st.length := by
    have e := congrArg List.length (prods_span (n := n) (st := st))
    rw [List.length_map] at e
    rw [e]
    unfold span
    rw [span_count, List.length_map] <;> simp
  have h3 : 2 ^ st.length ≤ 2 ^ 4 := Nat.pow_le_pow_right (by decide) h
  rw [List.length_map, h2] at h1
  unfold heldK
  simp only [List.length_nil] at h1
  omega
theorem wd_enc (u : Wd) : wd u = encT (u.map fun a => (a.val : Int)) := by
  show PyData.tuple (u.map _) = PyData.tuple ((u.map _).map _)
  rw [List.map_map] <;> rfl
theorem okS_words {ds : List D} {n : Nat} (h0 : 1 ≤ n) (hn : n ≤ 4) (h : ∀ d ∈ ds, ∃ u : Wd, d = wd u ∧ u.length = n) : okS ds = true := by
  have ok : ∀ d ∈ ds, OkR 1 51 d := fun d hd => by
    obtain ⟨u, rfl, hu⟩ := h d hd
    exact okR_wd (by omega)
  obtain ⟨b1, b2, b3, b4, b5, b6⟩ := okR_all ok
  unfold okS
  have c1 : (ds.all fun a => ds.all fun b => PySem.W.alike a b) = true := by
    rw [List.all_eq_true]
    intro a ha
    rw [List.all_eq_true]
    intro b hb
    obtain ⟨u, rfl, _⟩ := h a ha
    obtain ⟨v, rfl, _⟩ := h b hb
    rw [wd_enc, wd_enc]
    exact alike_tups [u.map fun a => (a.val : Int), v.map fun a => (a.val : Int)] _ (by simp) _ (by simp)
  have c2 : ds.all tup1 = true := by
    rw [List.all_eq_true]
    intro a ha
    obtain ⟨u, rfl, hu⟩ := h a ha
    cases u with
    | nil => simp at hu; omega
    | cons x u => rfl
  rw [b1, c1, c2, decide_eq_true (by omega)]
  rfl
theorem sorted_held {n : Nat} {st : List SW} (h0 : 1 ≤ n) (hn : n ≤ 4) (hl : st.length ≤ 4) (h : ∀ p ∈ st, p.2.length = n) : ∃ L : List D, dSorted2 [.dict (heldK n st)] = some (.list L, true) ∧ L.length ≤ 16 ∧ ∀ d ∈ L, ∃ u : Wd, d = wd u ∧ u.length = n := by
  have hk := held_keys h
  have e : dSorted2 [.dict (heldK n st)] = some (.list (sortD ((heldK n st).map (·.1))), true) := by
    have a1 : (heldK n st).all (fun p => keyT p.1) = true := by
      rw [List.all_eq_true]
      intro p hp
      obtain ⟨u, e, _⟩ := hk p.1 (List.mem_map_of_mem hp)
      rw [e]
      exact keyT_wd _
    have := held_len (n := n) hl
    show (if _ then _ else _) = _
    rw [if_pos (by rw [a1, okS_words h0 hn hk, decide_eq_true (by omega)] <;> rfl)]
  refine ⟨_, e, ?_, fun d hd => hk d ?_⟩
  · unfold sortD
    rw [List.length_mergeSort, List.length_map]
    exact held_len hl
  · unfold sortD at hd
    exact List.mem_mergeSort.mp hd
end Ow

namespace Ow
open PySem PyProof.Rows PySem.Spec L2
/-! ### the law, piece by piece: what is drawn -/
abbrev NI (s : Slot) : Prop := isNoIno (some s) = true
theorem bind_ni {i : Nat} {d : D} {ρ : AE} {s : Slot} (h : ρ[i]? = some s) (hs : NI s) : bindT (.name i) d ρ = some (ρ.set i (.val d)) := by
  unfold bindT
  rw [h]
  cases s <;> first | rfl | cases hs
theorem bx_mut {d : D} (h : Bx d) : isMut d = true := by
  obtain ⟨a, b, _, _, rfl⟩ := h
  rfl
theorem sat_stream {ns : List Int} {k : Int} {r : AE} {P : D × Bool → AE → Prop} (hk : 0 ≤ k) (h : ∀ d, Bx d → P (d, true) (.val (.list (ns.map PyData.int)) :: .val (.int k) :: r)) : Sat (eCall _law_stream_S [.val (eVar 0), .val (eVar 1)] (.val (.list (ns.map PyData.int)) :: .val (.int k) :: r)) P := by
  refine sat_callV (Sat.of (a := [(.list (ns.map PyData.int), none), (.int k, none)]) (ρ' := .val (.list (ns.map PyData.int)) :: .val (.int k) :: r) rfl ⟨by simp, ?_⟩)
  refine (stream_ok (ns := ns) hk).imp (fun r fl outs q => ?_) fun _ h => h
  obtain ⟨h1, rfl⟩ := q
  exact h r h1
theorem sat_draw2 {f : EvE} {s0 s1 : Slot} {r : AE} {d : D} {m : Int} {fl : Bool} {P : D × Bool → AE → Prop} (hb : Bx d) (hf : f (s0 :: s1 :: .own d :: r) = .ok (.int m, fl) (s0 :: s1 :: .own d :: r)) (h0 : 0 < m) (h1 : m < 2 ^ 30)
    (h : ∀ (n : Int) (d' : D), 0 ≤ n → n < m → Bx d' → P (.int n, false) (s0 :: s1 :: .own d' :: r)) : Sat (eCall _law_draw_S [.ref 2, .val f] (s0 :: s1 :: .own d :: r)) P :=
  sat_draw hf rfl rfl hb h0 h1 h
/-- a call that draws from the box in the third slot -/
theorem sat_ref2 {sem : Fun} {i : Nat} {s0 s1 : Slot} {r : AE} {d a : D} {P : D × Bool → AE → Prop} (ha : (s0 :: s1 :: .own d :: r)[i]? = some (.val a))
    (h : FSat (sem [d, a]) (fun x fl outs => P (x, fl) (s0 :: s1 :: .own (outs.getD 0 .none) :: r)) fun _ => False) : Sat (eCall sem [.ref 2, .val (eVar i)] (s0 :: s1 :: .own d :: r)) P := by
  refine sat_call2 rfl (Sat.of (a := (a, false)) (ρ' := s0 :: s1 :: .own d :: r) ?_ ⟨.own d, d, rfl, rfl, h.imp (fun x fl outs q => q) fun _ h => h⟩)
  simp only [eVar, ha]
def lA1 : StF := (sAsg 2 (eCall _law_stream_S [.val (eVar 0), .val (eVar 1)]))
def lA2 : StF := (sAsg 3 (eBin dAdd (oOf (eCon (.int 1))) (oOf (eCall _law_draw_S [.ref 2, .val (eCon (.int 4))]))))
def lA3 : StF := (sAsg 4 (eCall _law_state_S [.ref 2, .val (eVar 3)]))
def lA4 : StF := (sAsg 5 (eOps dRepr [(oVar 4)]))
def lA5 : StF := (sAsg 6 (eCall _law_other_state_S [.ref 2, .val (eVar 4)]))
theorem soFar_le {n : Nat} {st : List SW} (hn : n ≤ 4) (hs : soFar n st) : ∀ p ∈ st, p.2.length ≤ 4 ∧ (p.1 = 0 ∨ p.1 = 1) := fun p hp => ⟨by rw [(hs.1 p hp).1]; exact hn, (hs.1 p hp).2⟩
theorem lA_ok {ns : List Int} {k : Nat} {s2 s3 s4 s5 s6 : Slot} {r : AE} {w : Wp} {g : StF} (h2 : NI s2) (h3 : NI s3) (h4 : NI s4) (h5 : NI s5) (h6 : NI s6)
    (h : ∀ (n : Nat) (st : List SW) (x : Str) (o b : D), 1 ≤ n → n ≤ 4 → st.length = n → soFar n st → dRepr [.tuple (st.map sp)] = some (.str x, false) → Tm o → Bx b →
      SSat (g (.val (.list (ns.map PyData.int)) :: .val (.int k) :: .own b :: .val (.int n) :: .val (.tuple (st.map sp)) :: .val (.str x) :: .val o :: r)) w) :
    SSat (sSeq lA1 (sSeq lA2 (sSeq lA3 (sSeq lA4 (sSeq lA5 g)))) (.val (.list (ns.map PyData.int)) :: .val (.int k) :: s2 :: s3 :: s4 :: s5 :: s6 :: r)) w := by
  unfold lA1 lA2 lA3 lA4 lA5
  refine ssat_seq (ssat_asg (sat_stream (by omega) fun b hb => ⟨h2, ?_⟩))
  simp only [slotOf, bx_mut hb, Bool.and_self, if_true, List.set_cons_succ, List.set_cons_zero]
  refine nx_in ?_
  refine ssat_seq (ssat_asg (sat_bin (sat_oOf (Sat.of (a := (.int 1, false)) (ρ' := .val (.list (ns.map PyData.int)) :: .val (.int k) :: .own b :: s3 :: s4 :: s5 :: s6 :: r) rfl (sat_oOf (sat_draw2 (m := 4) (fl := false) hb rfl (by decide) (by decide) fun j b1 hj0 hj hb1 => ?_))))))
  refine ⟨rfl, (.int (1 + j), false), rfl, h3, nx_in ?_⟩
  obtain ⟨n, en⟩ : ∃ n : Nat, (1 : Int) + j = n := ⟨(1 + j).toNat, by omega⟩
  rw [en]
  have n0 : 1 ≤ n := by omega
  have n4 : n ≤ 4 := by omega
  show SSat (sSeq _ _ (.val (.list (ns.map PyData.int)) :: .val (.int k) :: .own b1 :: .val (.int n) :: s4 :: s5 :: s6 :: r)) _
  refine ssat_seq (ssat_asg (sat_ref2 (i := 3) (a := .int n) rfl ((state_sem hb1 n0 n4).imp (fun x fl outs q => ?_) fun _ h => h)))
  obtain ⟨st, rfl, rfl, hl, hs, b2, hb2, rfl⟩ := q
  refine ⟨h4, nx_in ?_⟩
  show SSat (sSeq _ _ (.val (.list (ns.map PyData.int)) :: .val (.int k) :: .own b2 :: .val (.int n) :: .val (.tuple (st.map sp)) :: s5 :: s6 :: r)) _
  obtain ⟨x, hx⟩ := repr_st (by omega) (soFar_le n4 hs)
  have rp : eOps dRepr [(oVar 4)] (.val (.list (ns.map PyData.int)) :: .val (.int k) :: .own b2 :: .val (.int n) :: .val (.tuple (st.map sp)) :: s5 :: s6 :: r) = .ok (.str x, false) (.val (.list (ns.map PyData.int)) :: .val (.int k) :: .own b2 :: .val (.int n) :: .val (.tuple (st.map sp)) :: s5 :: s6 :: r) := by
    simp only [eOps, oList, oVar, List.getElem?_cons_zero, List.getElem?_cons_succ, bind_ok, stills, still_none, Bool.and_self, if_true, List.map_cons, List.map_nil, hx]
  refine ssat_seq (ssat_asg (Sat.of rp ⟨h5, nx_in ?_⟩))
  show SSat (sSeq _ _ (.val (.list (ns.map PyData.int)) :: .val (.int k) :: .own b2 :: .val (.int n) :: .val (.tuple (st.map sp)) :: .val (.str x) :: s6 :: r)) _
  refine ssat_seq (ssat_asg (sat_ref2 (i := 4) (a := .tuple (st.map sp)) rfl ((other_sem hb2 hl n0 n4 fun p hp => (hs.1 p hp).1).imp (fun o fl outs q => ?_) fun _ h => h)))
  obtain ⟨ho, rfl, b3, hb3, rfl⟩ := q
  refine ⟨h6, nx_in ?_⟩
  exact h n st x o b3 n0 n4 hl hs hx ho hb3
/-! ### what is checked -/
def lC : StF := (sFor [0, 1, 2, 3, 4, 5, 6, 7, 8, 9, 10, 12, 13] (iSeq (oOf (eLst [(eVar 4), (eVar 6)]))) (.name 7) (sIf (tVal (eBin dNe (oOf (eTold readD2 toldWord (eCall check_state_S [.val (eVar 7)]))) (oOf (eIte (tVal (eCall _law_is_state_S [.val (eVar 7)])) (eTup [(eCon (.int 0)), (eCon .none)]) (eTup [(eCon (.int 1)), (eCon (.str "state"))]))))) (sRet (eCon (.bool false))) sNx))
theorem due_tame (d : D) : tame 2 (dueC d) = true := by
  unfold dueC
  cases stB d <;> rfl
theorem due_eq {ρ : AE} {i : Nat} {d : D} (hi : ρ[i]? = some (.val d)) (hd : Tm d) : eIte (tVal (eCall _law_is_state_S [.val (eVar i)])) (eTup [(eCon (.int 0)), (eCon .none)]) (eTup [(eCon (.int 1)), (eCon (.str "state"))]) ρ = .ok (dueC d, false) ρ := by
  have c := call1_eq (sem := _law_is_state_S) (f := eVar i) (ρ := ρ) (p := (d, false)) (by simp only [eVar, hi]) (lisstate_sem hd)
  simp only [eIte, tVal, c, bind_ok]
  unfold dueC
  cases stB d <;> rfl
theorem told1_eq {sem : Fun} {ρ : AE} {i : Nat} {a x : D} (hi : ρ[i]? = some (.val a)) (hx : tellR (sem [a]) = some x) : eTold readD2 toldWord (eCall sem [.val (eVar i)]) ρ = .ok (x, false) ρ := by
  refine told_any (ps := [(a, none)]) ?_ (by simp) hx
  simp only [evArgs, eVar, mask_val hi, bind_ok]
theorem told2_eq {sem : Fun} {ρ : AE} {i j : Nat} {a b x : D} (hi : ρ[i]? = some (.val a)) (hj : ρ[j]? = some (.val b)) (hx : tellR (sem [a, b]) = some x) : eTold readD2 toldWord (eCall sem [.val (eVar i), .val (eVar j)]) ρ = .ok (x, false) ρ := by
  refine told_any (ps := [(a, none), (b, none)]) ?_ (by simp) hx
  simp only [evArgs, eVar, mask_val hi, mask_val hj, bind_ok]
theorem ne_same {ρ : AE} {f g : EvE} {x : D} {k : Nat} (hf : f ρ = .ok (x, false) ρ) (hg : g ρ = .ok (x, false) ρ) (hx : tame k x = true) (hk : k ≤ 60) : tVal (eBin dNe (oOf f) (oOf g)) ρ = .ok false ρ := by
  simp only [tVal, eBin, oOf, hf, hg, bind_ok, still_none, if_true, ne_self hx hk]
theorem nif_ok {t : EvT} {ρ : AE} {w : Wp} {g : StF} (h : t ρ = .ok false ρ) (q : w.nx ρ) : SSat (sIf t g sNx ρ) w := by
  refine ssat_if ?_
  rw [h]
  exact q
theorem lC_ok {s0 s1 s2 s3 s5 s7 : Slot} {r : AE} {d o : D} {w : Wp} (h7 : NI s7) (hd : Tm d) (ho : Tm o) (h : ∀ e, w.nx (s0 :: s1 :: s2 :: s3 :: .val d :: s5 :: .val o :: .val e :: r)) : SSat (lC (s0 :: s1 :: s2 :: s3 :: .val d :: s5 :: .val o :: s7 :: r)) w := by
  unfold lC
  have i0 : iSeq (oOf (eLst [(eVar 4), (eVar 6)])) (s0 :: s1 :: s2 :: s3 :: .val d :: s5 :: .val o :: s7 :: r) = .ok ([d, o], [(.list [d, o], none)]) (s0 :: s1 :: s2 :: s3 :: .val d :: s5 :: .val o :: s7 :: r) := rfl
  refine ssat_forS (Sat.of i0 ⟨rfl, ?_⟩)
  have body : ∀ x, Tm x → ∀ W : Wp, W.nx (s0 :: s1 :: s2 :: s3 :: .val d :: s5 :: .val o :: .val x :: r) → SSat ((sIf (tVal (eBin dNe (oOf (eTold readD2 toldWord (eCall check_state_S [.val (eVar 7)]))) (oOf (eIte (tVal (eCall _law_is_state_S [.val (eVar 7)])) (eTup [(eCon (.int 0)), (eCon .none)]) (eTup [(eCon (.int 1)), (eCon (.str "state"))]))))) (sRet (eCon (.bool false))) sNx) (s0 :: s1 :: s2 :: s3 :: .val d :: s5 :: .val o :: .val x :: r)) W := fun x hx W q =>
    nif_ok (ne_same (told1_eq (i := 7) rfl (tell_check hx)) (due_eq (i := 7) rfl hx) (due_tame x) (by decide)) q
  refine ssat_for (fun ds ρ => (∀ x ∈ ds, Tm x) ∧ ((∃ e, NI e ∧ ρ = s0 :: s1 :: s2 :: s3 :: .val d :: s5 :: .val o :: e :: r ∧ (ds = [] → ∃ x, e = .val x)))) ?_ ?_ _ _ ⟨fun x hx => ?_, s7, h7, rfl, fun h => by cases h⟩
  · rintro x xs ρ ⟨hx, e, he, rfl, _⟩
    refine ⟨rfl, _, bind_ni (s := e) rfl he, ?_⟩
    exact body x (hx x (by simp)) _ ⟨fun y hy => hx y (List.mem_cons_of_mem _ hy), .val x, rfl, rfl, fun _ => ⟨x, rfl⟩⟩
  · rintro ρ ⟨_, e, he, rfl, q⟩
    obtain ⟨x, rfl⟩ := q rfl
    exact ⟨rfl, h x⟩
  · simp only [List.mem_cons, List.not_mem_nil, or_false] at hx
    rcases hx with rfl | rfl
    · exact hd
    · exact ho
end Ow

namespace Ow
open PySem PyProof.Rows PySem.Spec L2
/-! ### what is held, and some words -/
def Wds (n : Nat) (L : List D) : Prop := ∀ d ∈ L, ∃ u : Wd, d = wd u ∧ u.length = n
def pkE : EvE := (eBin dIx (oVar 9) (oOf (eCall _law_draw_S [.ref 2, .val (eOps dLen [(oVar 9)])])))
def lH1 : StF := (sAsg 8 (eCall _law_held_S [.val (eVar 3), .val (eVar 4)]))
def lH2 : StF := (sAsg 9 (eCall _law_words_S [.val (eVar 3)]))
def lH3 : StF := (sAsg 10 (eBin dAdd (oOf (eOps dSorted2 [(oVar 8)])) (oOf (eComp [11] (iRange1 (oOf (eCon (.int 8)))) (.name 11) tTrue pkE))))
theorem picks_ok {n : Nat} {s0 s1 s3 s4 s5 s6 s7 s8 s10 s12 s13 : Slot} {b : D} {P : D × Bool → AE → Prop} (hb : Bx b) (hn : n ≤ 4)
    (h : ∀ (L : List D) (b' : D), L.length = 8 → Wds n L → Bx b' → P (.list L, true) [s0, s1, .own b', s3, s4, s5, s6, s7, s8, .val (.list ((wordsL n).map wd)), s10, .non, s12, s13]) :
    Sat (eComp [11] (iRange1 (oOf (eCon (.int 8)))) (.name 11) tTrue pkE [s0, s1, .own b, s3, s4, s5, s6, s7, s8, .val (.list ((wordsL n).map wd)), s10, .non, s12, s13]) P := by
  refine sat_eComp (Sat.of (rng_int (n := 8) rfl (by decide)) ?_)
  refine sat_comp (fun ds ρ acc => ds.length + acc.length = 8 ∧ Wds n acc ∧ ∃ b', Bx b' ∧ ρ = [s0, s1, .own b', s3, s4, s5, s6, s7, s8, .val (.list ((wordsL n).map wd)), s10, .non, s12, s13]) ?_ ?_ _ _ _ ⟨by simp [rangeD], (fun _ h => by cases h), b, hb, rfl⟩
  · rintro x ds ρ acc ⟨hl, ha, b', hb', rfl⟩
    refine ⟨rfl, _, rfl, ?_⟩
    show Sat (pkE [s0, s1, .own b', s3, s4, s5, s6, s7, s8, .val (.list ((wordsL n).map wd)), s10, .val x, s12, s13]) _
    unfold pkE
    refine sat_bin (Sat.of (a := (.list ((wordsL n).map wd), none)) (ρ' := [s0, s1, .own b', s3, s4, s5, s6, s7, s8, .val (.list ((wordsL n).map wd)), s10, .val x, s12, s13]) rfl (sat_oOf (sat_draw2 (m := ((wordsL n).map wd).length) (fl := false) hb' rfl ?_ ?_ fun j b2 hj0 hj hb2 => ?_)))
    · have := words_pos (n := n)
      rw [List.length_map]; omega
    · have := pow_le hn
      rw [List.length_map, words_len]; omega
    · rw [List.length_map] at hj
      obtain ⟨u, hu, e⟩ := pick_at (f := wd) hj0 hj
      refine ⟨rfl, _, e, ?_, ?_, b2, hb2, rfl⟩
      · simp only [List.length_append, List.length_cons, List.length_nil] at hl ⊢
        omega
      · intro d hd
        rcases List.mem_append.mp hd with hd | hd
        · exact ha d hd
        · rw [List.mem_singleton] at hd
          exact ⟨u, hd, words_mem.mp hu⟩
  · rintro ρ acc ⟨hl, ha, b', hb', rfl⟩
    exact ⟨rfl, h acc b' (by simpa using hl) ha hb'⟩
theorem lH_ok {n : Nat} {st : List SW} {s0 s1 s5 s6 s7 s8 s9 s10 s12 s13 : Slot} {b : D} {w : Wp} {g : StF} (hb : Bx b) (h0 : 1 ≤ n) (hn : n ≤ 4) (hl : st.length = n) (hw : ∀ p ∈ st, p.2.length = n) (h8 : NI s8) (h9 : NI s9) (h10 : NI s10)
    (h : ∀ (L : List D) (b' : D), L ≠ [] → Wds n L → Bx b' → SSat (g [s0, s1, .own b', .val (.int n), .val (.tuple (st.map sp)), s5, s6, s7, .own (.dict (heldK n st)), .val (.list ((wordsL n).map wd)), .own (.list L), .non, s12, s13]) w) :
    SSat (sSeq lH1 (sSeq lH2 (sSeq lH3 g)) [s0, s1, .own b, .val (.int n), .val (.tuple (st.map sp)), s5, s6, s7, s8, s9, s10, .non, s12, s13]) w := by
  unfold lH1 lH2 lH3
  have c1 : eCall _law_held_S [.val (eVar 3), .val (eVar 4)] [s0, s1, .own b, .val (.int n), .val (.tuple (st.map sp)), s5, s6, s7, s8, s9, s10, .non, s12, s13] = .ok (.dict (heldK n st), true) [s0, s1, .own b, .val (.int n), .val (.tuple (st.map sp)), s5, s6, s7, s8, s9, s10, .non, s12, s13] :=
    call2_eq (p := (.int n, false)) (q := (.tuple (st.map sp), false)) rfl rfl (lheld_sem (by omega) (by omega))
  refine ssat_seq (ssat_asg (Sat.of c1 ⟨h8, nx_in ?_⟩))
  show SSat (sSeq _ _ [s0, s1, .own b, .val (.int n), .val (.tuple (st.map sp)), s5, s6, s7, .own (.dict (heldK n st)), s9, s10, .non, s12, s13]) _
  have c2 : eCall _law_words_S [.val (eVar 3)] [s0, s1, .own b, .val (.int n), .val (.tuple (st.map sp)), s5, s6, s7, .own (.dict (heldK n st)), s9, s10, .non, s12, s13] = .ok (.list ((wordsL n).map wd), false) [s0, s1, .own b, .val (.int n), .val (.tuple (st.map sp)), s5, s6, s7, .own (.dict (heldK n st)), s9, s10, .non, s12, s13] := call1_eq (p := (.int n, false)) rfl (words_sem h0 hn)
  refine ssat_seq (ssat_asg (Sat.of c2 ⟨h9, nx_in ?_⟩))
  show SSat (sSeq _ _ [s0, s1, .own b, .val (.int n), .val (.tuple (st.map sp)), s5, s6, s7, .own (.dict (heldK n st)), .val (.list ((wordsL n).map wd)), s10, .non, s12, s13]) _
  obtain ⟨K, hK, lK, wK⟩ := sorted_held (n := n) h0 hn (by omega) hw
  have c3 : eOps dSorted2 [(oVar 8)] [s0, s1, .own b, .val (.int n), .val (.tuple (st.map sp)), s5, s6, s7, .own (.dict (heldK n st)), .val (.list ((wordsL n).map wd)), s10, .non, s12, s13] = .ok (.list K, true) [s0, s1, .own b, .val (.int n), .val (.tuple (st.map sp)), s5, s6, s7, .own (.dict (heldK n st)), .val (.list ((wordsL n).map wd)), s10, .non, s12, s13] := by
    have t : stills [(PyData.dict (heldK n st), some 8)] [s0, s1, .own b, .val (.int n), .val (.tuple (st.map sp)), s5, s6, s7, .own (.dict (heldK n st)), .val (.list ((wordsL n).map wd)), s10, .non, s12, s13] = true := by simp [stills, still]
    simp only [eOps, oList, oVar, List.getElem?_cons_zero, List.getElem?_cons_succ, bind_ok, t, if_true, List.map_cons, List.map_nil, hK]
  refine ssat_seq (ssat_asg (sat_bin (sat_oOf (Sat.of c3 (sat_oOf (picks_ok hb hn fun L b' hL wL hb' => ?_))))))
  refine ⟨rfl, (.list (K ++ L), true), ?_, h10, nx_in ?_⟩
  · show (if K.length + L.length ≤ sizeLine then some (PyData.list (K ++ L), true) else none) = _
    rw [if_pos (by rw [sizeLine_eq]; omega)]
  · refine h (K ++ L) b' (fun e => ?_) (fun d hd => ?_) hb'
    · have := congrArg List.length e
      rw [List.length_append, hL] at this
      cases this
    · rcases List.mem_append.mp hd with hd | hd
      · exact wK d hd
      · exact wL d hd
/-! ### what is held is told -/
def lLb : StF := (sIf (tVal (eBin dNe (oOf (eTold readD2 toldWord (eCall holds_S [.val (eVar 4), .val (eVar 12)]))) (oOf (eTup [(eCon (.int 0)), (eGet (oVar 8) [(oVar 12)])])))) (sRet (eCon (.bool false))) sNx)
def lL : StF := (sFor [0, 1, 2, 3, 4, 5, 6, 7, 8, 9, 10, 12, 13] (iFrz 10 (iSeq (oVar 10))) (.name 12) lLb)
theorem get_eq {ρ : AE} {i j : Nat} {n : Nat} {st : List SW} {u : Wd} (hi : ρ[i]? = some (.own (.dict (heldK n st)))) (hj : ρ[j]? = some (.val (wd u))) : eGet (oVar i) [(oVar j)] ρ = .ok ((valK (heldK n st) (wd u)).getD .none, false) ρ := by
  have g : gGet (heldK n st) [wd u] = some ((valK (heldK n st) (wd u)).getD .none, false) := by
    show (if (dictOk (heldK n st) && keyT (wd u)) = true then _ else _) = _
    rw [if_pos (by rw [held_ok, keyT_wd] <;> rfl)]
  have t : still (some i) (.dict (heldK n st)) ρ = true := by simp [still, hi]
  simp only [eGet, oVar, hi, hj, bind_ok, oList, still_none, stills, t, Bool.and_self, if_true, List.map_cons, List.map_nil, g]
theorem st_good {n : Nat} {st : List SW} (h0 : 1 ≤ n) (hn : n ≤ 4) (hl : st.length = n) (hs : soFar n st) : shp st ∧ good st := by
  subst hl
  exact ⟨⟨h0, hn, hs.1⟩, hs.2.1, hs.2.2⟩
theorem tell_held {n : Nat} {st : List SW} {u : Wd} (h0 : 1 ≤ n) (hn : n ≤ 4) (hl : st.length = n) (hs : soFar n st) (hu : u.length = n) : tellR (holds_S [.tuple (st.map sp), wd u]) = some (okD ((valK (heldK n st) (wd u)).getD .none)) := by
  rcases tell_holds (d := .tuple (st.map sp)) (w := wd u) tm_sps tm_wd with ⟨st', e, _, q⟩ | ⟨hno, _⟩
  · rw [q, ← sps_inj (PyData.tuple.inj e), hl] <;> rfl
  · exact absurd ⟨st, u, rfl, (st_good h0 hn hl hs).1, (st_good h0 hn hl hs).2, rfl, by omega⟩ hno
theorem held_tame {n : Nat} {st : List SW} {d : D} : tame 3 (okD ((valK (heldK n st) d).getD .none)) = true := by
  rcases held_val (n := n) (st := st) (d := d) with h | ⟨i, h⟩ <;> rw [h] <;> rfl
theorem lLb_ok {n : Nat} {st : List SW} {u : Wd} {ρ : AE} {w : Wp} (h0 : 1 ≤ n) (hn : n ≤ 4) (hl : st.length = n) (hs : soFar n st) (hu : u.length = n) (h4 : ρ[4]? = some (.val (.tuple (st.map sp)))) (h8 : ρ[8]? = some (.own (.dict (heldK n st)))) (h12 : ρ[12]? = some (.val (wd u))) (q : w.nx ρ) : SSat (lLb ρ) w := by
  unfold lLb
  refine nif_ok (ne_same (told2_eq h4 h12 (tell_held h0 hn hl hs hu)) ?_ held_tame (by decide)) q
  simp only [eTup, eList, eCon, get_eq h8 h12, bind_ok, okD]
theorem lL_ok {n : Nat} {st : List SW} {s0 s1 s2 s3 s5 s6 s7 s9 s12 s13 : Slot} {L : List D} {w : Wp} (h0 : 1 ≤ n) (hn : n ≤ 4) (hl : st.length = n) (hs : soFar n st) (hL : Wds n L) (h12 : NI s12)
    (h : ∀ s12, NI s12 → w.nx [s0, s1, s2, s3, .val (.tuple (st.map sp)), s5, s6, s7, .own (.dict (heldK n st)), s9, .val (.list L), .non, s12, s13]) :
    SSat (lL [s0, s1, s2, s3, .val (.tuple (st.map sp)), s5, s6, s7, .own (.dict (heldK n st)), s9, .own (.list L), .non, s12, s13]) w := by
  unfold lL
  have i0 : iFrz 10 (iSeq (oVar 10)) [s0, s1, s2, s3, .val (.tuple (st.map sp)), s5, s6, s7, .own (.dict (heldK n st)), s9, .own (.list L), .non, s12, s13] = .ok (L, [(.list L, none)]) [s0, s1, s2, s3, .val (.tuple (st.map sp)), s5, s6, s7, .own (.dict (heldK n st)), s9, .val (.list L), .non, s12, s13] := rfl
  refine ssat_forS (Sat.of i0 ⟨rfl, ?_⟩)
  refine ssat_for (fun ds ρ => Wds n ds ∧ ∃ e, NI e ∧ ρ = [s0, s1, s2, s3, .val (.tuple (st.map sp)), s5, s6, s7, .own (.dict (heldK n st)), s9, .val (.list L), .non, e, s13]) ?_ ?_ _ _ ⟨hL, s12, h12, rfl⟩
  · rintro x xs ρ ⟨hx, e, he, rfl⟩
    refine ⟨rfl, _, bind_ni (s := e) rfl he, ?_⟩
    obtain ⟨u, rfl, hu⟩ := hx x (by simp)
    exact lLb_ok h0 hn hl hs hu rfl rfl rfl ⟨fun y hy => hx y (List.mem_cons_of_mem _ hy), .val (wd u), rfl, rfl⟩
  · rintro ρ ⟨_, e, he, rfl⟩
    exact ⟨rfl, h e he⟩
end Ow

namespace Ow
open PySem PyProof.Rows PySem.Spec L2
/-! ### words that are none, states that are none -/
def lBK : List EvE := [(eBin dMul (oOf (eTup [(eCon (.int 0))])) (oOf (eBin dAdd (oVar 3) (oOf (eCon (.int 1)))))), (eBin dMul (oOf (eTup [(eCon (.int 4))])) (oVar 3)), (eCon (.int 3)), (eCon .none), (eBin dMul (oOf (eCon (.str "1"))) (oVar 3)), (eTup []), (eBin dMul (oOf (eTup [(eCon (.str "1"))])) (oVar 3)), (eBin dIx (oVar 4) (oOf (eCon (.int 0))))]
theorem lBK_ok {n : Nat} {st : List SW} {ρ : AE} (h0 : 1 ≤ n) (hn : n ≤ 4) (hl : st.length = n) (h3 : ρ[3]? = some (.val (.int n))) (h4 : ρ[4]? = some (.val (.tuple (st.map sp)))) : ∀ f ∈ lBK, AD 4 f ρ := by
  have g3 : oVar 3 ρ = .ok (.int n, none) ρ := by simp only [oVar, h3]
  have g31 : oOf (eBin dAdd (oVar 3) (oOf (eCon (.int 1)))) ρ = .ok (.int ((n : Int) + 1), none) ρ := by
    simp only [oOf, eBin, oVar, eCon, h3, bind_ok, still_none, if_true, dAdd]
  intro f hf
  unfold lBK at hf
  simp only [List.mem_cons, List.not_mem_nil, or_false] at hf
  rcases hf with rfl | rfl | rfl | rfl | rfl | rfl | rfl | rfl
  · exact (at_zeros (d := .int 0) rfl g31 (by omega) (by omega)).ad.up.up.up
  · exact (at_zeros (d := .int 4) rfl g3 (by omega) (by omega)).ad.up.up.up
  · exact ad_con rfl
  · exact ad_con rfl
  · refine ⟨.str (Txt.mul "1" (n : Int)), ?_, rfl⟩
    have : dMul (.str "1") (.int (n : Int)) = some (.str (Txt.mul "1" (n : Int)), false) := by
      show (if _ ∧ _ ∧ _ then _ else _) = _
      rw [if_pos ⟨by decide, by omega, by omega⟩]
    simp only [eBin, oOf, g3, eCon, bind_ok, still_none, if_true, this]
  · exact (at_tup0 (k := 3)).ad
  · exact (at_zeros (d := .str "1") rfl g3 (by omega) (by omega)).ad.up.up.up
  · cases st with
    | nil => simp at hl; omega
    | cons p st =>
      refine AD.up (AD.up ⟨sp p, ?_, tame_sp p⟩)
      have : dIx (.tuple ((p :: st).map sp)) (.int 0) = some (sp p, false) := by
        show (atI (sp p :: st.map sp) 0).map _ = _
        rw [atI_0] <;> rfl
      simp only [eBin, oOf, oVar, h4, eCon, bind_ok, still_none, if_true, this]
def badE : EvE := (eTup [(eCon (.int 1)), (eCon (.str "state"))])
theorem badE_eq {ρ : AE} : badE ρ = .ok (bad1, false) ρ := rfl
def lB1 : StF := (sAsg 13 (eBin dIx (oOf (eLst lBK)) (oOf (eCall _law_draw_S [.ref 2, .val (eCon (.int 8))]))))
def lB2 : StF := (sIf (tAnd2 (tNot1 (tVal (eCall _law_is_word_S [.val (eVar 3), .val (eVar 13)]))) (tVal (eBin dNe (oOf (eTold readD2 toldWord (eCall holds_S [.val (eVar 4), .val (eVar 13)]))) (oOf badE)))) (sRet (eCon (.bool false))) sNx)
def lB3 : StF := (sIf (tAnd2 (tNot1 (tVal (eCall _law_is_state_S [.val (eVar 6)]))) (tVal (eBin dNe (oOf (eFrz 10 (eTold readD2 toldWord (eCall holds_S [.val (eVar 6), .val (eBin dIx (oVar 10) (oOf (eCon (.int 0))))])))) (oOf badE)))) (sRet (eCon (.bool false))) sNx)
theorem lB1_ok {n : Nat} {st : List SW} {s0 s1 s5 s6 s7 s8 s9 s10 s11 s12 s13 : Slot} {b : D} {w : Wp} (hb : Bx b) (h0 : 1 ≤ n) (hn : n ≤ 4) (hl : st.length = n) (h13 : NI s13)
    (h : ∀ x b', Tm x → Bx b' → w.nx [s0, s1, .own b', .val (.int n), .val (.tuple (st.map sp)), s5, s6, s7, s8, s9, s10, s11, s12, .val x]) :
    SSat (lB1 [s0, s1, .own b, .val (.int n), .val (.tuple (st.map sp)), s5, s6, s7, s8, s9, s10, s11, s12, s13]) w := by
  unfold lB1
  obtain ⟨ds, e, l, hds⟩ := le_lst (lBK_ok (ρ := [s0, s1, .own b, .val (.int n), .val (.tuple (st.map sp)), s5, s6, s7, s8, s9, s10, s11, s12, s13]) h0 hn hl rfl rfl)
  have l : ds.length = 8 := l
  refine ssat_asg (sat_bin (sat_oOf (Sat.of e (sat_oOf (sat_draw2 (m := 8) (fl := false) hb rfl (by decide) (by decide) fun j b3 hj0 hj hb3 => ?_)))))
  obtain ⟨x, e, hx⟩ := atI_lt hj0 (l := ds) (by omega)
  refine ⟨rfl, (x, false), ?_, h13, h x b3 (hds x hx) hb3⟩
  show (atI ds j).map _ = _
  rw [e] <;> rfl
theorem bad_holds {d x : D} (hd : Tm d) (hx : Tm x) (h : ¬ holdD d x) : tellR (holds_S [d, x]) = some bad1 := by
  rcases tell_holds hd hx with ⟨_, _, q, _⟩ | ⟨_, e⟩
  · exact absurd q h
  · exact e
theorem bad_tame : tame 2 bad1 = true := rfl
theorem lB2_ok {n : Nat} {st : List SW} {x : D} {ρ : AE} {w : Wp} (hl : st.length = n) (hx : Tm x) (h3 : ρ[3]? = some (.val (.int n))) (h4 : ρ[4]? = some (.val (.tuple (st.map sp)))) (h13 : ρ[13]? = some (.val x)) (q : w.nx ρ) : SSat (lB2 ρ) w := by
  unfold lB2
  have c := call2_eq (sem := _law_is_word_S) (f := eVar 3) (g := eVar 13) (ρ := ρ) (p := (.int n, false)) (q := (x, false)) (by simp only [eVar, h3]) (by simp only [eVar, h13]) (lisword_sem hx)
  refine nif_ok ?_ q
  cases hW : isW n x with
  | true =>
    rw [hW] at c
    simp only [tAnd2, tNot1, tVal, c, bind_ok, Bool.not_true, Bool.false_eq_true, if_false]
  | false =>
    rw [hW] at c
    have e : tellR (holds_S [.tuple (st.map sp), x]) = some bad1 := bad_holds tm_sps hx (by
      rintro ⟨st', u, e, _, _, rfl, hu⟩
      rw [← sps_inj (PyData.tuple.inj e)] at hu
      rw [isW_wd.mpr ⟨u, rfl, by omega⟩] at hW
      cases hW)
    have t := ne_same (told2_eq h4 h13 e) badE_eq bad_tame (by decide)
    simp only [tAnd2, tNot1, tVal, c, bind_ok, Bool.not_false, if_true]
    exact t
theorem lB3_ok {n : Nat} {o : D} {L : List D} {ρ : AE} {w : Wp} (ho : Tm o) (hL : Wds n L) (hne : L ≠ []) (h6 : ρ[6]? = some (.val o)) (h10 : ρ[10]? = some (.val (.list L))) (q : w.nx ρ) : SSat (lB3 ρ) w := by
  unfold lB3
  have c := call1_eq (sem := _law_is_state_S) (f := eVar 6) (ρ := ρ) (p := (o, false)) (by simp only [eVar, h6]) (lisstate_sem ho)
  refine nif_ok ?_ q
  cases hW : stB o with
  | true =>
    rw [hW] at c
    simp only [tAnd2, tNot1, tVal, c, bind_ok, Bool.not_true, Bool.false_eq_true, if_false]
  | false =>
    rw [hW] at c
    cases L with
    | nil => exact absurd rfl hne
    | cons x L =>
      obtain ⟨u, rfl, hu⟩ := hL x (by simp)
      have e : tellR (holds_S [o, wd u]) = some bad1 := bad_holds ho tm_wd (by
        rintro ⟨st', u', rfl, a1, a2, _, _⟩
        rw [stB_iff.mpr ⟨st', rfl, a1, a2⟩] at hW
        cases hW)
      have f10 : eFrz 10 (eTold readD2 toldWord (eCall holds_S [.val (eVar 6), .val (eBin dIx (oVar 10) (oOf (eCon (.int 0))))])) ρ = .ok (bad1, false) ρ := by
        unfold eFrz
        rw [h10]
        refine told_any (ps := [(o, none), (wd u, none)]) ?_ (by simp) e
        have : dIx (.list (wd u :: L)) (.int 0) = some (wd u, false) := by
          show (atI (wd u :: L) 0).map _ = _
          rw [atI_0] <;> rfl
        simp only [evArgs, eVar, eBin, oOf, oVar, eCon, mask_val h6, mask_val h10, bind_ok, still_none, if_true, this]
      have t := ne_same f10 badE_eq bad_tame (by decide)
      simp only [tAnd2, tNot1, tVal, c, bind_ok, Bool.not_false, if_true]
      exact t
/-! ### the last row -/
def lMC : EvE := (eComp [11] (iRange1 (oOf (eCon (.int 6)))) (.name 11) (tNot1 (tVal (eCall _law_multiply_right_S [.ref 2, .val (eVar 3)]))) (eVar 11))
def lM : StF := (sIf (tOr2 (tVal (eBin dGt (oOf (eOps dLen [(oOf lMC)])) (oOf (eCon (.int 0))))) (tVal (eBin dNe (oOf (eOps dRepr [(oVar 4)])) (oVar 5)))) (sRet (eCon (.bool false))) sNx)
theorem lMC_ok {n : Nat} {s0 s1 s4 s5 s6 s7 s8 s9 s10 s12 s13 : Slot} {b : D} {P : D × Bool → AE → Prop} (hb : Bx b) (h0 : 1 ≤ n) (hn : n ≤ 4)
    (h : ∀ b', Bx b' → P (.list [], true) [s0, s1, .own b', .val (.int n), s4, s5, s6, s7, s8, s9, s10, .non, s12, s13]) : Sat (lMC [s0, s1, .own b, .val (.int n), s4, s5, s6, s7, s8, s9, s10, .non, s12, s13]) P := by
  unfold lMC
  refine sat_eComp (Sat.of (rng_int (n := 6) rfl (by decide)) ?_)
  refine sat_comp (fun ds ρ acc => acc = [] ∧ ∃ b', Bx b' ∧ ρ = [s0, s1, .own b', .val (.int n), s4, s5, s6, s7, s8, s9, s10, .non, s12, s13]) ?_ ?_ _ _ _ ⟨rfl, b, hb, rfl⟩
  · rintro x ds ρ acc ⟨rfl, b', hb', rfl⟩
    refine ⟨rfl, _, rfl, ?_⟩
    show Sat (tNot1 (tVal (eCall _law_multiply_right_S [.ref 2, .val (eVar 3)])) [s0, s1, .own b', .val (.int n), s4, s5, s6, s7, s8, s9, s10, .val x, s12, s13]) _
    refine sat_not (sat_tval (sat_ref2 (i := 3) (a := .int n) rfl ((mr_ok hb' h0 hn).imp (fun r fl outs q => ?_) fun _ h => h)))
    obtain ⟨rfl, rfl, b2, hb2, rfl⟩ := q
    exact ⟨true, rfl, rfl, b2, hb2, rfl⟩
  · rintro ρ acc ⟨rfl, b', hb', rfl⟩
    exact ⟨rfl, h b' hb'⟩
theorem ne_str (x : Str) : dNe (.str x) (.str x) = some (.bool false, false) := by
  simp [dNe, okC, PyData.plain, PyData.depth, PyData.eqv]
theorem lM_ok {n : Nat} {ds : List D} {x : Str} {s0 s1 s6 s7 s8 s9 s10 s12 s13 : Slot} {b : D} {w : Wp} (hb : Bx b) (h0 : 1 ≤ n) (hn : n ≤ 4) (hx : dRepr [.tuple ds] = some (.str x, false))
    (h : ∀ b', Bx b' → w.nx [s0, s1, .own b', .val (.int n), .val (.tuple ds), .val (.str x), s6, s7, s8, s9, s10, .non, s12, s13]) :
    SSat (lM [s0, s1, .own b, .val (.int n), .val (.tuple ds), .val (.str x), s6, s7, s8, s9, s10, .non, s12, s13]) w := by
  unfold lM
  refine ssat_if (sat_or (sat_tval (sat_bin (sat_oOf (sat_op1 (sat_oOf (lMC_ok hb h0 hn fun b' hb' => ⟨rfl, (.int 0, false), rfl, ?_⟩)))))))
  refine sat_oOf (Sat.of (a := (.int 0, false)) (ρ' := [s0, s1, .own b', .val (.int n), .val (.tuple ds), .val (.str x), s6, s7, s8, s9, s10, .non, s12, s13]) rfl ⟨rfl, (.bool false, false), dGt_ii 0 0, false, rfl, ?_⟩)
  have rp : eOps dRepr [(oVar 4)] [s0, s1, .own b', .val (.int n), .val (.tuple ds), .val (.str x), s6, s7, s8, s9, s10, .non, s12, s13] = .ok (.str x, false) [s0, s1, .own b', .val (.int n), .val (.tuple ds), .val (.str x), s6, s7, s8, s9, s10, .non, s12, s13] := by
    simp only [eOps, oList, oVar, List.getElem?_cons_zero, List.getElem?_cons_succ, bind_ok, stills, still_none, Bool.and_self, if_true, List.map_cons, List.map_nil, hx]
  have t : tVal (eBin dNe (oOf (eOps dRepr [(oVar 4)])) (oVar 5)) [s0, s1, .own b', .val (.int n), .val (.tuple ds), .val (.str x), s6, s7, s8, s9, s10, .non, s12, s13] = .ok false [s0, s1, .own b', .val (.int n), .val (.tuple ds), .val (.str x), s6, s7, s8, s9, s10, .non, s12, s13] := by
    simp only [tVal, eBin, oOf, rp, oVar, List.getElem?_cons_zero, List.getElem?_cons_succ, bind_ok, still_none, if_true, ne_str]
  exact Sat.of t (h b' hb')
end Ow

namespace Ow
open PySem PyProof.Rows PySem.Spec L2
def lTurn : StF := sSeq lA1 (sSeq lA2 (sSeq lA3 (sSeq lA4 (sSeq lA5 (sSeq lC (sSeq lH1 (sSeq lH2 (sSeq lH3 (sSeq lL (sSeq lB1 (sSeq lB2 (sSeq lB3 lM))))))))))))
theorem law_split : law_F = (sSeq (sFor [0, 1, 2, 3, 4, 5, 6, 7, 8, 9, 10, 12, 13] (iRange1 (oOf (eCon (.int 3)))) (.name 1) lTurn) (sRet (eCon (.bool true)))) := rfl
/-- what stands there between two turns -/
def Bet (ns : List Int) (ρ : AE) : Prop := ∃ s1 s2 s3 s4 s5 s6 s7 s8 s9 s10 s12 s13, NI s1 ∧ NI s2 ∧ NI s3 ∧ NI s4 ∧ NI s5 ∧ NI s6 ∧ NI s7 ∧ NI s8 ∧ NI s9 ∧ NI s10 ∧ NI s12 ∧ NI s13 ∧ ρ = [.val (.list (ns.map PyData.int)), s1, s2, s3, s4, s5, s6, s7, s8, s9, s10, .non, s12, s13]
theorem lTurn_ok {ns : List Int} {k : Nat} {s2 s3 s4 s5 s6 s7 s8 s9 s10 s12 s13 : Slot} {w : Wp} (h2 : NI s2) (h3 : NI s3) (h4 : NI s4) (h5 : NI s5) (h6 : NI s6) (h7 : NI s7) (h8 : NI s8) (h9 : NI s9) (h10 : NI s10) (h12 : NI s12) (h13 : NI s13) (q : ∀ ρ, Bet ns ρ → w.nx ρ) :
    SSat (lTurn [.val (.list (ns.map PyData.int)), .val (.int k), s2, s3, s4, s5, s6, s7, s8, s9, s10, .non, s12, s13]) w := by
  unfold lTurn
  refine lA_ok h2 h3 h4 h5 h6 fun n st x o b h0 hn hl hs hx ho hb => ?_
  refine ssat_seq (lC_ok h7 tm_sps ho fun e => nx_in ?_)
  refine lH_ok hb h0 hn hl (fun p hp => (hs.1 p hp).1) h8 h9 h10 fun L b1 hne hL hb1 => ?_
  refine ssat_seq (lL_ok h0 hn hl hs hL h12 fun t12 g12 => nx_in ?_)
  refine ssat_seq (lB1_ok hb1 h0 hn hl h13 fun y b2 hy hb2 => nx_in ?_)
  refine ssat_seq (lB2_ok hl hy rfl rfl rfl (nx_in ?_))
  refine ssat_seq (lB3_ok ho hL hne rfl rfl (nx_in ?_))
  refine lM_ok hb2 h0 hn hx fun b3 hb3 => ?_
  exact q _ ⟨.val (.int k), .own b3, _, _, _, _, _, _, _, _, t12, _, rfl, rfl, rfl, rfl, rfl, rfl, rfl, rfl, rfl, rfl, g12, rfl, rfl⟩
theorem range_in {n : Nat} {d : D} (h : d ∈ rangeD 0 n) : ∃ c : Nat, d = .int c := by
  obtain ⟨c, hc, rfl⟩ := List.mem_map.mp h
  exact ⟨c, by simp⟩
theorem law_ok (ns : List Int) : FSat (law_S [.list (ns.map PyData.int)]) (fun r fl outs => r = .bool true) (fun _ => False) := by
  refine fsat_run rfl ?_
  show SSat (law_F [.val (.list (ns.map PyData.int)), .non, .non, .non, .non, .non, .non, .non, .non, .non, .non, .non, .non, .non]) _
  rw [law_split]
  have fin : ∀ ρ : AE, inoStill [false] ρ = true := fun ρ => by simp [inoStill, List.range_succ]
  refine ssat_seq (ssat_forS (Sat.of (rng_int (n := 3) rfl (by decide)) ⟨rfl, ?_⟩))
  refine ssat_for (fun ds ρ => (∀ x ∈ ds, ∃ c : Nat, x = .int c) ∧ Bet ns ρ) ?_ ?_ _ _ ⟨fun x hx => range_in hx, .non, .non, .non, .non, .non, .non, .non, .non, .non, .non, .non, .non, rfl, rfl, rfl, rfl, rfl, rfl, rfl, rfl, rfl, rfl, rfl, rfl, rfl⟩
  · rintro x ds ρ ⟨hx, s1, s2, s3, s4, s5, s6, s7, s8, s9, s10, s12, s13, h1, h2, h3, h4, h5, h6, h7, h8, h9, h10, h12, h13, rfl⟩
    refine ⟨rfl, _, bind_ni (s := s1) rfl h1, ?_⟩
    obtain ⟨c, rfl⟩ := hx x (by simp)
    exact lTurn_ok h2 h3 h4 h5 h6 h7 h8 h9 h10 h12 h13 fun ρ hρ => ⟨fun y hy => hx y (List.mem_cons_of_mem _ hy), hρ⟩
  · rintro ρ ⟨_, hρ⟩
    refine ⟨rfl, ?_⟩
    simp only [next_nx]
    exact ssat_ret (Sat.of (a := (.bool true, false)) (ρ' := ρ) rfl ⟨fin _, rfl⟩)
theorem plain : ∀ ns : List Int, ns.length ≤ 63 → (∀ z ∈ ns, Builtin.Int.intBits z ≤ 1048576) → ∃ fl outs, law_S [.list (ns.map PyData.int)] = some (.ret (.bool true) fl outs) := by
  intro ns _ _
  have h := law_ok ns
  revert h
  cases law_S [.list (ns.map PyData.int)] with
  | none => exact fun h => h.elim
  | some r =>
    cases r with
    | exc c => exact fun h => h.elim
    | ret d fl outs =>
      intro h
      have h : d = .bool true := h
      subst h
      exact ⟨fl, outs, rfl⟩
end Ow

namespace Hd
open PySem PyProof.Rows PySem.Spec L2
def d__law_draw : He.DefD := ⟨("_law_draw", none), "_law_draw", "_law_draw", defArgs s__law_draw, defBody s__law_draw, defScope s__law_draw, [], []⟩
def d__law_times : He.DefD := ⟨("_law_times", none), "_law_times", "_law_times", defArgs s__law_times, defBody s__law_times, defScope s__law_times, [], []⟩
def d__law_held : He.DefD := ⟨("_law_held", none), "_law_held", "_law_held", defArgs s__law_held, defBody s__law_held, defScope s__law_held, [], []⟩
def d__law_is_word : He.DefD := ⟨("_law_is_word", none), "_law_is_word", "_law_is_word", defArgs s__law_is_word, defBody s__law_is_word, defScope s__law_is_word, [], []⟩
def d__law_is_signed : He.DefD := ⟨("_law_is_signed", none), "_law_is_signed", "_law_is_signed", defArgs s__law_is_signed, defBody s__law_is_signed, defScope s__law_is_signed, [], []⟩
def d__law_parts : He.DefD := ⟨("_law_parts", none), "_law_parts", "_law_parts", defArgs s__law_parts, defBody s__law_parts, defScope s__law_parts, [], []⟩
def d__law_is_state : He.DefD := ⟨("_law_is_state", none), "_law_is_state", "_law_is_state", defArgs s__law_is_state, defBody s__law_is_state, defScope s__law_is_state, [], []⟩
def d__law_words : He.DefD := ⟨("_law_words", none), "_law_words", "_law_words", defArgs s__law_words, defBody s__law_words, defScope s__law_words, [], []⟩
def d__law_signed : He.DefD := ⟨("_law_signed", none), "_law_signed", "_law_signed", defArgs s__law_signed, defBody s__law_signed, defScope s__law_signed, [], []⟩
def d_go_together : He.DefD := ⟨("go_together", none), "go_together", "go_together", defArgs s_go_together, defBody s_go_together, defScope s_go_together, [], []⟩
def d_is_word : He.DefD := ⟨("is_word", none), "is_word", "is_word", defArgs s_is_word, defBody s_is_word, defScope s_is_word, [], []⟩
def d_is_signed : He.DefD := ⟨("is_signed", none), "is_signed", "is_signed", defArgs s_is_signed, defBody s_is_signed, defScope s_is_signed, [], []⟩
def d_places_of : He.DefD := ⟨("places_of", none), "places_of", "places_of", defArgs s_places_of, defBody s_places_of, defScope s_places_of, [], []⟩
def d_third : He.DefD := ⟨("third", none), "third", "third", defArgs s_third, defBody s_third, defScope s_third, [], []⟩
def d_turns : He.DefD := ⟨("turns", none), "turns", "turns", defArgs s_turns, defBody s_turns, defScope s_turns, [], []⟩
def d_product : He.DefD := ⟨("product", none), "product", "product", defArgs s_product, defBody s_product, defScope s_product, [], []⟩
def d_multiply : He.DefD := ⟨("multiply", none), "multiply", "multiply", defArgs s_multiply, defBody s_multiply, defScope s_multiply, [], []⟩
def d__law_multiply_right : He.DefD := ⟨("_law_multiply_right", none), "_law_multiply_right", "_law_multiply_right", defArgs s__law_multiply_right, defBody s__law_multiply_right, defScope s__law_multiply_right, [], []⟩
def d__law_other_state : He.DefD := ⟨("_law_other_state", none), "_law_other_state", "_law_other_state", defArgs s__law_other_state, defBody s__law_other_state, defScope s__law_other_state, [], []⟩
def d__law_state : He.DefD := ⟨("_law_state", none), "_law_state", "_law_state", defArgs s__law_state, defBody s__law_state, defScope s__law_state, [], []⟩
def d__law_cell : He.DefD := ⟨("_law_cell", none), "_law_cell", "_law_cell", defArgs s__law_cell, defBody s__law_cell, defScope s__law_cell, [], []⟩
def d__law_stream : He.DefD := ⟨("_law_stream", none), "_law_stream", "_law_stream", defArgs s__law_stream, defBody s__law_stream, defScope s__law_stream, [], []⟩
def d_products : He.DefD := ⟨("products", none), "products", "products", defArgs s_products, defBody s_products, defScope s_products, [], []⟩
def d_is_state : He.DefD := ⟨("is_state", none), "is_state", "is_state", defArgs s_is_state, defBody s_is_state, defScope s_is_state, [], []⟩
def d_check_state : He.DefD := ⟨("check_state", none), "check_state", "check_state", defArgs s_check_state, defBody s_check_state, defScope s_check_state, [], []⟩
def d_held_by : He.DefD := ⟨("held_by", none), "held_by", "held_by", defArgs s_held_by, defBody s_held_by, defScope s_held_by, [], []⟩
def d_holds : He.DefD := ⟨("holds", none), "holds", "holds", defArgs s_holds, defBody s_holds, defScope s_holds, [], []⟩
def d_law : He.DefD := ⟨("law", none), "law", "law", defArgs s_law, defBody s_law, defScope s_law, [], []⟩
def d__law_read : He.DefD := ⟨("_law_read", none), "_law_read", "_law_read", defArgs s__law_read, defBody s__law_read, defScope s__law_read, [], []⟩
def d__law_told : He.DefD := ⟨("_law_told", none), "_law_told", "_law_told", defArgs s__law_told, defBody s__law_told, defScope s__law_told, [], []⟩
def fn : List He.DefD := [d__law_draw, d__law_times, d__law_held, d__law_is_word, d__law_is_signed, d__law_parts, d__law_is_state, d__law_words, d__law_signed, d_go_together, d_is_word, d_is_signed, d_places_of, d_third, d_turns, d_product, d_multiply, d__law_multiply_right, d__law_other_state, d__law_state, d__law_cell, d__law_stream, d_products, d_is_state, d_check_state, d_held_by, d_holds, d_law, d__law_read, d__law_told]
def fa : List He.Fa := [.glo "_law_draw", .glo "_law_times", .glo "_law_held", .glo "_law_is_word", .glo "_law_is_signed", .glo "_law_parts", .glo "_law_is_state", .glo "_law_words", .glo "_law_signed", .glo "go_together", .glo "is_word", .glo "is_signed", .glo "places_of", .glo "third", .glo "turns", .glo "product", .glo "multiply", .glo "_law_multiply_right", .glo "_law_other_state", .glo "_law_state", .glo "_law_cell", .glo "_law_stream", .glo "products", .glo "is_state", .glo "check_state", .glo "held_by", .glo "holds", .glo "law", .glo "_law_read", .glo "_law_told", .glo "WholeError", .glo "BadSchema", .glo "BadKind", .glo "BadTable", .glo "BadPaper", .glo "BadState", .glo "NotAgreeing", .glo "OutOfRange", .exc "WholeError", .exc "BadSchema", .exc "BadKind", .exc "BadTable", .exc "BadPaper", .exc "BadState", .exc "NotAgreeing", .exc "OutOfRange", .int "MOST_PLACES" 4] ++ Ow.bnames.map He.Fa.free
def tf : List He.Defn := [("_law_multiply_right", none), ("law", none)]
def ex (K : PySem.W.Frag) : Bool := Ow.kindsB "WholeError" Ow.toldCs K && decide (([("_law_multiply_right", none), ("law", none)] : List He.Defn).map (fun q => (He.cT K q).2)).Nodup
abbrev R : PySem.W.OpenRow := PySem.W.OpenLaw.row PySem.Challenge.rw_oncewhole_k09_states_and_products
def loose0 : List PySem.Str := ["WholeError", "BadSchema", "BadKind", "BadTable", "BadPaper", "BadState", "NotAgreeing", "OutOfRange", "MOST_PLACES", "is_word", "is_signed", "go_together", "third", "turns", "product", "products", "is_state", "check_state", "places_of", "multiply", "held_by", "holds", "_law_read", "_law_cell", "_law_stream", "_law_draw", "_law_told", "_law_parts", "_law_times", "_law_held"]
def loose1 : List PySem.Str := ["_law_words", "_law_state", "_law_is_word", "_law_is_signed", "_law_is_state", "_law_signed", "_law_other_state", "_law_multiply_right"]
def loose : List PySem.Str := loose0 ++ loose1
abbrev hk : PySem.W.Hook := He.hookX 4 fa fn [] tf ex
def ob (s : PySem.W.SharedT) : He.AlX := He.obsX 4 fa fn [] tf ex (HandSHeadRun.getT s)
theorem ob_eq (s : PySem.W.SharedT) : ob s = hk.obs s.abs := He.obsX_eq (HandSHeadRun.getT_eq s)
theorem run (w : World) : HandSHeadRun.RunEq R (PySem.W.view R.prog [41]) hk ob 6000 loose w := by
  intro os
  kernel_rfl
end Hd
namespace Ow
open PySem PyProof.Rows PySem.Spec L2 LamX
theorem the_law {w : World} {mg : Str → Option Value} {fa : Addr} {h : Heap} {K : PySem.W.Frag} (KX : K.In h) (G : h.Ns mainGlobals mg) (hmg : mg ("law" : Str) = some (.ref fa)) (c : He.SaysX Hd.fa Hd.fn [] Hd.tf Hd.ex w h K)
    (plain : ∀ ns : List Int, ns.length ≤ 63 → (∀ z ∈ ns, Builtin.Int.intBits z ≤ 1048576) → ∃ fl outs, law_S [.list (ns.map PyData.int)] = some (.ret (.bool true) fl outs)) : LawG PySem.Challenge.rw_oncewhole_k09_states_and_products w K 11 63 "script" mg fa h := by
  have cd := c.t.d
  have glo : ∀ x : Str, He.Fa.glo x ∈ Hd.fa → mg x = some (.ref (He.ga K x)) := fun x hx => He.glo_ok KX G (cd.facts hx)
  have e := hmg.symm.trans (glo "law" (by simp [Hd.fa]))
  cases e
  obtain ⟨fd, Fd⟩ := cd.defs (d := Hd.d_law) (by simp [Hd.fn])
  refine ⟨fd, Hd.tf.map (He.cT K), [((He.cT K ("_law_multiply_right", none)).2, ("_law_multiply_right" ++ ".<locals>." ++ "<lambda>" : Str)), ((He.cT K ("law", none)).2, ("law" ++ ".<locals>." ++ "<lambda>" : Str))], fun x => .ref (He.ga K x), law_S, fun p hp => ?_, fun p hp => ?_, fun p hp => ?_, fun p hp => ?_, fun s u => FunD.bindsA (ps := ["script"]) Fd (fun _ _ _ _ _ _ us hl => match us, hl with | [_], _ => rfl) s [u] rfl, plain, fun base KB nB TB => ?_⟩
  · obtain ⟨q, hq, rfl⟩ := List.mem_map.mp hp; exact c.empty q hq
  · obtain ⟨q, hq, rfl⟩ := List.mem_map.mp hp; exact c.out q hq
  · obtain ⟨q, hq, rfl⟩ := List.mem_map.mp hp; exact PySem.W.codeHd_of_K KX (c.hd q hq)
  · simp only [List.mem_cons, List.not_mem_nil, or_false] at hp; rcases hp with rfl | rfl <;> simp [Hd.tf]
  have B : Bare (Ctx.top (PySem.Challenge.rw_oncewhole_k09_states_and_products).prog w K mg base [((He.cT K ("_law_multiply_right", none)).2, ("_law_multiply_right" ++ ".<locals>." ++ "<lambda>" : Str)), ((He.cT K ("law", none)).2, ("law" ++ ".<locals>." ++ "<lambda>" : Str))] (fun x => .ref (He.ga K x))) := fun x hx => He.free_ok KX G (cd.facts (f := .free x) (List.mem_append_right _ (List.mem_map.mpr ⟨x, hx, rfl⟩)))
  have C : Ints (Ctx.top (PySem.Challenge.rw_oncewhole_k09_states_and_products).prog w K mg base [((He.cT K ("_law_multiply_right", none)).2, ("_law_multiply_right" ++ ".<locals>." ++ "<lambda>" : Str)), ((He.cT K ("law", none)).2, ("law" ++ ".<locals>." ++ "<lambda>" : Str))] (fun x => .ref (He.ga K x))) := ⟨He.int_ok KX G (cd.facts (f := .int "MOST_PLACES" 4) (by simp [Hd.fa]))⟩
  have er : ∀ x : Str, He.Fa.glo x ∈ Hd.fa → He.Fa.exc x ∈ Hd.fa → ErrAt (Ctx.top (PySem.Challenge.rw_oncewhole_k09_states_and_products).prog w K mg base [((He.cT K ("_law_multiply_right", none)).2, ("_law_multiply_right" ++ ".<locals>." ++ "<lambda>" : Str)), ((He.cT K ("law", none)).2, ("law" ++ ".<locals>." ++ "<lambda>" : Str))] (fun x => .ref (He.ga K x))) x := fun x h1 h2 => by
    obtain ⟨a1, a2, a3, a4⟩ := He.exc_ok (cd.facts h2)
    exact ⟨He.ga K x, rfl, glo x h1, a1, a2, a3, a4⟩
  have R : Errs (Ctx.top (PySem.Challenge.rw_oncewhole_k09_states_and_products).prog w K mg base [((He.cT K ("_law_multiply_right", none)).2, ("_law_multiply_right" ++ ".<locals>." ++ "<lambda>" : Str)), ((He.cT K ("law", none)).2, ("law" ++ ".<locals>." ++ "<lambda>" : Str))] (fun x => .ref (He.ga K x))) := ⟨er "WholeError" (by simp [Hd.fa]) (by simp [Hd.fa]), er "BadSchema" (by simp [Hd.fa]) (by simp [Hd.fa]), er "BadKind" (by simp [Hd.fa]) (by simp [Hd.fa]), er "BadTable" (by simp [Hd.fa]) (by simp [Hd.fa]), er "BadPaper" (by simp [Hd.fa]) (by simp [Hd.fa]), er "BadState" (by simp [Hd.fa]) (by simp [Hd.fa]), er "NotAgreeing" (by simp [Hd.fa]) (by simp [Hd.fa]), er "OutOfRange" (by simp [Hd.fa]) (by simp [Hd.fa])⟩
  have h__law_draw := f__law_draw (cd.defs (d := Hd.d__law_draw) (by simp [Hd.fn])) (glo "_law_draw" (by simp [Hd.fa])) B
  have h__law_times := f__law_times (cd.defs (d := Hd.d__law_times) (by simp [Hd.fn])) (glo "_law_times" (by simp [Hd.fa])) B
  have h__law_held := f__law_held h__law_times (cd.defs (d := Hd.d__law_held) (by simp [Hd.fn])) (glo "_law_held" (by simp [Hd.fa])) B
  have h__law_is_word := f__law_is_word (cd.defs (d := Hd.d__law_is_word) (by simp [Hd.fn])) (glo "_law_is_word" (by simp [Hd.fa])) B
  have h__law_is_signed := f__law_is_signed h__law_is_word (cd.defs (d := Hd.d__law_is_signed) (by simp [Hd.fn])) (glo "_law_is_signed" (by simp [Hd.fa])) B
  have h__law_parts := f__law_parts (cd.defs (d := Hd.d__law_parts) (by simp [Hd.fn])) (glo "_law_parts" (by simp [Hd.fa])) B
  have h__law_is_state := f__law_is_state h__law_held h__law_is_signed h__law_parts (cd.defs (d := Hd.d__law_is_state) (by simp [Hd.fn])) (glo "_law_is_state" (by simp [Hd.fa])) B
  have h__law_words := f__law_words (cd.defs (d := Hd.d__law_words) (by simp [Hd.fn])) (glo "_law_words" (by simp [Hd.fa])) B
  have h__law_signed := f__law_signed h__law_draw h__law_words (cd.defs (d := Hd.d__law_signed) (by simp [Hd.fn])) (glo "_law_signed" (by simp [Hd.fa])) B
  have h_go_together := f_go_together (cd.defs (d := Hd.d_go_together) (by simp [Hd.fn])) (glo "go_together" (by simp [Hd.fa])) B
  have h_is_word := f_is_word (cd.defs (d := Hd.d_is_word) (by simp [Hd.fn])) (glo "is_word" (by simp [Hd.fa])) B
  have h_is_signed := f_is_signed h_is_word (cd.defs (d := Hd.d_is_signed) (by simp [Hd.fn])) (glo "is_signed" (by simp [Hd.fa])) B
  have h_places_of := f_places_of (cd.defs (d := Hd.d_places_of) (by simp [Hd.fn])) (glo "places_of" (by simp [Hd.fa])) B
  have h_third := f_third (cd.defs (d := Hd.d_third) (by simp [Hd.fn])) (glo "third" (by simp [Hd.fa])) B
  have h_turns := f_turns (cd.defs (d := Hd.d_turns) (by simp [Hd.fn])) (glo "turns" (by simp [Hd.fa])) B
  have h_product := f_product h_third h_turns (cd.defs (d := Hd.d_product) (by simp [Hd.fn])) (glo "product" (by simp [Hd.fa])) B
  have h_multiply := f_multiply h_go_together h_is_signed h_places_of h_product (cd.defs (d := Hd.d_multiply) (by simp [Hd.fn])) (glo "multiply" (by simp [Hd.fa])) B C R
  have Kd : Kinds (Ctx.top (PySem.Challenge.rw_oncewhole_k09_states_and_products).prog w K mg base [((He.cT K ("_law_multiply_right", none)).2, ("_law_multiply_right" ++ ".<locals>." ++ "<lambda>" : Str)), ((He.cT K ("law", none)).2, ("law" ++ ".<locals>." ++ "<lambda>" : Str))] (fun x => .ref (He.ga K x))) "WholeError" toldCs := kinds_ok (by have q : Hd.ex K = true := c.more; unfold Hd.ex at q; rw [Bool.and_eq_true] at q; exact q.1) (fun _ => rfl) (glo "WholeError" (by simp [Hd.fa])) (fun x hx => glo x (by simp only [toldCs, List.mem_cons, List.not_mem_nil, or_false] at hx; rcases hx with h | h | h | h | h | h | h <;> subst h <;> simp [Hd.fa]))
  have nd2 : (([((He.cT K ("_law_multiply_right", none)).2, ("_law_multiply_right" ++ ".<locals>." ++ "<lambda>" : Str)), ((He.cT K ("law", none)).2, ("law" ++ ".<locals>." ++ "<lambda>" : Str))] : List (Addr × Str)).map (·.1)).Nodup := by have q : Hd.ex K = true := c.more; unfold Hd.ex at q; rw [Bool.and_eq_true, decide_eq_true_eq] at q; exact q.2
  have h__law_read := f__law_read (cd.defs (d := Hd.d__law_read) (by simp [Hd.fn])) (glo "_law_read" (by simp [Hd.fa])) B 8
  have Td := told_ok (cd.defs (d := Hd.d__law_told) (by simp [Hd.fn])) (glo "_law_told" (by simp [Hd.fa])) B Kd (h__law_read.imp (sem' := readSem readD2) read_ok)
  have h__law_multiply_right := f__law_multiply_right h__law_draw h__law_is_signed h__law_parts h__law_signed h__law_times h_multiply (cd.defs (d := Hd.d__law_multiply_right) (by simp [Hd.fn])) (glo "_law_multiply_right" (by simp [Hd.fa])) B Td (TB _ (List.mem_map.mpr ⟨("_law_multiply_right", none), by simp [Hd.tf], rfl⟩)) (show ((He.cT K ("_law_multiply_right", none)).2, ("_law_multiply_right" ++ ".<locals>." ++ "<lambda>" : Str)) ∈ [((He.cT K ("_law_multiply_right", none)).2, ("_law_multiply_right" ++ ".<locals>." ++ "<lambda>" : Str)), ((He.cT K ("law", none)).2, ("law" ++ ".<locals>." ++ "<lambda>" : Str))] by simp) (fun p hp h => tab_by (q := ((He.cT K ("_law_multiply_right", none)).2, ("_law_multiply_right" ++ ".<locals>." ++ "<lambda>" : Str))) nd2 hp (by simp) h)
  have h__law_other_state := f__law_other_state h__law_draw h__law_signed h__law_times (cd.defs (d := Hd.d__law_other_state) (by simp [Hd.fn])) (glo "_law_other_state" (by simp [Hd.fa])) B
  have h__law_state := f__law_state h__law_draw h__law_held h__law_parts h__law_words (cd.defs (d := Hd.d__law_state) (by simp [Hd.fn])) (glo "_law_state" (by simp [Hd.fa])) B
  have h__law_cell := f__law_cell (cd.defs (d := Hd.d__law_cell) (by simp [Hd.fn])) (glo "_law_cell" (by simp [Hd.fa])) B
  have h__law_stream := f__law_stream h__law_cell (cd.defs (d := Hd.d__law_stream) (by simp [Hd.fn])) (glo "_law_stream" (by simp [Hd.fa])) B
  have h_products := f_products h_product (cd.defs (d := Hd.d_products) (by simp [Hd.fn])) (glo "products" (by simp [Hd.fa])) B
  have h_is_state := f_is_state h_go_together h_is_signed h_products (cd.defs (d := Hd.d_is_state) (by simp [Hd.fn])) (glo "is_state" (by simp [Hd.fa])) B C
  have h_check_state := f_check_state h_is_state (cd.defs (d := Hd.d_check_state) (by simp [Hd.fn])) (glo "check_state" (by simp [Hd.fa])) B R
  have h_held_by := f_held_by h_products (cd.defs (d := Hd.d_held_by) (by simp [Hd.fn])) (glo "held_by" (by simp [Hd.fa])) B
  have h_holds := f_holds h_check_state h_held_by h_is_word (cd.defs (d := Hd.d_holds) (by simp [Hd.fn])) (glo "holds" (by simp [Hd.fa])) B R
  exact f_law h__law_draw h__law_held h__law_is_state h__law_is_word h__law_multiply_right h__law_other_state h__law_state h__law_stream h__law_words h_check_state h_holds Fd B Td (TB _ (List.mem_map.mpr ⟨("law", none), by simp [Hd.tf], rfl⟩)) (show ((He.cT K ("law", none)).2, ("law" ++ ".<locals>." ++ "<lambda>" : Str)) ∈ [((He.cT K ("_law_multiply_right", none)).2, ("_law_multiply_right" ++ ".<locals>." ++ "<lambda>" : Str)), ((He.cT K ("law", none)).2, ("law" ++ ".<locals>." ++ "<lambda>" : Str))] by simp) (fun p hp h => tab_by (q := ((He.cT K ("law", none)).2, ("law" ++ ".<locals>." ++ "<lambda>" : Str))) nd2 hp (by simp) h)
end Ow
open PySem PySem.W PySem.Calls PyProof.Rows
theorem PySem.Challenge.cw_oncewhole_k09_states_and_products_holds : PySem.Challenge.rw_oncewhole_k09_states_and_products.Holds := by
  w_on; o_law
  refine HandSHeadRun.head_any (r := OpenLaw.row PySem.Challenge.rw_oncewhole_k09_states_and_products) (q := view (OpenLaw.row PySem.Challenge.rw_oncewhole_k09_states_and_products).prog [41]) (H := Hd.hk) (ob := Hd.ob) (M := 6000) (loose := Hd.loose) (d := HandSHeadRun.topDef (OpenLaw.row PySem.Challenge.rw_oncewhole_k09_states_and_products).prog 41) (kwd := []) Hd.ob_eq
    (by kernel_rfl) (fun s => by kernel_rfl) Hd.run (by kernel_rfl) (by kernel_rfl) (by kernel_rfl) (by rfl) (by first | assumption | decide +kernel) (by decide +kernel) ⟨rfl, rfl, rfl, rfl, rfl, by decide +kernel⟩ ?hw ?hc
  case hw => w_witness2
  case hc =>
    refine Ow.walk_G (l := PySem.Challenge.rw_oncewhole_k09_states_and_products) (n := 63) (k := 11) (x := "script") rfl (by decide) (by kernel_rfl) ⟨rfl, by decide, by decide⟩ ?F
    intro w mg fa h Y G hmg0
    obtain ⟨K, KX, c⟩ := Y
    have hmg : mg ("law" : PySem.Str) = some (.ref fa) := by
      have e : (HandSHeadRun.topDef (OpenLaw.row PySem.Challenge.rw_oncewhole_k09_states_and_products).prog 41).name = ("law" : PySem.Str) := by kernel_rfl
      rw [← e]
      exact hmg0
    exact ⟨K, KX, Ow.the_law KX G hmg c Ow.plain⟩
