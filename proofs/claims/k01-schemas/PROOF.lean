import PyProof.Rows.All
import Wide.All
import OpenK.AllK
import Wide.FinOn
import KE.KStateDown
import KE.DatumMoreOrd
import KE.DataAny
import KE.KDictKeyed
import HandS.ForMost
import HandS.ForExc
import HandS.Lambda
import HandS.CallSlots
import HandS.EndTab
import HandS.HotCalls
import HandS.Wide
import HandS.TupAny
import HandS.TupMul
import HandS.IsInst
import HandS.RaiseMore
import KE.SortData
import PyProof.ReprRoads
import HandS.Walk
import HandS.ExcOwn
import HandS.ExcCtx
import HandS.Defaults
import HandS.ExcIs
import HandS.HeadWalk
import HandS.HeadHook4
import HandS.Style
import HandS.Conv
import HandS.Text
import HandS.TupSets
import HandS.SetFor
import HandS.Head0
import HandS.Head1
import HandS.Head2
import HandS.HeadEnd
import HandS.HeadHook1
import HandS.HeadHook2
import HandS.HeadHook3
import HandS.Words
import PySem.Challenge.RW_oncewhole_k01_schemas_checked
set_option Elab.async false
set_option linter.all false
set_option maxRecDepth 100000
set_option maxHeartbeats 0
namespace Ow
open PySem PyProof.Rows PySem.Spec L2

abbrev D := PyData
/-! ### data are equal or not -/
mutual
def sameD : D → D → Bool
  | .none, .none => true
  | .bool a, .bool b => a == b
  | .int a, .int b => a == b
  | .str a, .str b => decide (a = b)
  | .list a, .list b => sameL a b
  | .tuple a, .tuple b => sameL a b
  | .dict a, .dict b => sameK a b
  | _, _ => false
def sameL : List D → List D → Bool
  | [], [] => true
  | x :: xs, y :: ys => sameD x y && sameL xs ys
  | _, _ => false
def sameK : List (D × D) → List (D × D) → Bool
  | [], [] => true
  | (x, u) :: xs, (y, v) :: ys => sameD x y && (sameD u v && sameK xs ys)
  | _, _ => false
end
mutual
theorem sameD_iff : ∀ a b : D, sameD a b = true ↔ a = b
  | .none, b => by cases b <;> simp [sameD]
  | .bool a, b => by cases b <;> simp [sameD]
  | .int a, b => by cases b <;> simp [sameD]
  | .str a, b => by cases b <;> simp [sameD]
  | .list a, b => by
    cases b <;> simp only [sameD, Bool.false_eq_true, reduceCtorEq, false_iff, not_false_eq_true]
    rw [sameL_iff]; simp
  | .tuple a, b => by
    cases b <;> simp only [sameD, Bool.false_eq_true, reduceCtorEq, false_iff, not_false_eq_true]
    rw [sameL_iff]; simp
  | .dict a, b => by
    cases b <;> simp only [sameD, Bool.false_eq_true, reduceCtorEq, false_iff, not_false_eq_true]
    rw [sameK_iff]; simp
theorem sameL_iff : ∀ a b : List D, sameL a b = true ↔ a = b
  | [], b => by cases b <;> simp [sameL]
  | x :: xs, b => by
    cases b with
    | nil => simp [sameL]
    | cons y ys => simp only [sameL, Bool.and_eq_true, sameD_iff x y, sameL_iff xs ys, List.cons.injEq]
theorem sameK_iff : ∀ a b : List (D × D), sameK a b = true ↔ a = b
  | [], b => by cases b <;> simp [sameK]
  | (x, u) :: xs, b => by
    cases b with
    | nil => simp [sameK]
    | cons y ys =>
      obtain ⟨y, v⟩ := y
      simp only [sameK, Bool.and_eq_true, sameD_iff x y, sameD_iff u v, sameK_iff xs ys, List.cons.injEq, Prod.mk.injEq, and_assoc]
end
instance : DecidableEq PyData := fun a b => decidable_of_iff _ (sameD_iff a b)

/-! ### what is at hand: slots, ends -/
inductive Slot where
  | non
  | val (d : D)
  | own (d : D)
  | ino (d : D)
  | exn
abbrev AE := List Slot

inductive Res (α : Type) where
  | ok (a : α) (ρ : AE)
  | exc (c : Str)
  | stuck
def Res.bind {α β : Type} (r : Res α) (f : α → AE → Res β) : Res β :=
  match r with
  | .ok a ρ => f a ρ
  | .exc c => .exc c
  | .stuck => .stuck
abbrev EvE := AE → Res (D × Bool)
abbrev EvO := AE → Res (D × Option Nat)
abbrev EvT := AE → Res Bool

/-- what may change: a list, a dict -/
def isMut : D → Bool
  | .list _ => true
  | .dict _ => true
  | _ => false

/-! ### names, constants, operands -/
def eVar (i : Nat) : EvE := fun ρ => match ρ[i]? with
  | some (.val d) => .ok (d, false) ρ
  | some (.own d) => .ok (d, false) (ρ.set i (.val d))
  | _ => .stuck
def eCon (d : D) : EvE := fun ρ => .ok (d, false) ρ
def oVar (i : Nat) : EvO := fun ρ => match ρ[i]? with
  | some (.val d) => .ok (d, none) ρ
  | some (.own d) => .ok (d, some i) ρ
  | some (.ino d) => .ok (d, some i) ρ
  | _ => .stuck
def oOf (f : EvE) : EvO := fun ρ => (f ρ).bind fun p ρ' => .ok (p.1, none) ρ'
/-- a borrowed thing is as it was -/
def still (b : Option Nat) (d : D) (ρ : AE) : Bool := match b with
  | none => true
  | some i => match ρ[i]? with
    | some (.own e) => decide (e = d)
    | some (.ino e) => decide (e = d)
    | some (.val e) => decide (e = d)
    | _ => false
def eBin (op : D → D → Option (D × Bool)) (fa fb : EvO) : EvE := fun ρ => (fa ρ).bind fun p ρ1 => (fb ρ1).bind fun q ρ2 =>
  if still p.2 p.1 ρ2 then (match op p.1 q.1 with | some r => .ok r ρ2 | none => .stuck) else .stuck
def eUn (op : D → Option (D × Bool)) (fa : EvO) : EvE := fun ρ => (fa ρ).bind fun p ρ1 => match op p.1 with | some r => .ok r ρ1 | none => .stuck
/-! ### tests -/
def tVal (f : EvE) : EvT := fun ρ => (f ρ).bind fun p ρ' => match p.1 with | .bool b => .ok b ρ' | _ => .stuck
def tAnd2 (f g : EvT) : EvT := fun ρ => (f ρ).bind fun b ρ' => if b then g ρ' else .ok false ρ'
def tOr2 (f g : EvT) : EvT := fun ρ => (f ρ).bind fun b ρ' => if b then .ok true ρ' else g ρ'
def tNot1 (f : EvT) : EvT := fun ρ => (f ρ).bind fun b ρ' => .ok (!b) ρ'
def eAnd2 (f g : EvE) : EvE := fun ρ => (f ρ).bind fun p ρ' => match p.1 with | .bool b => (if b then g ρ' else .ok (.bool false, false) ρ') | _ => .stuck
def eOr2 (f g : EvE) : EvE := fun ρ => (f ρ).bind fun p ρ' => match p.1 with | .bool b => (if b then .ok (.bool true, false) ρ' else g ρ') | _ => .stuck
def eNot1 (f : EvE) : EvE := fun ρ => (f ρ).bind fun p ρ' => match p.1 with | .bool b => .ok (.bool (!b), false) ρ' | _ => .stuck
def eIte (t : EvT) (f g : EvE) : EvE := fun ρ => (t ρ).bind fun b ρ' => if b then f ρ' else g ρ'
def eChain (op1 op2 : D → D → Option (D × Bool)) (fa fb fc : EvO) : EvE := fun ρ => (fa ρ).bind fun p ρ1 => (fb ρ1).bind fun q ρ2 =>
  if still p.2 p.1 ρ2 then (match op1 p.1 q.1 with
    | some (.bool true, _) => (fc ρ2).bind fun r ρ3 => if still q.2 q.1 ρ3 then (match op2 q.1 r.1 with | some z => .ok z ρ3 | none => .stuck) else .stuck
    | some (.bool false, _) => .ok (.bool false, false) ρ2
    | _ => .stuck) else .stuck
/-! ### several operands -/
def oList : List EvO → AE → Res (List (D × Option Nat))
  | [], ρ => .ok [] ρ
  | f :: fs, ρ => (f ρ).bind fun p ρ1 => (oList fs ρ1).bind fun ps ρ2 => .ok (p :: ps) ρ2
def stills : List (D × Option Nat) → AE → Bool
  | [], _ => true
  | p :: ps, ρ => still p.2 p.1 ρ && stills ps ρ
def eOps (op : List D → Option (D × Bool)) (fs : List EvO) : EvE := fun ρ => (oList fs ρ).bind fun ps ρ' =>
  if stills ps ρ' then (match op (ps.map (·.1)) with | some r => .ok r ρ' | none => .stuck) else .stuck
/-! ### values into a new tuple or list -/
def eList : List EvE → AE → Res (List D)
  | [], ρ => .ok [] ρ
  | f :: fs, ρ => (f ρ).bind fun p ρ1 => (eList fs ρ1).bind fun ps ρ2 => .ok (p.1 :: ps) ρ2
def eTup (fs : List EvE) : EvE := fun ρ => (eList fs ρ).bind fun ds ρ' => .ok (.tuple ds, false) ρ'
def eLst (fs : List EvE) : EvE := fun ρ => (eList fs ρ).bind fun ds ρ' => .ok (.list ds, true) ρ'

/-! ### how data lie in the heap -/
structure Ctx where
  prog : Program
  w : World
  K : PySem.W.Frag
  mg : Str → Option Value
  base : Heap
  N : List Str
  F0 : Addr → Prop
  H0 : Hp
  ino : Nat → Option Addr
  T : List (Addr × Str)
  cls : Str → Value
  gb : Bool
  hot : Bool
  xa : Option Addr

/-- a list that nobody changes any more -/
def LstR (K : PySem.W.Frag) (F : Addr → Prop) (H : Hp) (a : Addr) (xs : List V) : Prop :=
  (F a ∧ H a = some (.lst xs)) ∨ (∃ o, H a = some (.frz o (.lst xs))) ∨
    ∃ (ob : Obj) (us : Array Value) (m : Nat), K.lookup a = some ob ∧ ob.cls = .type "list" ∧ ob.dict = none ∧ ob.data = .seq us m ∧ us.size ≤ sizeLine ∧ Vals xs us.toList
/-- a dict: its entries, the keys' hashes -/
def dctO (a : Addr) (es : List (V × Int × V)) : HO := .ext fun h => ∃ (o : Obj) (ents : Array DictEntry) (ep : Nat), h.get? a = some o ∧ o.ExactDict ∧ o.data = .dict ents ep ∧
  Paired (fun (p : V × Int × V) (e : DictEntry) => RelV p.1 e.key ∧ e.hash = p.2.1 ∧ RelV p.2.2 e.val) es ents.toList
mutual
/-- the key's hash -/
def hashD (w : World) : D → NestedKey
  | .none => .none
  | .bool b => .num (if b then 1 else 0)
  | .int i => .num i
  | .str x => .text x
  | .tuple ds => .tup (hashDs w ds)
  | .list _ => .none
  | .dict _ => .none
def hashDs (w : World) : List D → List NestedKey
  | [] => []
  | d :: ds => hashD w d :: hashDs w ds
end
mutual
def RepV (P : Program) (w : World) (K : PySem.W.Frag) (F : Addr → Prop) (H : Hp) : D → V → Prop
  | .none, v => v = .non
  | .bool b, v => v = .bl b
  | .int i, v => v = .int i
  | .str x, v => v = .str x
  | .list ds, v => ∃ a xs, v = .ref a ∧ LstR K F H a xs ∧ xs.length ≤ sizeLine ∧ RepL P w K F H ds xs
  | .tuple ds, v => ∃ a xs, v = .ref a ∧ SqT K H a xs ∧ xs.length ≤ sizeLine ∧ RepL P w K F H ds xs
  | .dict kvs, v => ∃ a es, v = .ref a ∧ F a ∧ H a = some (dctO a es) ∧ RepK P w K F H kvs es
def RepL (P : Program) (w : World) (K : PySem.W.Frag) (F : Addr → Prop) (H : Hp) : List D → List V → Prop
  | [], xs => xs = []
  | d :: ds, xs => ∃ v vs, xs = v :: vs ∧ RepV P w K F H d v ∧ RepL P w K F H ds vs
def RepK (P : Program) (w : World) (K : PySem.W.Frag) (F : Addr → Prop) (H : Hp) : List (D × D) → List (V × Int × V) → Prop
  | [], xs => xs = []
  | (k, d) :: ds, xs => ∃ u v vs, xs = (u, (nestedKind P w).hash (hashD w k), v) :: vs ∧ RepV P w K F H k u ∧ RepV P w K F H d v ∧ RepK P w K F H ds vs
end
end Ow

namespace Ow
open PySem PyProof.Rows PySem.Spec L2 LamX

section
variable {P : Program} {w : World} {K : PySem.W.Frag} {F F' F'' : Addr → Prop} {H H' H'' : Hp}
/-- what was frozen stays as it is -/
structure Fk (F : Addr → Prop) (H : Hp) (F' : Addr → Prop) (H' : Hp) : Prop where
  fm : ∀ a, F a → F' a
  fk : ∀ a, F a → H' a = H a
  tk : ∀ a xs, H a = some (.tup xs) → H' a = some (.tup xs)
  zk : ∀ a o u, H a = some (.frz o u) → H' a = some (.frz o u)
theorem Fk.refl : Fk F H F H := ⟨fun _ h => h, fun _ _ => rfl, fun _ _ h => h, fun _ _ _ h => h⟩
theorem Fk.trans (a : Fk F H F' H') (b : Fk F' H' F'' H'') : Fk F H F'' H'' :=
  ⟨fun x h => b.fm x (a.fm x h), fun x h => (b.fk x (a.fm x h)).trans (a.fk x h), fun x xs h => b.tk x xs (a.tk x xs h), fun x o u h => b.zk x o u (a.zk x o u h)⟩
theorem Fk.grow (h : ∀ a, F a → F' a) : Fk F H F' H := ⟨h, fun _ _ => rfl, fun _ _ h => h, fun _ _ _ h => h⟩
/-- all that was tracked stays -/
def Ext (H1 H2 : Hp) : Prop := ∀ b u, H1 b = some u → H2 b = some u
/-- there, and no table -/
def NTo (H : Hp) (a : Addr) : Prop := ∃ o, H a = some o ∧ ∀ ps, o ≠ .tbl ps
theorem NTo.ne {a : Addr} (h : NTo H a) : H a ≠ none := by
  obtain ⟨o, e, _⟩ := h
  rw [e]; simp
theorem NTo.ext {a : Addr} (h : NTo H a) (e : Ext H H') : NTo H' a := let ⟨o, q, n⟩ := h; ⟨o, e a o q, n⟩
theorem Fk.ext (tr : ∀ a, F a → NTo H a) (e : Ext H H') : Fk F H F H' := ⟨fun _ h => h, fun a h => by
  obtain ⟨o, q, _⟩ := tr a h
  rw [q]; exact e a o q, fun a xs h => e a _ h, fun a o u h => e a _ h⟩
/-- .. the tables left out -/
def noT (H : Hp) : Hp := fun a => match H a with
  | some (.tbl _) => none
  | o => o
theorem noT_some {a : Addr} {o : HO} (h : noT H a = some o) : H a = some o ∧ ∀ ps, o ≠ .tbl ps := by
  unfold noT at h
  split at h
  · cases h
  · rename_i n
    exact ⟨h, fun ps e => n ps (by rw [h, e])⟩
theorem noT_of {a : Addr} {o : HO} (h : H a = some o) (n : ∀ ps, o ≠ .tbl ps) : noT H a = some o := by
  unfold noT
  split
  · rename_i ps e
    rw [h] at e
    exact absurd (Option.some.inj e) (n ps)
  · exact h
theorem noT_none {a : Addr} : noT H a = none ↔ ¬ NTo H a := by
  constructor
  · intro h ⟨o, e, n⟩
    rw [noT_of e n] at h; cases h
  · intro h
    cases q : noT H a with
    | none => rfl
    | some o => exact absurd ⟨o, noT_some q⟩ h
theorem Ext.upd {p : Addr} {o : HO} (h : H p = none) : Ext H (upd H p o) := fun a u e => by
  rw [upd_ne (ne_of_none e h)]; exact e
theorem Ext.trans (a : Ext H H') (b : Ext H' H'') : Ext H H'' := fun x o h => b x o (a x o h)
theorem Ext.refl : Ext H H := fun _ _ h => h

theorem LstR.mono {a : Addr} {xs : List V} (k : Fk F H F' H') (h : LstR K F H a xs) : LstR K F' H' a xs := by
  rcases h with ⟨h1, h2⟩ | ⟨o, h⟩ | h
  · exact .inl ⟨k.fm a h1, (k.fk a h1).trans h2⟩
  · exact .inr (.inl ⟨o, k.zk a o _ h⟩)
  · exact .inr (.inr h)
theorem LstR.sq {a : Addr} {xs : List V} (h : LstR K F H a xs) : SqL K H a xs := by
  rcases h with ⟨_, h2⟩ | ⟨o, h⟩ | h
  · exact .inl (.inl h2)
  · exact .inl (.inr ⟨o, h⟩)
  · exact .inr h
theorem SqT.mono {a : Addr} {xs : List V} (k : Fk F H F' H') (h : SqT K H a xs) : SqT K H' a xs := by
  rcases h with (h | ⟨o, h⟩) | h
  · exact .inl (.inl (k.tk a xs h))
  · exact .inl (.inr ⟨o, k.zk a o _ h⟩)
  · exact .inr h
mutual
theorem RepV.mono (k : Fk F H F' H') : ∀ (d : D) (v : V), RepV P w K F H d v → RepV P w K F' H' d v
  | .none, v, h => by simpa only [RepV] using h
  | .bool b, v, h => by simpa only [RepV] using h
  | .int i, v, h => by simpa only [RepV] using h
  | .str x, v, h => by simpa only [RepV] using h
  | .list ds, v, h => by
    simp only [RepV] at h ⊢
    obtain ⟨a, xs, e, l, z, r⟩ := h
    exact ⟨a, xs, e, l.mono k, z, RepL.mono k ds xs r⟩
  | .tuple ds, v, h => by
    simp only [RepV] at h ⊢
    obtain ⟨a, xs, e, l, z, r⟩ := h
    exact ⟨a, xs, e, SqT.mono k l, z, RepL.mono k ds xs r⟩
  | .dict kvs, v, h => by
    simp only [RepV] at h ⊢
    obtain ⟨a, es, e, f, l, r⟩ := h
    exact ⟨a, es, e, k.fm a f, (k.fk a f).trans l, RepK.mono k kvs es r⟩
theorem RepL.mono (k : Fk F H F' H') : ∀ (ds : List D) (vs : List V), RepL P w K F H ds vs → RepL P w K F' H' ds vs
  | [], vs, h => by simpa only [RepL] using h
  | d :: ds, vs, h => by
    simp only [RepL] at h ⊢
    obtain ⟨v, vs', e, r1, r2⟩ := h
    exact ⟨v, vs', e, RepV.mono k d v r1, RepL.mono k ds vs' r2⟩
theorem RepK.mono (k : Fk F H F' H') : ∀ (ds : List (D × D)) (vs : List (V × Int × V)), RepK P w K F H ds vs → RepK P w K F' H' ds vs
  | [], vs, h => by simpa only [RepK] using h
  | (d, e) :: ds, vs, h => by
    simp only [RepK] at h ⊢
    obtain ⟨u, v, vs', e1, r1, r2, r3⟩ := h
    exact ⟨u, v, vs', e1, RepV.mono k d u r1, RepV.mono k e v r2, RepK.mono k ds vs' r3⟩
end
theorem RepL.nil : RepL P w K F H [] [] := by simp only [RepL]
theorem RepL.cons {d : D} {ds : List D} {v : V} {vs : List V} (h : RepV P w K F H d v) (t : RepL P w K F H ds vs) : RepL P w K F H (d :: ds) (v :: vs) := by
  simp only [RepL]; exact ⟨v, vs, rfl, h, t⟩
theorem RepL.length : ∀ {ds : List D} {vs : List V}, RepL P w K F H ds vs → ds.length = vs.length
  | [], vs, h => by simp only [RepL] at h; subst h; rfl
  | d :: ds, vs, h => by
    simp only [RepL] at h
    obtain ⟨v, vs', e, _, r⟩ := h
    subst e
    rw [List.length_cons, List.length_cons, RepL.length r]
theorem RepL.append : ∀ {ds es : List D} {vs us : List V}, RepL P w K F H ds vs → RepL P w K F H es us → RepL P w K F H (ds ++ es) (vs ++ us)
  | [], es, vs, us, h, g => by simp only [RepL] at h; subst h; exact g
  | d :: ds, es, vs, us, h, g => by
    simp only [RepL] at h
    obtain ⟨v, vs', e, r1, r⟩ := h
    subst e
    exact RepL.cons r1 (RepL.append r g)
theorem RepL.get : ∀ {ds : List D} {vs : List V} {i : Nat} {d : D}, RepL P w K F H ds vs → ds[i]? = some d → ∃ v, vs[i]? = some v ∧ RepV P w K F H d v
  | [], vs, i, d, h, e => by simp at e
  | d' :: ds, vs, i, d, h, e => by
    simp only [RepL] at h
    obtain ⟨v, vs', e1, r1, r⟩ := h
    subst e1
    cases i with
    | zero => simp at e; subst e; exact ⟨v, by simp, r1⟩
    | succ i => obtain ⟨u, e2, r2⟩ := RepL.get (i := i) (d := d) r (by simpa using e); exact ⟨u, by simpa using e2, r2⟩
theorem RepL.take : ∀ {ds : List D} {vs : List V} (n : Nat), RepL P w K F H ds vs → RepL P w K F H (ds.take n) (vs.take n)
  | [], vs, n, h => by simp only [RepL] at h; subst h; simp only [List.take_nil]; exact RepL.nil
  | d :: ds, vs, 0, h => by simp only [List.take_zero]; exact RepL.nil
  | d :: ds, vs, n + 1, h => by
    simp only [RepL] at h
    obtain ⟨v, vs', e1, r1, r⟩ := h
    subst e1
    simp only [List.take_succ_cons]; exact RepL.cons r1 (RepL.take n r)
theorem RepL.drop : ∀ {ds : List D} {vs : List V} (n : Nat), RepL P w K F H ds vs → RepL P w K F H (ds.drop n) (vs.drop n)
  | [], vs, n, h => by simp only [RepL] at h; subst h; simp only [List.drop_nil]; exact RepL.nil
  | d :: ds, vs, 0, h => by simp only [List.drop_zero]; exact h
  | d :: ds, vs, n + 1, h => by
    simp only [RepL] at h
    obtain ⟨v, vs', e1, r1, r⟩ := h
    subst e1
    simp only [List.drop_succ_cons]; exact RepL.drop n r
theorem RepL.set : ∀ {ds : List D} {vs : List V} (n : Nat) {d : D} {v : V}, RepL P w K F H ds vs → RepV P w K F H d v → RepL P w K F H (ds.set n d) (vs.set n v)
  | [], vs, n, d, v, h, g => by simp only [RepL] at h; subst h; simp only [List.set_nil]; exact RepL.nil
  | d' :: ds, vs, 0, d, v, h, g => by
    simp only [RepL] at h
    obtain ⟨v', vs', e1, r1, r⟩ := h
    subst e1
    simp only [List.set_cons_zero]; exact RepL.cons g r
  | d' :: ds, vs, n + 1, d, v, h, g => by
    simp only [RepL] at h
    obtain ⟨v', vs', e1, r1, r⟩ := h
    subst e1
    simp only [List.set_cons_succ]; exact RepL.cons r1 (RepL.set n r g)
end

abbrev Ctx.RV (Γ : Ctx) (F : Addr → Prop) (H : Hp) (d : D) (v : V) : Prop := RepV Γ.prog Γ.w Γ.K F H d v
abbrev Ctx.RL (Γ : Ctx) (F : Addr → Prop) (H : Hp) (d : List D) (v : List V) : Prop := RepL Γ.prog Γ.w Γ.K F H d v
abbrev Ctx.RK (Γ : Ctx) (F : Addr → Prop) (H : Hp) (d : List (D × D)) (v : List (V × Int × V)) : Prop := RepK Γ.prog Γ.w Γ.K F H d v
/-- what may be changed, at a -/
def Top (Γ : Ctx) (F : Addr → Prop) (H : Hp) (d : D) (a : Addr) : Prop := match d with
  | .list ds => ∃ xs, H a = some (.lst xs) ∧ xs.length ≤ sizeLine ∧ Γ.RL F H ds xs
  | .dict kvs => ∃ es, H a = some (dctO a es) ∧ Γ.RK F H kvs es
  | _ => False
/-- what is read, now -/
def RepR (Γ : Ctx) (F : Addr → Prop) (H : Hp) (d : D) (v : V) : Prop := match d with
  | .list ds => ∃ a xs, v = .ref a ∧ SqL Γ.K H a xs ∧ xs.length ≤ sizeLine ∧ Γ.RL F H ds xs
  | .dict kvs => ∃ a es, v = .ref a ∧ H a = some (dctO a es) ∧ Γ.RK F H kvs es
  | d => Γ.RV F H d v
section
variable {Γ : Ctx} {F F' F'' : Addr → Prop} {H H' H'' : Hp} {d : D} {v : V} {a : Addr}
theorem RepR.of (h : Γ.RV F H d v) : RepR Γ F H d v := by
  cases d with
  | list ds =>
    simp only [RepV] at h
    obtain ⟨a, xs, e, l, z, r⟩ := h
    exact ⟨a, xs, e, l.sq, z, r⟩
  | dict kvs =>
    simp only [RepV] at h
    obtain ⟨a, es, e, f, l, r⟩ := h
    exact ⟨a, es, e, l, r⟩
  | _ => exact h
theorem RepR.top (h : Top Γ F H d a) : RepR Γ F H d (.ref a) := by
  cases d with
  | list ds =>
    obtain ⟨xs, e, z, r⟩ := h
    exact ⟨a, xs, rfl, .of e, z, r⟩
  | dict kvs =>
    obtain ⟨es, e, r⟩ := h
    exact ⟨a, es, rfl, e, r⟩
  | _ => exact h.elim
theorem Top.mut (h : Top Γ F H d a) : isMut d = true := by
  cases d <;> first | rfl | exact h.elim
theorem Top.some (h : Top Γ F H d a) : NTo H a := by
  cases d with
  | list ds =>
    obtain ⟨xs, e, z, r⟩ := h
    exact ⟨_, e, fun _ e => HO.noConfusion e⟩
  | dict kvs =>
    obtain ⟨es, e, r⟩ := h
    exact ⟨_, e, fun _ e => HO.noConfusion e⟩
  | _ => exact h.elim
theorem Top.mono (k : Fk F H F' H') (e : H' a = H a) (h : Top Γ F H d a) : Top Γ F' H' d a := by
  cases d with
  | list ds =>
    obtain ⟨xs, q, z, r⟩ := h
    exact ⟨xs, e.trans q, z, RepL.mono k _ _ r⟩
  | dict kvs =>
    obtain ⟨es, q, r⟩ := h
    exact ⟨es, e.trans q, RepK.mono k _ _ r⟩
  | _ => exact h.elim
/-- frozen -/
theorem Top.rep (h : Top Γ F H d a) (f : F a) : Γ.RV F H d (.ref a) := by
  cases d with
  | list ds =>
    obtain ⟨xs, q, z, r⟩ := h
    simp only [RepV]
    exact ⟨a, xs, rfl, .inl ⟨f, q⟩, z, r⟩
  | dict kvs =>
    obtain ⟨es, q, r⟩ := h
    simp only [RepV]
    exact ⟨a, es, rfl, f, q, r⟩
  | _ => exact h.elim
end

/-! ### the slots -/
def OwnAt (σ : L2.St) (ρ : AE) (i : Nat) (a : Addr) : Prop := σ[i]? = some (some (.ref a)) ∧ ∃ d, ρ[i]? = some (.own d) ∨ ρ[i]? = some (.ino d)
structure RepS (Γ : Ctx) (F : Addr → Prop) (H : Hp) (σ : L2.St) (ρ : AE) : Prop where
  len : ρ.length = σ.length
  val : ∀ (i : Nat) d, ρ[i]? = some (.val d) → ∃ v, σ[i]? = some (some v) ∧ Γ.RV F H d v
  own : ∀ (i : Nat) d, ρ[i]? = some (.own d) → ∃ a, σ[i]? = some (some (.ref a)) ∧ ¬ F a ∧ Γ.H0 a = none ∧ Top Γ F H d a
  ino : ∀ (i : Nat) d, ρ[i]? = some (.ino d) → ∃ a, σ[i]? = some (some (.ref a)) ∧ ¬ F a ∧ Γ.ino i = some a ∧ Top Γ F H d a
  dis : ∀ (i j : Nat) a, OwnAt σ ρ i a → OwnAt σ ρ j a → i = j
  exn : ∀ i : Nat, ρ[i]? = some .exn → ∃ a, Γ.xa = some a ∧ σ[i]? = some (some (.ref a))
structure GInv (Γ : Ctx) (F : Addr → Prop) (H : Hp) : Prop where
  tr : ∀ a, F a → NTo H a
  fn : ∀ a, F a → Γ.F0 a ∨ Γ.H0 a = none
  f0 : ∀ a, Γ.F0 a → F a
  kp : ∀ a o, Γ.H0 a = some o → (∀ i, Γ.ino i ≠ some a) → (∀ ps, o ≠ .tbl ps) → H a = some o
  th : ∀ a, Γ.H0 a ≠ none → NTo H a
  io : ∀ i a, Γ.ino i = some a → Γ.H0 a ≠ none
  ni : ∀ i a, Γ.ino i = some a → ¬ F a
  tb : Tabs Γ.T H
section
variable {Γ : Ctx} {F F' F'' : Addr → Prop} {H H' H'' : Hp} {d : D} {v : V} {a : Addr} {σ : L2.St} {ρ : AE}
theorem RepS.exnA (S : RepS Γ F H σ ρ) {i : Nat} {s : Slot} (hs : s ≠ .exn) : ∀ j : Nat, (ρ.set i s)[j]? = some .exn → ∃ a, Γ.xa = some a ∧ σ[j]? = some (some (.ref a)) := fun j h => by
  by_cases hj : j = i
  · subst hj
    have hl := (List.getElem?_eq_some_iff.mp h).1
    rw [List.length_set] at hl
    rw [List.getElem?_set_self hl] at h
    exact absurd (Option.some.inj h) hs
  · rw [List.getElem?_set_ne (Ne.symm hj)] at h
    exact S.exn j h
theorem RepS.exnB (S : RepS Γ F H σ ρ) {i : Nat} {s : Slot} {v : Option V} (hs : s ≠ .exn) : ∀ j : Nat, (ρ.set i s)[j]? = some .exn → ∃ a, Γ.xa = some a ∧ (σ.set i v)[j]? = some (some (.ref a)) := fun j h => by
  by_cases hj : j = i
  · subst hj
    have hl := (List.getElem?_eq_some_iff.mp h).1
    rw [List.length_set] at hl
    rw [List.getElem?_set_self hl] at h
    exact absurd (Option.some.inj h) hs
  · rw [List.getElem?_set_ne (Ne.symm hj)] at h
    rw [List.getElem?_set_ne (Ne.symm hj)]
    exact S.exn j h
theorem RepS.at_ (S : RepS Γ F H σ ρ) {i : Nat} (o : OwnAt σ ρ i a) : ¬ F a ∧ NTo H a := by
  obtain ⟨e, d, h | h⟩ := o
  · obtain ⟨b, e', f, _, t⟩ := S.own i d h
    rw [e] at e'; cases e'
    exact ⟨f, t.some⟩
  · obtain ⟨b, e', f, _, t⟩ := S.ino i d h
    rw [e] at e'; cases e'
    exact ⟨f, t.some⟩
/-- the heap grew: nothing that the slots hold changed -/
theorem RepS.mono (S : RepS Γ F H σ ρ) (k : Fk F H F' H') (hk : ∀ i a, OwnAt σ ρ i a → H' a = H a ∧ ¬ F' a) : RepS Γ F' H' σ ρ where
  len := S.len
  val := fun i d h => let ⟨v, e, r⟩ := S.val i d h; ⟨v, e, r.mono k⟩
  own := fun i d h => by
    obtain ⟨a, e, f, z, t⟩ := S.own i d h
    obtain ⟨q1, q2⟩ := hk i a ⟨e, d, .inl h⟩
    exact ⟨a, e, q2, z, t.mono k q1⟩
  ino := fun i d h => by
    obtain ⟨a, e, f, z, t⟩ := S.ino i d h
    obtain ⟨q1, q2⟩ := hk i a ⟨e, d, .inr h⟩
    exact ⟨a, e, q2, z, t.mono k q1⟩
  dis := S.dis
  exn := S.exn
theorem RepS.ext (S : RepS Γ F H σ ρ) (tr : ∀ a, F a → NTo H a) (e : Ext H H') : RepS Γ F H' σ ρ := S.mono (Fk.ext tr e) fun i a o => by
  obtain ⟨q1, q2⟩ := S.at_ o
  obtain ⟨u, q, _⟩ := q2
  exact ⟨by rw [q]; exact e a u q, q1⟩
/-- a thing that no slot owns is frozen -/
theorem RepS.froze (S : RepS Γ F H σ ρ) {p : Addr} (hp : ∀ i, ¬ OwnAt σ ρ i p) : RepS Γ (fun b => F b ∨ b = p) H σ ρ := S.mono (Fk.grow fun _ h => .inl h) fun i a o => ⟨rfl, fun z => by
  rcases z with z | z
  · exact (S.at_ o).1 z
  · subst z; exact hp i o⟩
theorem GInv.ext (G : GInv Γ F H) (e : Ext H H') : GInv Γ F H' where
  tr := fun a f => (G.tr a f).ext e
  fn := G.fn
  f0 := G.f0
  kp := fun a o h1 h2 h3 => e a o (G.kp a o h1 h2 h3)
  th := fun a h => (G.th a h).ext e
  io := G.io
  ni := G.ni
  tb := G.tb.ext e
theorem GInv.froze (G : GInv Γ F H) {p : Addr} (hp : NTo H p) (h0 : Γ.H0 p = none) : GInv Γ (fun b => F b ∨ b = p) H where
  tr := fun a f => by
    rcases f with f | f
    · exact G.tr a f
    · subst f; exact hp
  fn := fun a f => by
    rcases f with f | f
    · exact G.fn a f
    · subst f; exact .inr h0
  f0 := fun a f => .inl (G.f0 a f)
  kp := G.kp
  th := G.th
  io := G.io
  ni := fun i a h f => f.elim (G.ni i a h) fun e => G.io i a h (by rw [e]; exact h0)
  tb := G.tb
/-- what may be written over -/
def Soft (p : Addr) (o : HO) : Prop := (∀ ps, o ≠ .tbl ps) ∧ (∀ q, o ≠ CodeO p q) ∧ (∀ xs, o ≠ .tup xs) ∧ ∀ u o', o ≠ .frz u o'
theorem soft_lst {p : Addr} {xs : List V} : Soft p (.lst xs) := ⟨fun _ e => HO.noConfusion e, fun _ e => HO.noConfusion e, fun _ e => HO.noConfusion e, fun _ _ e => HO.noConfusion e⟩
theorem tabs_put {T : List (Addr × Str)} {p : Addr} {o u : HO} (t : Tabs T H) (hp : H p = some o) (hs : Soft p o) : Tabs T (upd H p u) := fun q hq => by
  obtain ⟨ps, h1, h2, h3⟩ := t q hq
  have n1 : q.1 ≠ p := fun e => hs.1 ps (by rw [e, hp] at h1; exact Option.some.inj h1)
  refine ⟨ps, by rw [upd_ne n1]; exact h1, h2, fun pos cv hc => ?_⟩
  obtain ⟨ct, e1, e2⟩ := h3 pos cv hc
  refine ⟨ct, e1, ?_⟩
  have n2 : ct ≠ p := fun e => hs.2.1 q.2 (by rw [e, hp] at e2; exact Option.some.inj e2)
  rw [upd_ne n2]; exact e2
theorem Fk.put {p : Addr} {o u : HO} (hF : ¬ F p) (hp : H p = some o) (hs : Soft p o) : Fk F H F (upd H p u) := ⟨fun _ h => h, fun a f => upd_ne fun e => hF (e ▸ f), fun a xs h => by
  rw [upd_ne (fun e => hs.2.2.1 xs (by rw [e, hp] at h; exact Option.some.inj h))]; exact h, fun a x y h => by
  rw [upd_ne (fun e => hs.2.2.2 x y (by rw [e, hp] at h; exact Option.some.inj h))]; exact h⟩
theorem GInv.put (G : GInv Γ F H) {p : Addr} {o u : HO} (hF : ¬ F p) (h0 : Γ.H0 p = none ∨ ∃ i, Γ.ino i = some p) (hp : H p = some o) (hs : Soft p o) (hu : ∀ ps, u ≠ .tbl ps) : GInv Γ F (upd H p u) where
  tr := fun a f => by
    obtain ⟨v, e, n⟩ := G.tr a f
    exact ⟨v, by rw [upd_ne (fun (e : a = p) => hF (e ▸ f))]; exact e, n⟩
  fn := G.fn
  f0 := G.f0
  kp := fun a v h1 h2 h3 => by
    have n : a ≠ p := fun e => by
      subst e
      rcases h0 with h0 | ⟨i, h0⟩
      · rw [h0] at h1; cases h1
      · exact h2 i h0
    rw [upd_ne n]
    exact G.kp a v h1 h2 h3
  th := fun a h => by
    by_cases e : a = p
    · exact ⟨u, by rw [e]; exact upd_same, hu⟩
    · obtain ⟨v, q, n⟩ := G.th a h
      exact ⟨v, by rw [upd_ne e]; exact q, n⟩
  io := G.io
  ni := G.ni
  tb := tabs_put G.tb hp hs
theorem GInv.fresh (G : GInv Γ F H) {p : Addr} (hp : H p = none) : ¬ F p ∧ Γ.H0 p = none := by
  refine ⟨fun f => (G.tr p f).ne hp, ?_⟩
  cases q : Γ.H0 p with
  | none => rfl
  | some o => exact absurd hp (G.th p (by rw [q]; simp)).ne
end

/-! ### outcomes -/
def Out (Γ : Ctx) (W : WX) {α : Type} (r : Res α) (F : Addr → Prop) (H : Hp) (σ : L2.St) (k : α → AE → (Addr → Prop) → Hp → Prop) : Prop := match r with
  | .ok a ρ' => ∀ F' H', Fk F H F' H' → GInv Γ F' H' → RepS Γ F' H' σ ρ' → k a ρ' F' H'
  | .exc c => ∀ F' H', Fk F H F' H' → GInv Γ F' H' → W (Γ.cls c) none σ H'
  | .stuck => False
/-- a value as it is handed on -/
def ResOk (Γ : Ctx) (F : Addr → Prop) (H : Hp) (σ : L2.St) (ρ : AE) (p : D × Bool) (v : V) : Prop :=
  if (p.2 && isMut p.1) = true then ∃ a, v = .ref a ∧ ¬ F a ∧ Γ.H0 a = none ∧ (∀ i, ¬ OwnAt σ ρ i a) ∧ Top Γ F H p.1 a else Γ.RV F H p.1 v
def RepB (Γ : Ctx) (F : Addr → Prop) (H : Hp) (σ : L2.St) (p : D × Option Nat) (v : V) : Prop := match p.2 with
  | none => Γ.RV F H p.1 v
  | some i => σ[i]? = some (some v)
def tD (Γ : Ctx) (W : WX) (f : EvE) : TE := fun σ H Q => ∃ F ρ, GInv Γ F H ∧ RepS Γ F H σ ρ ∧ Out Γ W (f ρ) F H σ fun p ρ' F' H' => ∀ v, ResOk Γ F' H' σ ρ' p v → Q v H'
def tO (Γ : Ctx) (W : WX) (f : EvO) : TE := fun σ H Q => ∃ F ρ, GInv Γ F H ∧ RepS Γ F H σ ρ ∧ Out Γ W (f ρ) F H σ fun p ρ' F' H' => ∀ v, RepB Γ F' H' σ p v → still p.2 p.1 ρ' = true → Q v H'
def tT (Γ : Ctx) (W : WX) (f : EvT) : TT := fun σ H Q => ∃ F ρ, GInv Γ F H ∧ RepS Γ F H σ ρ ∧ Out Γ W (f ρ) F H σ fun b _ _ H' => Q b H'
section
variable {Γ : Ctx} {W : WX} {F F' F'' : Addr → Prop} {H H' H'' : Hp} {d : D} {v : V} {a : Addr} {σ : L2.St} {ρ : AE}
theorem Out.imp {α : Type} {r : Res α} {k k' : α → AE → (Addr → Prop) → Hp → Prop} (h : Out Γ W r F H σ k)
    (i : ∀ a ρ' F' H', Fk F H F' H' → GInv Γ F' H' → RepS Γ F' H' σ ρ' → k a ρ' F' H' → k' a ρ' F' H') : Out Γ W r F H σ k' := by
  cases r with
  | ok a ρ' => exact fun F' H' q1 q2 q3 => i a ρ' F' H' q1 q2 q3 (h F' H' q1 q2 q3)
  | exc c => exact h
  | stuck => exact h
theorem Out.fk {α : Type} {r : Res α} {k : α → AE → (Addr → Prop) → Hp → Prop} (h : Out Γ W r F H σ k) (q : Fk F H F' H') : Out Γ W r F' H' σ k := by
  cases r with
  | ok a ρ' => exact fun F'' H'' q1 q2 q3 => h F'' H'' (q.trans q1) q2 q3
  | exc c => exact fun F'' H'' q1 q2 => h F'' H'' (q.trans q1) q2
  | stuck => exact h
theorem Out.bind {α β : Type} {r : Res α} {f : α → AE → Res β} {k : β → AE → (Addr → Prop) → Hp → Prop} (h : Out Γ W (r.bind f) F H σ k) :
    Out Γ W r F H σ fun a ρ' F' H' => Out Γ W (f a ρ') F' H' σ k := by
  cases r with
  | ok a ρ' => exact fun F' H' q1 q2 q3 => Out.fk (r := f a ρ') h q1
  | exc c => exact h
  | stuck => exact h
/-- the slot still holds it: it may be read -/
theorem RepS.read (S : RepS Γ F H σ ρ) {p : D × Option Nat} (h : RepB Γ F H σ p v) (hs : still p.2 p.1 ρ = true) : RepR Γ F H p.1 v := by
  obtain ⟨d, b⟩ := p
  cases b with
  | none => exact RepR.of h
  | some i =>
    have h : σ[i]? = some (some v) := h
    simp only [still] at hs
    split at hs
    · rename_i e he
      have := of_decide_eq_true hs
      subst this
      obtain ⟨a, e', _, _, t⟩ := S.own i _ he
      rw [h] at e'; cases e'
      exact RepR.top t
    · rename_i e he
      have := of_decide_eq_true hs
      subst this
      obtain ⟨a, e', _, _, t⟩ := S.ino i _ he
      rw [h] at e'; cases e'
      exact RepR.top t
    · rename_i e he
      have := of_decide_eq_true hs
      subst this
      obtain ⟨u, e', r⟩ := S.val i _ he
      rw [h] at e'; cases e'
      exact RepR.of r
    · cases hs
theorem RepB.mono {p : D × Option Nat} (k : Fk F H F' H') (h : RepB Γ F H σ p v) : RepB Γ F' H' σ p v := by
  obtain ⟨d, b⟩ := p
  cases b with
  | none => exact RepV.mono k _ _ (show Γ.RV F H d v from h)
  | some i => exact h
/-- a value that is handed on is frozen -/
theorem ResOk.froze {p : D × Bool} (G : GInv Γ F H) (S : RepS Γ F H σ ρ) (h : ResOk Γ F H σ ρ p v) :
    ∃ F', Fk F H F' H ∧ GInv Γ F' H ∧ RepS Γ F' H σ ρ ∧ Γ.RV F' H p.1 v := by
  unfold ResOk at h
  split at h
  · obtain ⟨a, rfl, nf, h0, no, t⟩ := h
    have k : Fk F H (fun b => F b ∨ b = a) H := Fk.grow fun _ h => .inl h
    exact ⟨_, k, G.froze t.some h0, S.froze no, (t.mono k rfl).rep (.inr rfl)⟩
  · exact ⟨F, Fk.refl, G, S, h⟩
end
/-- a weaker wish -/
theorem pe_imp {X : Cx} {e : Expr} {t t' : TE} (h : PE X e t) (i : ∀ σ H Q, t' σ H Q → t σ H Q) : PE X e t' := ⟨fun pins s σ H Q I q => h.run pins s σ H Q I (i σ H Q q)⟩
theorem pt_imp {X : Cx} {e : Expr} {t t' : TT} (h : PT X e t) (i : ∀ σ H Q, t' σ H Q → t σ H Q) : PT X e t' := ⟨fun pins s σ H Q I q => h.run pins s σ H Q I (i σ H Q q)⟩
theorem pw_imp {X : Cx} {e : Expr} {t t' : TT} (h : PW X e t) (i : ∀ σ H Q, t' σ H Q → t σ H Q) : PW X e t' := ⟨fun wh pins s σ H Q I q => h.run wh pins s σ H Q I (i σ H Q q)⟩
theorem pa_imp {X : Cx} {e : List Expr} {t t' : TA} (h : PA X e t) (i : ∀ σ H Q, t' σ H Q → t σ H Q) : PA X e t' := ⟨fun pos pins s σ H Q I q => h.run pos pins s σ H Q I (i σ H Q q)⟩
theorem ps_imp {X : Cx} {e : Stmt} {t t' : TS} (h : PS X e t) (i : ∀ D σ H, t' D σ H → t D σ H) : PS X e t' := ⟨fun pins s σ H D I q => h.run pins s σ H D I (i D σ H q)⟩
theorem pss_imp {X : Cx} {e : List Stmt} {t t' : TS} (h : PSs X e t) (i : ∀ D σ H, t' D σ H → t D σ H) : PSs X e t' := ⟨fun pins s σ H D I q => h.run pins s σ H D I (i D σ H q)⟩
end Ow

namespace Ow
open PySem PyProof.Rows PySem.Spec L2 LamX

structure Gd (Γ : Ctx) (X : Cx) (sc : Scope) (st : Str → Bool) (k : Nat) : Prop where
  prog : X.prog = Γ.prog
  w : X.w = Γ.w
  K : X.K = Γ.K
  mg : X.mg = Γ.mg
  base : X.base = Γ.base
  N : X.N = Γ.N
  nd : Γ.N.Nodup
  scp : X.env.scope = sc
  calm : Γ.hot = false → X.calm = true
  room : L2H.RoomH k X.A
  hd : Γ.hot = false → X.A.handled = none
  gd : Γ.gb = true → X.A.guards = some []
  st : ∀ x, st x = true → L2.Loc sc x ∧ (X.fn x = true ∨ sc.names.lookup x = some .local)

theorem Gd.rm {Γ : Ctx} {X : Cx} {sc : Scope} {st : Str → Bool} {k : Nat} (g : Gd Γ X sc st k) (hh : Γ.hot = false) : Room k X.A := ⟨g.hd hh, g.room.dp, g.room.un⟩
section
variable {Γ : Ctx} {W : WX} {F F' F'' : Addr → Prop} {H H' H'' : Hp} {d : D} {v : V} {a : Addr} {σ : L2.St} {ρ : AE}
theorem get_set_ne {ρ : AE} {i j : Nat} {s : Slot} (h : j ≠ i) : (ρ.set i s)[j]? = ρ[j]? := List.getElem?_set_ne (Ne.symm h)
theorem get_set_same {ρ : AE} {i : Nat} {s t : Slot} (h : ρ[i]? = some t) : (ρ.set i s)[i]? = some s := List.getElem?_set_self (List.getElem?_eq_some_iff.mp h).1
theorem RepS.frz (S : RepS Γ F H σ ρ) {i : Nat} (h : ρ[i]? = some (.own d)) (e : σ[i]? = some (some (.ref a))) : RepS Γ (fun b => F b ∨ b = a) H σ (ρ.set i (.val d)) := by
  have oi : OwnAt σ ρ i a := ⟨e, d, .inl h⟩
  have kk : Fk F H (fun b => F b ∨ b = a) H := Fk.grow fun _ z => .inl z
  have old : ∀ j, j ≠ i → ∀ b, OwnAt σ ρ j b → ¬ (F b ∨ b = a) := fun j hj b o z => by
    rcases z with z | z
    · exact (S.at_ o).1 z
    · subst z; exact hj (S.dis j i _ o oi)
  have back : ∀ j b, OwnAt σ (ρ.set i (.val d)) j b → j ≠ i ∧ OwnAt σ ρ j b := fun j b ⟨e1, d1, o⟩ => by
    by_cases hj : j = i
    · subst hj
      rw [get_set_same h] at o
      rcases o with o | o <;> cases o
    · rw [get_set_ne hj] at o
      exact ⟨hj, e1, d1, o⟩
  refine ⟨by rw [List.length_set]; exact S.len, fun j d1 h1 => ?_, fun j d1 h1 => ?_, fun j d1 h1 => ?_, fun j l b o1 o2 => S.dis j l b (back j b o1).2 (back l b o2).2, S.exnA (fun e => Slot.noConfusion e)⟩
  · by_cases hj : j = i
    · subst hj
      rw [get_set_same h] at h1
      cases h1
      obtain ⟨b, e', _, _, t⟩ := S.own j d h
      rw [e] at e'; cases e'
      exact ⟨_, e, (t.mono kk rfl).rep (.inr rfl)⟩
    · rw [get_set_ne hj] at h1
      obtain ⟨v, e1, r⟩ := S.val j d1 h1
      exact ⟨v, e1, r.mono kk⟩
  · by_cases hj : j = i
    · subst hj
      rw [get_set_same h] at h1
      cases h1
    · rw [get_set_ne hj] at h1
      obtain ⟨b, e1, f, z, t⟩ := S.own j d1 h1
      exact ⟨b, e1, old j hj b ⟨e1, d1, .inl h1⟩, z, t.mono kk rfl⟩
  · by_cases hj : j = i
    · subst hj
      rw [get_set_same h] at h1
      cases h1
    · rw [get_set_ne hj] at h1
      obtain ⟨b, e1, f, z, t⟩ := S.ino j d1 h1
      exact ⟨b, e1, old j hj b ⟨e1, d1, .inr h1⟩, z, t.mono kk rfl⟩
theorem resOk_plain (h : Γ.RV F H d v) : ResOk Γ F H σ ρ (d, false) v := by
  unfold ResOk
  rw [if_neg (by simp)]
  exact h
theorem resOk_flat {b : Bool} (hm : isMut d = false) (h : Γ.RV F H d v) : ResOk Γ F H σ ρ (d, b) v := by
  unfold ResOk
  rw [if_neg (by simp [hm])]
  exact h

/-! ### a result that is only laid -/
def Alc (Γ : Ctx) (F : Addr → Prop) (H : Hp) (p : D × Bool) (v : V) (H' : Hp) : Prop :=
  Ext H H' ∧ if (p.2 && isMut p.1) = true then ∃ a, v = .ref a ∧ H a = none ∧ Top Γ F H' p.1 a else Γ.RV F H' p.1 v
theorem Alc.res {p : D × Bool} (A : Alc Γ F H p v H') (G : GInv Γ F H) (S : RepS Γ F H σ ρ) : Fk F H F H' ∧ GInv Γ F H' ∧ RepS Γ F H' σ ρ ∧ ResOk Γ F H' σ ρ p v := by
  obtain ⟨e, h⟩ := A
  refine ⟨Fk.ext G.tr e, G.ext e, S.ext G.tr e, ?_⟩
  unfold ResOk
  split
  · rename_i hc
    rw [if_pos hc] at h
    obtain ⟨a, rfl, n, t⟩ := h
    obtain ⟨f1, f2⟩ := G.fresh n
    exact ⟨a, rfl, f1, f2, fun i o => (S.at_ o).2.ne n, t⟩
  · rename_i hc
    rw [if_neg hc] at h
    exact h
theorem Alc.plain (h : Γ.RV F H d v) : Alc Γ F H (d, false) v H := ⟨Ext.refl, by rw [if_neg (by simp)]; exact h⟩
theorem Alc.flat {b : Bool} (hm : isMut d = false) (h : Γ.RV F H d v) : Alc Γ F H (d, b) v H := ⟨Ext.refl, by rw [if_neg (by simp [hm])]; exact h⟩
theorem Alc.newList {p : Addr} {ds : List D} {xs : List V} (tr : ∀ a, F a → NTo H a) (hp : H p = none) (hz : xs.length ≤ sizeLine) (h : Γ.RL F H ds xs) : Alc Γ F H (.list ds, true) (.ref p) (upd H p (.lst xs)) := by
  refine ⟨Ext.upd hp, ?_⟩
  rw [if_pos (by rfl)]
  exact ⟨p, rfl, hp, xs, upd_same, hz, RepL.mono (Fk.ext tr (Ext.upd hp)) _ _ h⟩
theorem Alc.newTup {p : Addr} {ds : List D} {xs : List V} {b : Bool} (tr : ∀ a, F a → NTo H a) (hp : H p = none) (hz : xs.length ≤ sizeLine) (h : Γ.RL F H ds xs) : Alc Γ F H (.tuple ds, b) (.ref p) (upd H p (.tup xs)) := by
  refine ⟨Ext.upd hp, ?_⟩
  rw [if_neg (by simp [isMut])]
  simp only [RepV]
  exact ⟨p, xs, rfl, .of upd_same, hz, RepL.mono (Fk.ext tr (Ext.upd hp)) _ _ h⟩
end

/-! ### what an operation on values must do -/
/-- two operands, read, and the operation on data gives p: so does the operation on values -/
def Op2 (Γ : Ctx) (op : D → D → Option (D × Bool)) (r : R2) : Prop := ∀ (F : Addr → Prop) (H : Hp) (x y : V) (d e : D) (p : D × Bool) (Q : VK), (∀ a, F a → NTo H a) → RepR Γ F H d x → RepR Γ F H e y → op d e = some p →
  (∀ v H', Alc Γ F H p v H' → Q v H') → r x y H Q
def Op1 (Γ : Ctx) (op : D → Option (D × Bool)) (r : V → Hp → VK → Prop) : Prop := ∀ (F : Addr → Prop) (H : Hp) (x : V) (d : D) (p : D × Bool) (Q : VK), (∀ a, F a → NTo H a) → RepR Γ F H d x → op d = some p →
  (∀ v H', Alc Γ F H p v H' → Q v H') → r x H Q
/-- operands, read -/
def RepRs (Γ : Ctx) (F : Addr → Prop) (H : Hp) : List D → List V → Prop
  | [], vs => vs = []
  | d :: ds, vs => ∃ v us, vs = v :: us ∧ RepR Γ F H d v ∧ RepRs Γ F H ds us
def OpN (Γ : Ctx) (op : List D → Option (D × Bool)) (r : List V → Hp → VK → Prop) : Prop := ∀ (F : Addr → Prop) (H : Hp) (xs : List V) (ds : List D) (p : D × Bool) (Q : VK), (∀ a, F a → NTo H a) → RepRs Γ F H ds xs → op ds = some p →
  (∀ v H', Alc Γ F H p v H' → Q v H') → r xs H Q
/-- o.m(..): the receiver apart -/
def OpM (Γ : Ctx) (op : List D → Option (D × Bool)) (T : String) (r : V → List V → Hp → VK → Prop) : Prop := ∀ (F : Addr → Prop) (H : Hp) (x : V) (xs : List V) (d : D) (ds : List D) (p : D × Bool) (Q : VK), (∀ a, F a → NTo H a) → RepR Γ F H d x → RepRs Γ F H ds xs → op (d :: ds) = some p →
  (∀ v H', Alc Γ F H p v H' → Q v H') → tyV Γ.K T x H ∧ r x xs H Q

section
variable {Γ : Ctx} {X : Cx} {sc : Scope} {st : Str → Bool} {k : Nat} {W : WX} {a b c e : Expr} {pos : Pos}
/-! ### names -/
theorem de_var {i : Nat} {x : Str} (g : Gd Γ X sc st k) (hN : Γ.N[i]? = some x) (hv : Vis sc x) (hd : (x == ("__debug__" : Str)) = false) (hcd : (x == ("__classdict__" : Str)) = false) : PE X (.Name x pos) (tD Γ W (eVar i)) := by
  refine pe_imp (pe_var (i := i) (by rw [g.N]; exact hN) (by rw [g.scp]; exact hv) hd hcd) fun σ H Q h => ?_
  obtain ⟨F, ρ, G, S, O⟩ := h
  simp only [eVar] at O
  split at O
  · rename_i d hd'
    obtain ⟨v, e, r⟩ := S.val i d hd'
    exact ⟨v, e, O F H Fk.refl G S v (resOk_plain r)⟩
  · rename_i d hd'
    obtain ⟨a, e, f, z, t⟩ := S.own i d hd'
    have k' : Fk F H (fun b => F b ∨ b = a) H := Fk.grow fun _ z => .inl z
    exact ⟨_, e, O _ H k' (G.froze t.some z) (S.frz hd' e) _ (resOk_plain ((t.mono k' rfl).rep (.inr rfl)))⟩
  · exact O.elim
theorem do_var {i : Nat} {x : Str} (g : Gd Γ X sc st k) (hN : Γ.N[i]? = some x) (hv : Vis sc x) (hd : (x == ("__debug__" : Str)) = false) (hcd : (x == ("__classdict__" : Str)) = false) : PE X (.Name x pos) (tO Γ W (oVar i)) := by
  refine pe_imp (pe_var (i := i) (by rw [g.N]; exact hN) (by rw [g.scp]; exact hv) hd hcd) fun σ H Q h => ?_
  obtain ⟨F, ρ, G, S, O⟩ := h
  simp only [oVar] at O
  split at O
  · rename_i d hd'
    obtain ⟨v, e, r⟩ := S.val i d hd'
    exact ⟨v, e, O F H Fk.refl G S v r rfl⟩
  · rename_i d hd'
    obtain ⟨a, e, f, z, t⟩ := S.own i d hd'
    exact ⟨_, e, O F H Fk.refl G S _ e (by simp only [still, hd']; simp)⟩
  · rename_i d hd'
    obtain ⟨a, e, f, z, t⟩ := S.ino i d hd'
    exact ⟨_, e, O F H Fk.refl G S _ e (by simp only [still, hd']; simp)⟩
  · exact O.elim
theorem do_of {f : EvE} (h : PE X e (tD Γ W f)) : PE X e (tO Γ W (oOf f)) := by
  refine pe_imp h fun σ H Q h => ?_
  obtain ⟨F, ρ, G, S, O⟩ := h
  refine ⟨F, ρ, G, S, (Out.bind O).imp fun p ρ' F' H' k' G' S' O' v r => ?_⟩
  obtain ⟨F2, k2, G2, S2, r2⟩ := r.froze G' S'
  exact O' F2 H' k2 G2 S2 v r2 rfl
/-! ### constants -/
theorem tC_of {u : V} {d : D} (hr : ∀ F H, Γ.RV F H d u) : ∀ σ H (Q : VK), tD Γ W (eCon d) σ H Q → tC u σ H Q := fun σ H Q ⟨F, ρ, G, S, O⟩ =>
  O F H Fk.refl G S u (resOk_plain (hr F H))
theorem de_int {i j} : PE X (.Constant (.int i) j pos) (tD Γ W (eCon (.int i))) := pe_imp pe_int (tC_of fun F H => by simp only [RepV])
theorem de_bool {i j} : PE X (.Constant (.bool i) j pos) (tD Γ W (eCon (.bool i))) := pe_imp pe_bl (tC_of fun F H => by simp only [RepV])
theorem de_none {j} : PE X (.Constant .none j pos) (tD Γ W (eCon .none)) := pe_imp pe_non (tC_of fun F H => by simp only [RepV])
theorem de_str {x j} : PE X (.Constant (.str x) j pos) (tD Γ W (eCon (.str x))) := pe_imp pe_str (tC_of fun F H => by simp only [RepV])
theorem de_glob {x : Str} {u : V} {val : Value} {d : D} (g : Gd Γ X sc st k) (hg : sc.names.lookup x = some .globalImplicit) (hm : Γ.mg x = some val) (r : RelV u val) (hr : ∀ F H, Γ.RV F H d u) (hd : (x == ("__debug__" : Str)) = false) : PE X (.Name x pos) (tD Γ W (eCon d)) :=
  pe_imp (pe_glob (by show X.env.scope.names.lookup x = _; rw [g.scp]; exact hg) (by rw [g.mg]; exact hm) r hd) (tC_of hr)
/-! ### two operands -/
theorem de_two {fa fb : EvO} {op : D → D → Option (D × Bool)} {r : R2} (hop : Op2 Γ op r) : ∀ σ H (Q : VK), tD Γ W (eBin op fa fb) σ H Q → tOp r (tO Γ W fa) (tO Γ W fb) σ H Q := fun σ H Q ⟨F, ρ, G, S, O⟩ => by
  refine ⟨F, ρ, G, S, (Out.bind O).imp fun p ρ1 F1 H1 k1 G1 S1 O1 x hx sx => ?_⟩
  refine ⟨F1, ρ1, G1, S1, (Out.bind O1).imp fun q ρ2 F2 H2 k2 G2 S2 O2 y hy sy => ?_⟩
  by_cases hs : still p.2 p.1 ρ2 = true
  · rw [if_pos hs] at O2
    cases ho : op p.1 q.1 with
    | none => rw [ho] at O2; exact O2.elim
    | some z =>
      rw [ho] at O2
      refine hop F2 H2 x y p.1 q.1 z Q G2.tr (S2.read (hx.mono k2) hs) (S2.read hy sy) ho fun v H' A => ?_
      obtain ⟨q1, q2, q3, q4⟩ := A.res G2 S2
      exact O2 F2 H' q1 q2 q3 v q4
  · rw [if_neg hs] at O2
    exact O2.elim
theorem de_one {fa : EvO} {op : D → Option (D × Bool)} {r : V → Hp → VK → Prop} (hop : Op1 Γ op r) : ∀ σ H (Q : VK), tD Γ W (eUn op fa) σ H Q → tUn r (tO Γ W fa) σ H Q := fun σ H Q ⟨F, ρ, G, S, O⟩ => by
  refine ⟨F, ρ, G, S, (Out.bind O).imp fun p ρ1 F1 H1 k1 G1 S1 O1 x hx sx => ?_⟩
  cases ho : op p.1 with
  | none => rw [ho] at O1; exact O1.elim
  | some z =>
    rw [ho] at O1
    refine hop F1 H1 x p.1 z Q G1.tr (S1.read hx sx) ho fun v H' A => ?_
    obtain ⟨q1, q2, q3, q4⟩ := A.res G1 S1
    exact O1 F1 H' q1 q2 q3 v q4
theorem de_binop {fa fb : EvO} {op : D → D → Option (D × Bool)} {r : R2} {o : Operator} (ho : OpR X (binaryOp o) r) (hop : Op2 Γ op r) (ha : PE X a (tO Γ W fa)) (hb : PE X b (tO Γ W fb)) : PE X (.BinOp a o b pos) (tD Γ W (eBin op fa fb)) :=
  pe_imp (pe_op ho ha hb) (de_two hop)
theorem de_unop {fa : EvO} {op : D → Option (D × Bool)} {r : V → Hp → VK → Prop} {o : UnaryOp} (ho : UnR X (unaryOp o) r) (hop : Op1 Γ op r) (ha : PE X a (tO Γ W fa)) : PE X (.UnaryOp o a pos) (tD Γ W (eUn op fa)) :=
  pe_imp (pe_un ho ha) (de_one hop)
theorem de_cmp {fa fb : EvO} {op : D → D → Option (D × Bool)} {r : R2} {o : CmpOp} (ho : OpR X (compareOp o) r) (hop : Op2 Γ op r) (ha : PE X a (tO Γ W fa)) (hb : PE X b (tO Γ W fb)) (hm : behindInMarks o b = false) : PE X (.Compare a [o] [b] pos) (tD Γ W (eBin op fa fb)) :=
  pe_imp (pe_cmpR ho ha hb hm) (de_two hop)
theorem de_ix {fa fb : EvO} {op : D → D → Option (D × Bool)} {r : R2} (ho : IxR X r) (hop : Op2 Γ op r) (ha : PE X a (tO Γ W fa)) (hb : PE X b (tO Γ W fb)) (hs : PlainIx b) : PE X (.Subscript a b pos) (tD Γ W (eBin op fa fb)) :=
  pe_imp (pe_ix ho ha hb hs) (de_two hop)
theorem chain_imp {fa fb fc : EvO} {op op' : D → D → Option (D × Bool)} {r r' : R2} (hop : Op2 Γ op r) (hop' : Op2 Γ op' r') : ∀ σ H (Q : VK), tD Γ W (eChain op op' fa fb fc) σ H Q → tChain r r' (tO Γ W fa) (tO Γ W fb) (tO Γ W fc) σ H Q := by
  intro σ H Q ⟨F, ρ, G, S, O⟩
  refine ⟨F, ρ, G, S, (Out.bind O).imp fun p ρ1 F1 H1 k1 G1 S1 O1 x hx sx => ?_⟩
  refine ⟨F1, ρ1, G1, S1, (Out.bind O1).imp fun q ρ2 F2 H2 k2 G2 S2 O2 y hy sy => ?_⟩
  by_cases hs : still p.2 p.1 ρ2 = true
  · rw [if_pos hs] at O2
    cases hop1 : op p.1 q.1 with
    | none => rw [hop1] at O2; exact O2.elim
    | some z =>
      rw [hop1] at O2
      refine hop F2 H2 x y p.1 q.1 z _ G2.tr (S2.read (hx.mono k2) hs) (S2.read hy sy) hop1 fun v H' A => ?_
      obtain ⟨zd, zb⟩ := z
      have A' := A
      obtain ⟨e3, h3⟩ := A'
      obtain ⟨q1, q2, q3, q4⟩ := A.res G2 S2
      cases zd with
      | bool t =>
        rw [if_neg (by simp [isMut])] at h3
        simp only [RepV] at h3
        subst h3
        refine ⟨t, rfl, ?_⟩
        cases t with
        | true =>
          rw [if_pos rfl]
          refine ⟨F2, ρ2, q2, q3, (Out.bind (Out.fk O2 q1)).imp fun s ρ3 F3 H3 k3 G3 S3 O3 u hu su => ?_⟩
          by_cases hs3 : still q.2 q.1 ρ3 = true
          · rw [if_pos hs3] at O3
            cases hop2 : op' q.1 s.1 with
            | none => rw [hop2] at O3; exact O3.elim
            | some z2 =>
              rw [hop2] at O3
              refine hop' F3 H3 y u q.1 s.1 z2 Q G3.tr (S3.read ((hy.mono q1).mono k3) hs3) (S3.read hu su) hop2 fun v H4 A4 => ?_
              obtain ⟨p1, p2, p3, p4⟩ := A4.res G3 S3
              exact O3 F3 H4 p1 p2 p3 v p4
          · rw [if_neg hs3] at O3
            exact O3.elim
        | false =>
          rw [if_neg (by simp)]
          exact O2 F2 H' q1 q2 q3 _ (resOk_plain (by simp only [RepV]))
      | _ => exact O2.elim
  · rw [if_neg hs] at O2
    exact O2.elim
theorem de_chain {fa fb fc : EvO} {op op' : D → D → Option (D × Bool)} {r r' : R2} {o o' : CmpOp} (ho : OpR X (compareOp o) r) (ho' : OpR X (compareOp o') r') (hop : Op2 Γ op r) (hop' : Op2 Γ op' r') (ha : PE X a (tO Γ W fa)) (hb : PE X b (tO Γ W fb)) (hc : PE X c (tO Γ W fc))
    (hm : lastMarks [o, o'] [b, c] = false) : PE X (.Compare a [o, o'] [b, c] pos) (tD Γ W (eChain op op' fa fb fc)) := pe_imp (pe_chain ho ho' ha hb hc hm) (chain_imp hop hop')
/-! ### tests -/
theorem dt_val {f : EvE} (h : PE X e (tD Γ W f)) (he : ∀ whole, isTrue e X.env whole = (do let v ← whole; standAt e.pos; holding [v] (truthy v))) : PT X e (tT Γ W (tVal f)) := by
  refine pt_imp (pt_val h he) fun σ H Q ⟨F, ρ, G, S, O⟩ => ?_
  refine ⟨F, ρ, G, S, (Out.bind O).imp fun p ρ1 F1 H1 k1 G1 S1 O1 x hx => ?_⟩
  obtain ⟨zd, zb⟩ := p
  cases zd with
  | bool t =>
    unfold ResOk at hx
    rw [if_neg (by simp [isMut])] at hx
    simp only [RepV] at hx
    exact ⟨t, hx, O1 F1 H1 Fk.refl G1 S1⟩
  | _ => exact O1.elim
theorem dt_bool {t : TE} {f : EvE} (h : PT X e (tTest t)) (i : ∀ σ H (Q : VK), tD Γ W f σ H Q → t σ H Q) : PT X e (tT Γ W (tVal f)) := by
  refine pt_imp h fun σ H Q ⟨F, ρ, G, S, O⟩ => i σ H _ ?_
  refine ⟨F, ρ, G, S, (Out.bind O).imp fun p ρ1 F1 H1 k1 G1 S1 O1 x hx => ?_⟩
  obtain ⟨zd, zb⟩ := p
  cases zd with
  | bool t =>
    unfold ResOk at hx
    rw [if_neg (by simp [isMut])] at hx
    simp only [RepV] at hx
    exact ⟨t, hx, O1 F1 H1 Fk.refl G1 S1⟩
  | _ => exact O1.elim
theorem dt_cmp {fa fb : EvO} {op : D → D → Option (D × Bool)} {r : R2} {o : CmpOp} (ho : OpR X (compareOp o) r) (hop : Op2 Γ op r) (ha : PE X a (tO Γ W fa)) (hb : PE X b (tO Γ W fb)) (hm : behindInMarks o b = false) : PT X (.Compare a [o] [b] pos) (tT Γ W (tVal (eBin op fa fb))) := dt_bool (pt_cmpR ho ha hb hm) (de_two hop)
theorem dt_chain {fa fb fc : EvO} {op op' : D → D → Option (D × Bool)} {r r' : R2} {o o' : CmpOp} (ho : OpR X (compareOp o) r) (ho' : OpR X (compareOp o') r') (hop : Op2 Γ op r) (hop' : Op2 Γ op' r') (ha : PE X a (tO Γ W fa)) (hb : PE X b (tO Γ W fb)) (hc : PE X c (tO Γ W fc)) (hm : lastMarks [o, o'] [b, c] = false) :
    PT X (.Compare a [o, o'] [b, c] pos) (tT Γ W (tVal (eChain op op' fa fb fc))) := dt_bool (pt_chain ho ho' ha hb hc hm) (chain_imp hop hop')
theorem dt_not {f : EvT} (h : PT X a (tT Γ W f)) : PT X (.UnaryOp .Not a pos) (tT Γ W (tNot1 f)) := by
  refine pt_imp (pt_not h) fun σ H Q ⟨F, ρ, G, S, O⟩ => ?_
  exact ⟨F, ρ, G, S, (Out.bind O).imp fun p ρ1 F1 H1 k1 G1 S1 O1 => O1 F1 H1 Fk.refl G1 S1⟩
theorem dw_and {rest : List Expr} {f g : EvT} (ha : PT X a (tT Γ W f)) (hb : PW X (.BoolOp .And (b :: rest) pos) (tT Γ W g)) : PW X (.BoolOp .And (a :: b :: rest) pos) (tT Γ W (tAnd2 f g)) := by
  refine pw_imp (pw_and ha hb) fun σ H Q ⟨F, ρ, G, S, O⟩ => ?_
  refine ⟨F, ρ, G, S, (Out.bind O).imp fun p ρ1 F1 H1 k1 G1 S1 O1 => ?_⟩
  cases p with
  | true => exact ⟨F1, ρ1, G1, S1, O1⟩
  | false => exact O1 F1 H1 Fk.refl G1 S1
theorem dw_or {rest : List Expr} {f g : EvT} (ha : PT X a (tT Γ W f)) (hb : PW X (.BoolOp .Or (b :: rest) pos) (tT Γ W g)) : PW X (.BoolOp .Or (a :: b :: rest) pos) (tT Γ W (tOr2 f g)) := by
  refine pw_imp (pw_or ha hb) fun σ H Q ⟨F, ρ, G, S, O⟩ => ?_
  refine ⟨F, ρ, G, S, (Out.bind O).imp fun p ρ1 F1 H1 k1 G1 S1 O1 => ?_⟩
  cases p with
  | false => exact ⟨F1, ρ1, G1, S1, O1⟩
  | true => exact O1 F1 H1 Fk.refl G1 S1
theorem de_and {rest : List Expr} {f g : EvE} (ha : PE X a (tD Γ W f)) (hb : PE X (.BoolOp .And (b :: rest) pos) (tD Γ W g)) : PE X (.BoolOp .And (a :: b :: rest) pos) (tD Γ W (eAnd2 f g)) := by
  refine pe_imp (pe_and ha hb) fun σ H Q ⟨F, ρ, G, S, O⟩ => ?_
  refine ⟨F, ρ, G, S, (Out.bind O).imp fun p ρ1 F1 H1 k1 G1 S1 O1 x hx => ?_⟩
  obtain ⟨zd, zb⟩ := p
  cases zd with
  | bool t =>
    unfold ResOk at hx
    rw [if_neg (by simp [isMut])] at hx
    simp only [RepV] at hx
    refine ⟨t, hx, ?_⟩
    cases t with
    | true => exact ⟨F1, ρ1, G1, S1, O1⟩
    | false => exact O1 F1 H1 Fk.refl G1 S1 _ (resOk_plain (by simp only [RepV]))
  | _ => exact O1.elim
theorem de_or {rest : List Expr} {f g : EvE} (ha : PE X a (tD Γ W f)) (hb : PE X (.BoolOp .Or (b :: rest) pos) (tD Γ W g)) : PE X (.BoolOp .Or (a :: b :: rest) pos) (tD Γ W (eOr2 f g)) := by
  refine pe_imp (pe_or ha hb) fun σ H Q ⟨F, ρ, G, S, O⟩ => ?_
  refine ⟨F, ρ, G, S, (Out.bind O).imp fun p ρ1 F1 H1 k1 G1 S1 O1 x hx => ?_⟩
  obtain ⟨zd, zb⟩ := p
  cases zd with
  | bool t =>
    unfold ResOk at hx
    rw [if_neg (by simp [isMut])] at hx
    simp only [RepV] at hx
    refine ⟨t, hx, ?_⟩
    cases t with
    | false => exact ⟨F1, ρ1, G1, S1, O1⟩
    | true => exact O1 F1 H1 Fk.refl G1 S1 _ (resOk_plain (by simp only [RepV]))
  | _ => exact O1.elim
theorem de_not {f : EvE} (ha : PE X a (tD Γ W f)) : PE X (.UnaryOp .Not a pos) (tD Γ W (eNot1 f)) := by
  refine pe_imp (pe_not ha) fun σ H Q ⟨F, ρ, G, S, O⟩ => ?_
  refine ⟨F, ρ, G, S, (Out.bind O).imp fun p ρ1 F1 H1 k1 G1 S1 O1 x hx => ?_⟩
  obtain ⟨zd, zb⟩ := p
  cases zd with
  | bool t =>
    unfold ResOk at hx
    rw [if_neg (by simp [isMut])] at hx
    simp only [RepV] at hx
    exact ⟨t, hx, O1 F1 H1 Fk.refl G1 S1 _ (resOk_plain (by simp only [RepV]))⟩
  | _ => exact O1.elim
theorem de_ite {t : EvT} {f g : EvE} (hc : PT X c (tT Γ W t)) (ha : PE X a (tD Γ W f)) (hb : PE X b (tD Γ W g)) : PE X (.IfExp c a b pos) (tD Γ W (eIte t f g)) := by
  refine pe_imp (pe_ifExp hc ha hb) fun σ H Q ⟨F, ρ, G, S, O⟩ => ?_
  refine ⟨F, ρ, G, S, (Out.bind O).imp fun p ρ1 F1 H1 k1 G1 S1 O1 => ?_⟩
  cases p with
  | true => exact ⟨F1, ρ1, G1, S1, O1⟩
  | false => exact ⟨F1, ρ1, G1, S1, O1⟩
/-! ### several -/
def tOs (Γ : Ctx) (W : WX) (fs : List EvO) : TA := fun σ H Q => ∃ F ρ, GInv Γ F H ∧ RepS Γ F H σ ρ ∧ Out Γ W (oList fs ρ) F H σ fun ps ρ' F' H' => ∀ vs, (stills ps ρ' = true → RepRs Γ F' H' (ps.map (·.1)) vs) → Q vs H'
def tEs (Γ : Ctx) (W : WX) (fs : List EvE) : TA := fun σ H Q => ∃ F ρ, GInv Γ F H ∧ RepS Γ F H σ ρ ∧ Out Γ W (eList fs ρ) F H σ fun ps ρ' F' H' => ∀ vs, Γ.RL F' H' ps vs → Q vs H'
theorem star1 {es : List Expr} {env : Env} (he : starEach (e :: es) env = (false, eval e env) :: starEach es env) : starEach (e :: es) env = (false, eval e env) :: starEach es env := he
theorem da_nil : PA X [] (tOs Γ W []) := pa_imp pa_nil fun σ H Q ⟨F, ρ, G, S, O⟩ => O F H Fk.refl G S [] fun _ => rfl
theorem da_cons {es : List Expr} {f : EvO} {fs : List EvO} (h : PE X e (tO Γ W f)) (hs : PA X es (tOs Γ W fs)) (hst : starEach (e :: es) X.env = (false, eval e X.env) :: starEach es X.env) : PA X (e :: es) (tOs Γ W (f :: fs)) := by
  refine pa_imp (pa_cons h hs hst) fun σ H Q ⟨F, ρ, G, S, O⟩ => ?_
  refine ⟨F, ρ, G, S, (Out.bind O).imp fun p ρ1 F1 H1 k1 G1 S1 O1 x hx sx => ?_⟩
  refine ⟨F1, ρ1, G1, S1, (Out.bind O1).imp fun ps ρ2 F2 H2 k2 G2 S2 O2 vs hvs => ?_⟩
  refine O2 F2 H2 Fk.refl G2 S2 (x :: vs) fun hst => ?_
  simp only [stills, Bool.and_eq_true] at hst
  exact ⟨x, vs, rfl, S2.read (hx.mono k2) hst.1, hvs hst.2⟩
theorem des_nil : PA X [] (tEs Γ W []) := pa_imp pa_nil fun σ H Q ⟨F, ρ, G, S, O⟩ => O F H Fk.refl G S [] RepL.nil
theorem des_cons {es : List Expr} {f : EvE} {fs : List EvE} (h : PE X e (tD Γ W f)) (hs : PA X es (tEs Γ W fs)) (hst : starEach (e :: es) X.env = (false, eval e X.env) :: starEach es X.env) : PA X (e :: es) (tEs Γ W (f :: fs)) := by
  refine pa_imp (pa_cons h hs hst) fun σ H Q ⟨F, ρ, G, S, O⟩ => ?_
  refine ⟨F, ρ, G, S, (Out.bind O).imp fun p ρ1 F1 H1 k1 G1 S1 O1 x hx => ?_⟩
  obtain ⟨F1', kk, G1', S1', r1⟩ := hx.froze G1 S1
  refine ⟨F1', ρ1, G1', S1', (Out.bind (Out.fk O1 kk)).imp fun ps ρ2 F2 H2 k2 G2 S2 O2 vs hvs => ?_⟩
  exact O2 F2 H2 Fk.refl G2 S2 (x :: vs) (RepL.cons (r1.mono k2) hvs)
theorem eList_length : ∀ {fs : List EvE} {ρ ρ' : AE} {ds : List D}, eList fs ρ = .ok ds ρ' → ds.length = fs.length
  | [], ρ, ρ', ds, h => by simp only [eList] at h; cases h; rfl
  | f :: fs, ρ, ρ', ds, h => by
    simp only [eList, Res.bind] at h
    split at h
    · split at h
      · rename_i h2
        cases h
        rw [List.length_cons, List.length_cons, eList_length h2]
      · cases h
      · cases h
    · cases h
    · cases h
theorem de_tup {es : List Expr} {x1 : Nat} {fs : List EvE} (h : PA X es (tEs Γ W fs)) (hz : fs.length ≤ sizeLine) : PE X (.Tuple es x1 pos) (tD Γ W (eTup fs)) := by
  refine pe_imp (pe_tup h) fun σ H Q ⟨F, ρ, G, S, O⟩ => ?_
  refine ⟨F, ρ, G, S, ?_⟩
  unfold eTup at O
  cases hl : eList fs ρ with
  | ok ds ρ' =>
    rw [hl] at O
    refine fun F1 H1 k1 G1 S1 vs hvs => ⟨?_, fun p hp => ?_⟩
    · rw [← hvs.length, eList_length hl]; exact hz
    · obtain ⟨q1, q2, q3, q4⟩ := (Alc.newTup (b := false) G1.tr hp (by rw [← hvs.length, eList_length hl]; exact hz) hvs).res G1 S1
      exact O F1 _ (k1.trans q1) q2 q3 _ q4
  | exc c => rw [hl] at O; exact O
  | stuck => rw [hl] at O; exact O
theorem de_lst {es : List Expr} {fs : List EvE} (h : PA X es (tEs Γ W fs)) (hz : fs.length ≤ sizeLine) : PE X (.List es pos) (tD Γ W (eLst fs)) := by
  refine pe_imp (pe_lst h) fun σ H Q ⟨F, ρ, G, S, O⟩ => ?_
  refine ⟨F, ρ, G, S, ?_⟩
  unfold eLst at O
  cases hl : eList fs ρ with
  | ok ds ρ' =>
    rw [hl] at O
    refine fun F1 H1 k1 G1 S1 vs hvs => ⟨?_, fun p hp => ?_⟩
    · rw [← hvs.length, eList_length hl]; exact hz
    · obtain ⟨q1, q2, q3, q4⟩ := (Alc.newList G1.tr hp (by rw [← hvs.length, eList_length hl]; exact hz) hvs).res G1 S1
      exact O F1 _ (k1.trans q1) q2 q3 _ q4
  | exc c => rw [hl] at O; exact O
  | stuck => rw [hl] at O; exact O
theorem de_ops {t : List V → Hp → VK → Prop} {fs : List EvO} {op : List D → Option (D × Bool)} (hop : OpN Γ op t) : ∀ σ H (Q : VK), tD Γ W (eOps op fs) σ H Q → (tOs Γ W fs) σ H fun vs H1 => t vs H1 Q := fun σ H Q ⟨F, ρ, G, S, O⟩ => by
  refine ⟨F, ρ, G, S, (Out.bind O).imp fun ps ρ1 F1 H1 k1 G1 S1 O1 vs hvs => ?_⟩
  by_cases hs : stills ps ρ1 = true
  · rw [if_pos hs] at O1
    cases ho : op (ps.map (·.1)) with
    | none => rw [ho] at O1; exact O1.elim
    | some z =>
      rw [ho] at O1
      refine hop F1 H1 vs _ z Q G1.tr (hvs hs) ho fun v H' A => ?_
      obtain ⟨q1, q2, q3, q4⟩ := A.res G1 S1
      exact O1 F1 H' q1 q2 q3 v q4
  · rw [if_neg hs] at O1
    exact O1.elim
end
end Ow

namespace Ow
open PySem PyProof.Rows PySem.Spec L2 LamX

/-- two values that are read, by data -/
def rOf (Γ : Ctx) (op : D → D → Option (D × Bool)) : R2 := fun x y H Q => ∃ F d e p, (∀ a, F a → NTo H a) ∧ RepR Γ F H d x ∧ RepR Γ F H e y ∧ op d e = some p ∧ ∀ v H', Alc Γ F H p v H' → Q v H'
theorem op2_of {Γ : Ctx} {op : D → D → Option (D × Bool)} : Op2 Γ op (rOf Γ op) := fun F H x y d e p Q tr h1 h2 h3 h4 => ⟨F, d, e, p, tr, h1, h2, h3, h4⟩
def rOf1 (Γ : Ctx) (op : D → Option (D × Bool)) : V → Hp → VK → Prop := fun x H Q => ∃ F d p, (∀ a, F a → NTo H a) ∧ RepR Γ F H d x ∧ op d = some p ∧ ∀ v H', Alc Γ F H p v H' → Q v H'
theorem op1_of {Γ : Ctx} {op : D → Option (D × Bool)} : Op1 Γ op (rOf1 Γ op) := fun F H x d p Q tr h1 h3 h4 => ⟨F, d, p, tr, h1, h3, h4⟩
def rOfN (Γ : Ctx) (op : List D → Option (D × Bool)) : List V → Hp → VK → Prop := fun xs H Q => ∃ F ds p, (∀ a, F a → NTo H a) ∧ RepRs Γ F H ds xs ∧ op ds = some p ∧ ∀ v H', Alc Γ F H p v H' → Q v H'
theorem opN_of {Γ : Ctx} {op : List D → Option (D × Bool)} : OpN Γ op (rOfN Γ op) := fun F H xs ds p Q tr h1 h3 h4 => ⟨F, ds, p, tr, h1, h3, h4⟩

section
variable {Γ : Ctx} {F : Addr → Prop} {H : Hp} {v : V}
theorem rInt {i : Int} (h : RepR Γ F H (.int i) v) : v = .int i := by simpa only [RepR, RepV] using h
theorem rBool {b : Bool} (h : RepR Γ F H (.bool b) v) : v = .bl b := by simpa only [RepR, RepV] using h
theorem rNone (h : RepR Γ F H .none v) : v = .non := by simpa only [RepR, RepV] using h
theorem rStr {x : Str} (h : RepR Γ F H (.str x) v) : v = .str x := by simpa only [RepR, RepV] using h
theorem rTup {ds : List D} (h : RepR Γ F H (.tuple ds) v) : ∃ a xs, v = .ref a ∧ SqT Γ.K H a xs ∧ xs.length ≤ sizeLine ∧ Γ.RL F H ds xs := by simpa only [RepR, RepV] using h
theorem rList {ds : List D} (h : RepR Γ F H (.list ds) v) : ∃ a xs, v = .ref a ∧ SqL Γ.K H a xs ∧ xs.length ≤ sizeLine ∧ Γ.RL F H ds xs := h
theorem vInt {i : Int} : Γ.RV F H (.int i) (.int i) := by simp only [RepV]
theorem vBool {b : Bool} : Γ.RV F H (.bool b) (.bl b) := by simp only [RepV]
theorem vNone : Γ.RV F H .none .non := by simp only [RepV]
theorem vStr {x : Str} : Γ.RV F H (.str x) (.str x) := by simp only [RepV]
theorem aInt {i : Int} {b : Bool} : Alc Γ F H (.int i, b) (.int i) H := .flat rfl vInt
theorem aBool {i : Bool} {b : Bool} : Alc Γ F H (.bool i, b) (.bl i) H := .flat rfl vBool
theorem aStr {i : Str} {b : Bool} : Alc Γ F H (.str i, b) (.str i) H := .flat rfl vStr
theorem aNone {b : Bool} : Alc Γ F H (.none, b) .non H := .flat rfl vNone
mutual
theorem RepV.dp : ∀ (d : D) (v : V), d.plain = true → Γ.RV F H d v → Dp Γ.K H v d
  | .none, v, _, h => by simp only [RepV] at h; subst h; exact .non
  | .bool b, v, _, h => by simp only [RepV] at h; subst h; exact .bl b
  | .int i, v, _, h => by simp only [RepV] at h; subst h; exact .int i
  | .str x, v, _, h => by simp only [RepV] at h; subst h; exact .str x
  | .list ds, v, p, h => by
    simp only [RepV] at h
    obtain ⟨a, xs, rfl, l, _, r⟩ := h
    exact .lst l.sq (RepL.dp ds xs (by simpa only [PyData.plain] using p) r)
  | .tuple ds, v, p, h => by
    simp only [RepV] at h
    obtain ⟨a, xs, rfl, l, _, r⟩ := h
    exact .tup l (RepL.dp ds xs (by simpa only [PyData.plain] using p) r)
  | .dict kvs, v, p, h => by simp [PyData.plain] at p
theorem RepL.dp : ∀ (ds : List D) (vs : List V), PyData.plainAll ds = true → Γ.RL F H ds vs → DpAll Γ.K H vs ds
  | [], vs, _, h => by simp only [RepL] at h; subst h; exact .nil
  | d :: ds, vs, p, h => by
    simp only [PyData.plainAll, Bool.and_eq_true] at p
    simp only [RepL] at h
    obtain ⟨v, vs', rfl, r1, r2⟩ := h
    exact .cons (RepV.dp d v p.1 r1) (RepL.dp ds vs' p.2 r2)
end
theorem RepR.dp {d : D} (p : d.plain = true) (h : RepR Γ F H d v) : Dp Γ.K H v d := by
  cases d with
  | list ds =>
    obtain ⟨a, xs, rfl, l, _, r⟩ := h
    exact .lst l (RepL.dp ds xs (by simpa only [PyData.plain] using p) r)
  | dict kvs => simp [PyData.plain] at p
  | none => exact RepV.dp (F := F) _ _ p h
  | bool _ => exact RepV.dp (F := F) _ _ p h
  | int _ => exact RepV.dp (F := F) _ _ p h
  | str _ => exact RepV.dp (F := F) _ _ p h
  | tuple _ => exact RepV.dp (F := F) _ _ p h
end

/-! ### + - * // % -/
def dAdd : D → D → Option (D × Bool)
  | .int a, .int b => some (.int (a + b), false)
  | .list a, .list b => if a.length + b.length ≤ sizeLine then some (.list (a ++ b), true) else none
  | .tuple a, .tuple b => if a.length + b.length ≤ sizeLine then some (.tuple (a ++ b), false) else none
  | .str a, .str b => if a.length + b.length ≤ sizeLine then some (.str (a ++ b), false) else none
  | _, _ => none
def dSub : D → D → Option (D × Bool)
  | .int a, .int b => some (.int (a - b), false)
  | _, _ => none
def mulOk (i j : Int) : Prop := (-(2 ^ 64) < i ∧ i < 2 ^ 64) ∨ (-(2 ^ 64) < j ∧ j < 2 ^ 64) ∨ i.natAbs.log2 + j.natAbs.log2 < 1000000
instance (i j : Int) : Decidable (mulOk i j) := by unfold mulOk; infer_instance
def dMul : D → D → Option (D × Bool)
  | .int a, .int b => if mulOk a b then some (.int (a * b), false) else none
  | .list a, .int k => if -(2 ^ 63) ≤ k ∧ k < 2 ^ 63 ∧ a.length * k.toNat ≤ sizeLine then some (.list (List.replicate k.toNat a).flatten, true) else none
  | .tuple a, .int k => if a ≠ [] ∧ 2 ≤ k ∧ k ≤ 1000 ∧ a.length ≤ 1000 then some (.tuple (List.replicate k.toNat a).flatten, false) else none
  | _, _ => none
def dDiv : D → D → Option (D × Bool)
  | .int a, .int b => if b ≠ 0 ∧ b.natAbs.log2 < 9000 then some (.int (a.fdiv b), false) else none
  | _, _ => none
def dMod : D → D → Option (D × Bool)
  | .int a, .int b => if b ≠ 0 then some (.int (a.fmod b), false) else none
  | _, _ => none
theorem RepL.rep {P : Program} {w : World} {K : PySem.W.Frag} {F : Addr → Prop} {H : Hp} {ds : List D} {xs : List V} (h : RepL P w K F H ds xs) : ∀ n, RepL P w K F H (List.replicate n ds).flatten (List.replicate n xs).flatten
  | 0 => by simp only [List.replicate_zero, List.flatten_nil]; exact RepL.nil
  | n + 1 => by simp only [List.replicate_succ, List.flatten_cons]; exact h.append (RepL.rep h n)

theorem list_add_any (la : Addr) (xs : Array Value) (ca : Nat) (lb : Addr) (ys : Array Value) (cb : Nat) (da db : Option Addr) (sa sb : Array (Option Value)) (hc0 : xs.size + ys.size ≤ sizeLine) :
    Meets (Builtin.«list.__add__» ⟨[.ref la, .ref lb], []⟩) (fun _ R s => s.heap.get? la = some { cls := .type "list", dict := da, data := .seq xs ca, slots := sa } ∧ s.heap.get? lb = some { cls := .type "list", dict := db, data := .seq ys cb, slots := sb } ∧ R (.ok (.ret (Value.ref s.heap.objs.size))) { s with heap := s.heap.push { cls := Value.type "list", data := Data.seq (xs ++ ys) }, toks := s.toks }) :=
  .of_wp fun prog w A R s h => by obtain ⟨hp, g, d, tk, os⟩ := s; obtain ⟨gl, gb, h⟩ := h; have f1 := AutoSeq1.idx_int; have f2 := AutoSeq1.sub_tuple_tuple; have f3 := AutoSeq1.sub_list_list; have f4 := AutoSeq1.sub_tuple_list; have f5 := AutoSeq1.sub_list_tuple; wp_walk using AutoSeq1.wpAny_loadPart' gl, AutoSeq1.wpAny_loadPart' gb; exact ⟨_, rfl, h⟩
theorem list_rmul_any (a : Int) (t : Tok) (la : Addr) (xs : Array Value) (ca : Nat) (da : Option Addr) (sa : Array (Option Value)) :
    Meets (Builtin.«int.__rmul__» ⟨[.int a t, .ref la], []⟩) (fun _ R s => s.heap.get? la = some { cls := .type "list", dict := da, data := .seq xs ca, slots := sa } ∧ R (.ok (.ret Value.notImplemented)) s) :=
  .of_wp fun prog w A R s h => by obtain ⟨hp, g, d, tk, os⟩ := s; obtain ⟨gl, h⟩ := h; wp_walk; exact ⟨_, rfl, h⟩
theorem list_mul_any (la : Addr) (xs : Array Value) (ca : Nat) (da : Option Addr) (sa : Array (Option Value)) (x : Int) (u : Tok) (hc0 : ¬(!Builtin.List.listFitsIndex x) = true) (hc1 : ¬xs.size * x.toNat > (2 ^ 63 - 1) / 8) (small : ¬Builtin.List.listTooLong (xs.size * x.toNat) = true) :
    Meets (Builtin.«list.__mul__» ⟨[.ref la, .int x u], []⟩) (fun _ R s => s.heap.get? la = some { cls := .type "list", dict := da, data := .seq xs ca, slots := sa } ∧ R (.ok (.ret (Value.ref s.heap.objs.size))) { s with heap := s.heap.push { cls := Value.type "list", data := Data.seq (List.foldl (fun x1 x2 => x1 ++ x2) #[] (List.replicate (if xs.isEmpty = true then 0 else x.toNat) xs)) }, toks := s.toks }) :=
  .of_wp fun prog w A R s h => by
    obtain ⟨hp, g, d, tk, os⟩ := s; obtain ⟨gl, h⟩ := h
    have fit := AutoListH.joined_fits small
    wp_walk; refine wpAny_ite_false (decide_eq_false (Nat.not_lt.mpr fit)) ?_; wp_walk; exact ⟨_, rfl, h⟩

section
variable {Γ : Ctx} {X : Cx} {sc : Scope} {st : Str → Bool} {k : Nat}
/-- l + b, any lists -/
def rCatL (K : PySem.W.Frag) : R2 := fun x y H Q => ∃ l b xs zs, x = .ref l ∧ y = .ref b ∧ SqL K H l xs ∧ SqL K H b zs ∧ xs.length + zs.length ≤ sizeLine ∧ ∀ p, H p = none → Q (.ref p) (upd H p (.lst (xs ++ zs)))
theorem op_catL : OpR X (binaryOp .Add) (rCatL X.K) := by
  intro pins s σ H x y v u Q I rx ry h
  obtain ⟨l, b, x1s, x2s, rfl, rfl, m1, m2, room, q⟩ := h
  cases rx
  cases ry
  obtain ⟨vs1, r, ⟨o, n, e, c1, c2, c3⟩, len0⟩ := I.list m1
  obtain ⟨vs2, r2, ⟨o2, n2, e2, d1, d2, d3⟩, hl2⟩ := I.list m2
  obtain ⟨oa, ob, oe, of⟩ := o
  obtain ⟨pc, pd, pdt, psl⟩ := o2
  simp only at c1 c2 c3 d1 d2 d3
  subst c1 c2 c3 d1 d2 d3
  have len1 := r.length
  have len2 := r2.length
  refine PySem.concat_meets ⟨_, e, rfl⟩ ⟨_, e2, rfl⟩ noFill_list_add seq_list_add F.slot_list_add F.entry_list_add (F.args_list_add_2 _ _) (list_add_any l vs1.toArray n b vs2.toArray n2 none none of psl (by rw [List.size_toArray, List.size_toArray]; omega)) ⟨e, e2, ?_⟩
  have joined : vs1.toArray ++ vs2.toArray = (vs1 ++ vs2).toArray := by simp
  rw [joined]
  exact ⟨.ref _, _, I.lnew (t' := s.toks) (r.append r2) (by simp only [List.length_append]; omega), rfl, q _ I.fresh⟩
def rRepL (K : PySem.W.Frag) : R2 := fun x y H Q => ∃ l k x1s, x = .ref l ∧ y = .int k ∧ SqL K H l x1s ∧ -(2 ^ 63) ≤ k ∧ k < 2 ^ 63 ∧ x1s.length * k.toNat ≤ sizeLine ∧
  ∀ p, H p = none → Q (.ref p) (upd H p (.lst (List.replicate k.toNat x1s).flatten))
/-- a list so many times: it is short enough -/
theorem rep_fits {n : Nat} {k : Int} (h1 : -(2 ^ 63) ≤ k) (h2 : k < 2 ^ 63) (hz : n * k.toNat ≤ sizeLine) : ¬ (!Builtin.List.listFitsIndex k) = true ∧ ¬ n * k.toNat > (2 ^ 63 - 1) / 8 ∧ ¬ Builtin.List.listTooLong (n * k.toNat) = true := by
  refine ⟨?_, ?_, ?_⟩
  · simp [fitsIndex_both h1 h2]
  · exact Nat.not_lt.mpr (Nat.le_trans hz (by decide))
  · simp [notLongL hz]
/-- .. and what it holds -/
theorem rep_same (us : List Value) (n : Nat) : List.foldl (fun a b => a ++ b) #[] (List.replicate (if us.toArray.isEmpty = true then 0 else n) us.toArray) = (List.replicate n us).flatten.toArray := by
  have each := foldl_rep us (if us.toArray.isEmpty = true then 0 else n) []
  rw [List.nil_append] at each
  refine each.trans ?_
  cases us <;> simp
theorem op_repL : OpR X (binaryOp .Mult) (rRepL X.K) := by
  intro pins s σ H x y v u Q I rx ry h
  obtain ⟨l, k, x1s, rfl, rfl, m1, h1, h2, room, q⟩ := h
  cases rx
  obtain ⟨t, rfl⟩ := ry
  obtain ⟨vs1, r, ⟨o, n, e, c1, c2, c3⟩, len9⟩ := I.list m1
  obtain ⟨oa, ob, oe, of⟩ := o
  simp only at c1 c2 c3
  subst c1 c2 c3
  obtain ⟨f1, f2, f3⟩ := rep_fits (n := vs1.toArray.size) h1 h2 (by rw [List.size_toArray, ← r.length]; exact room)
  have w1 : s.TypeIs (.ref l) "list" := ⟨_, e, rfl⟩
  refine wpAny_binaryOp_repeat_ref (by decide) w1 (fun z => typeIs_int z k t) noFill_list_mul F.fills_int_mul F.slot_int_rmul repeat_list F.slot_int_index.lookup (call_meets F.slot_int_rmul (typeIs_int s k t) F.entry_int_rmul (F.args_int_rmul_2 _ _) (list_rmul_any k t l vs1.toArray n none of) ⟨e, rfl, w1, ?_⟩)
  refine call_meets F.slot_list_mul w1 F.entry_list_mul (F.args_list_mul_2 _ _) (list_mul_any l vs1.toArray n none of k t f1 f2 f3) ⟨e, ?_⟩
  rw [rep_same vs1 k.toNat]
  refine ⟨.ref _, _, I.lnew (t' := s.toks) (r.rep k.toNat) ?_, rfl, q _ I.fresh⟩
  rw [PyProof.Rows.lm_len_rep_flat, Nat.mul_comm]
  exact room

theorem o_add (g : Gd Γ X sc st k) : OpR X (binaryOp .Add) (rOf Γ dAdd) := by
  intro pins s σ H x y v u Q I rx ry h
  obtain ⟨F, d, e, p, tr, h1, h2, ho, q⟩ := h
  unfold dAdd at ho
  split at ho
  · cases ho
    exact op_add pins s σ H x y v u Q I rx ry ⟨_, _, rInt h1, rInt h2, q _ _ aInt⟩
  · split at ho
    · rename_i hz
      cases ho
      obtain ⟨a, xs, e1, l1, _, r1⟩ := rList h1
      obtain ⟨b, ys, e2, l2, _, r2⟩ := rList h2
      rw [← g.K] at l1 l2
      exact op_catL pins s σ H x y v u Q I rx ry ⟨a, b, xs, ys, e1, e2, l1, l2, by rw [← r1.length, ← r2.length]; exact hz, fun p hp => q _ _ (.newList tr hp (by rw [List.length_append, ← r1.length, ← r2.length]; exact hz) (r1.append r2))⟩
    · cases ho
  · split at ho
    · rename_i hz
      cases ho
      obtain ⟨a, xs, e1, l1, z1, r1⟩ := rTup h1
      obtain ⟨b, ys, e2, l2, z2, r2⟩ := rTup h2
      rw [← g.K] at l1 l2
      refine op_catA pins s σ H x y v u Q I rx ry ⟨a, b, xs, ys, e1, e2, l1, l2, by rw [← r1.length, ← r2.length]; exact hz, fun hx => ?_, fun hx hy => ?_, fun hx hy p hp => q _ _ (.newTup tr hp (by rw [List.length_append, ← r1.length, ← r2.length]; exact hz) (r1.append r2))⟩
      · subst hx
        refine q _ _ (.plain ?_)
        simp only [RepV]
        exact ⟨b, ys, rfl, by rw [← g.K]; exact l2, z2, by simpa using r1.append r2⟩
      · subst hy
        refine q _ _ (.plain ?_)
        simp only [RepV]
        exact ⟨a, xs, rfl, by rw [← g.K]; exact l1, z1, by simpa using r1.append r2⟩
    · cases ho
  · split at ho
    · rename_i hz
      cases ho
      exact op_add_str pins s σ H x y v u Q I rx ry ⟨_, _, rStr h1, rStr h2, hz, q _ _ aStr⟩
    · cases ho
  · cases ho
theorem o_sub : OpR X (binaryOp .Sub) (rOf Γ dSub) := by
  intro pins s σ H x y v u Q I rx ry h
  obtain ⟨F, d, e, p, tr, h1, h2, ho, q⟩ := h
  unfold dSub at ho
  split at ho
  · cases ho
    exact op_sub pins s σ H x y v u Q I rx ry ⟨_, _, rInt h1, rInt h2, q _ _ aInt⟩
  · cases ho
theorem mulOk_ok {i j : Int} (h : mulOk i j) : IntMulOk i j := by
  rcases h with h | h | h
  · exact .of_left (intBits_le_64 h.1 h.2)
  · exact .of_right (intBits_le_64 h.1 h.2)
  · exact CMulW.ok h
theorem op_mulA : OpR X (binaryOp .Mult) (rI mulOk fun i j => .int (i * j)) := opI fun _ _ _ _ _ _ _ hc q => mul_int q (mulOk_ok hc)
theorem op_fdivA : OpR X (binaryOp .FloorDiv) (rI (fun _ j => j ≠ 0 ∧ j.natAbs.log2 < 9000) fun i j => .int (i.fdiv j)) := opI fun i j _ _ _ _ _ hc q =>
  floordiv_int hc.1 q (.inl (PyProof.noPylong_of_log2 hc.2))
theorem o_mul (g : Gd Γ X sc st k) : OpR X (binaryOp .Mult) (rOf Γ dMul) := by
  intro pins s σ H x y v u Q I rx ry h
  obtain ⟨F, d, e, p, tr, h1, h2, ho, q⟩ := h
  unfold dMul at ho
  split at ho
  · split at ho
    · rename_i hz
      cases ho
      exact op_mulA pins s σ H x y v u Q I rx ry ⟨_, _, rInt h1, rInt h2, hz, q _ _ aInt⟩
    · cases ho
  · split at ho
    · rename_i hz
      cases ho
      obtain ⟨a, xs, e1, l1, _, r1⟩ := rList h1
      rw [← g.K] at l1
      have hl := r1.length
      exact op_repL pins s σ H x y v u Q I rx ry ⟨a, _, xs, e1, rInt h2, l1, hz.1, hz.2.1, by rw [← hl]; exact hz.2.2, fun p hp => q _ _ (.newList tr hp (by rw [PyProof.Rows.lm_len_rep_flat, ← hl, Nat.mul_comm]; exact hz.2.2) (r1.rep _))⟩
    · cases ho
  · rename_i a0 k0
    split at ho
    · rename_i hz
      cases ho
      obtain ⟨a, xs, e1, l1, _, r1⟩ := rTup h1
      rw [← g.K] at l1
      have hl := r1.length
      have hk0 : k0.toNat ≤ 1000 := by have := hz.2.2.1; omega
      refine op_repT pins s σ H x y v u Q I rx ry ⟨a, _, xs, e1, rInt h2, l1, fun z => hz.1 ?_, hz.2.1, hz.2.2.1, by rw [← hl]; exact hz.2.2.2, fun p hp => q _ _ (.newTup tr hp ?_ (r1.rep _))⟩
      · subst z
        exact List.eq_nil_of_length_eq_zero hl
      · rw [PyProof.Rows.lm_len_rep_flat, ← hl, sizeLine_eq]
        exact Nat.le_trans (Nat.mul_le_mul hk0 hz.2.2.2) (by decide)
    · cases ho
  · cases ho
theorem o_div : OpR X (binaryOp .FloorDiv) (rOf Γ dDiv) := by
  intro pins s σ H x y v u Q I rx ry h
  obtain ⟨F, d, e, p, tr, h1, h2, ho, q⟩ := h
  unfold dDiv at ho
  split at ho
  · split at ho
    · rename_i hz
      cases ho
      exact op_fdivA pins s σ H x y v u Q I rx ry ⟨_, _, rInt h1, rInt h2, hz, q _ _ aInt⟩
    · cases ho
  · cases ho
theorem o_mod : OpR X (binaryOp .Mod) (rOf Γ dMod) := by
  intro pins s σ H x y v u Q I rx ry h
  obtain ⟨F, d, e, p, tr, h1, h2, ho, q⟩ := h
  unfold dMod at ho
  split at ho
  · split at ho
    · rename_i hz
      cases ho
      exact op_modN pins s σ H x y v u Q I rx ry ⟨_, _, rInt h1, rInt h2, hz, q _ _ aInt⟩
    · cases ho
  · cases ho
def dNeg : D → Option (D × Bool)
  | .int a => some (.int (-a), false)
  | _ => none
theorem o_neg : UnR X (unaryOp .USub) (rOf1 Γ dNeg) := by
  intro pins s σ H x v Q I rx h
  obtain ⟨F, d, p, tr, h1, ho, q⟩ := h
  unfold dNeg at ho
  split at ho
  · cases ho
    exact un_neg pins s σ H x v Q I rx ⟨_, rInt h1, q _ _ aInt⟩
  · cases ho
/-! ### comparisons -/
def okC (d e : D) : Bool := d.plain && e.plain && decide (min d.depth e.depth ≤ 64)
def dEq (d e : D) : Option (D × Bool) := if okC d e = true then some (.bool (PyData.eqv d e), false) else none
def dNe (d e : D) : Option (D × Bool) := if okC d e = true then some (.bool (!PyData.eqv d e), false) else none
def okL (d e : D) : Bool := okC d e && PySem.W.alike d e && decide (d ≠ .none)
def dLt (d e : D) : Option (D × Bool) := if okL d e = true then some (.bool (PySem.W.dataLt d e), false) else none
def dGt (d e : D) : Option (D × Bool) := if okL d e = true then some (.bool (PySem.W.dataLt e d), false) else none
def dLe (d e : D) : Option (D × Bool) := if okL d e = true then some (.bool (!PySem.W.dataLt e d), false) else none
def dGe (d e : D) : Option (D × Bool) := if okL d e = true then some (.bool (!PySem.W.dataLt d e), false) else none
theorem okC_u {d e : D} (h : okC d e = true) : d.plain = true ∧ e.plain = true ∧ min d.depth e.depth ≤ 64 := by
  unfold okC at h
  simp only [Bool.and_eq_true, decide_eq_true_eq] at h
  exact ⟨h.1.1, h.1.2, h.2⟩
theorem okL_u {d e : D} (h : okL d e = true) : d.plain = true ∧ e.plain = true ∧ min d.depth e.depth ≤ 64 ∧ PySem.W.alike d e = true ∧ d ≠ .none := by
  unfold okL at h
  simp only [Bool.and_eq_true, decide_eq_true_eq] at h
  obtain ⟨a, b, c⟩ := okC_u h.1.1
  exact ⟨a, b, c, h.1.2, h.2⟩
theorem read_of (g : Gd Γ X sc st k) {pins : List (Addr × Obj)} {s : Shared} {σ : L2.St} {H : Hp} {F : Addr → Prop} {d : D} {x : V} {v : Value} (I : Inv X pins σ H s) (p : d.plain = true) (h : RepR Γ F H d x) (rx : RelV x v) : ∃ as, Reads s.heap v d as :=
  Dp.reads I d x v (by rw [g.K]; exact h.dp p) rx
theorem o_eq (g : Gd Γ X sc st k) : OpR X (compareOp .Eq) (rOf Γ dEq) := by
  intro pins s σ H x y v u Q I rx ry h
  obtain ⟨F, d, e, p, tr, h1, h2, ho, q⟩ := h
  unfold dEq at ho
  split at ho
  · rename_i hz
    cases ho
    obtain ⟨p1, p2, p3⟩ := okC_u hz
    obtain ⟨as, r1⟩ := read_of g I p1 h1 rx
    obtain ⟨bs, r2⟩ := read_of g I p2 h2 ry
    exact SeqAt.eq_plain r1 r2 p1 p2 (by have := g.room.un; omega) ⟨.bl _, H, I, rfl, q _ _ aBool⟩
  · cases ho
theorem o_ne (g : Gd Γ X sc st k) : OpR X (compareOp .NotEq) (rOf Γ dNe) := by
  intro pins s σ H x y v u Q I rx ry h
  obtain ⟨F, d, e, p, tr, h1, h2, ho, q⟩ := h
  unfold dNe at ho
  split at ho
  · rename_i hz
    cases ho
    obtain ⟨p1, p2, p3⟩ := okC_u hz
    obtain ⟨as, r1⟩ := read_of g I p1 h1 rx
    obtain ⟨bs, r2⟩ := read_of g I p2 h2 ry
    exact SeqAt.ne_plain r1 r2 p1 p2 (by have := g.room.un; omega) ⟨.bl _, H, I, rfl, q _ _ aBool⟩
  · cases ho
theorem o_lt (g : Gd Γ X sc st k) : OpR X (compareOp .Lt) (rOf Γ dLt) := by
  intro pins s σ H x y v u Q I rx ry h
  obtain ⟨F, d, e, p, tr, h1, h2, ho, q⟩ := h
  unfold dLt at ho
  split at ho
  · rename_i hz
    cases ho
    obtain ⟨p1, p2, p3, p4, p5⟩ := okL_u hz
    obtain ⟨as, r1⟩ := read_of g I p1 h1 rx
    obtain ⟨bs, r2⟩ := read_of g I p2 h2 ry
    exact PySem.W.lt_data r1 r2 p4 p5 (by have := g.room.un; omega) ⟨.bl _, H, I, rfl, q _ _ aBool⟩
  · cases ho
theorem o_gt (g : Gd Γ X sc st k) : OpR X (compareOp .Gt) (rOf Γ dGt) := by
  intro pins s σ H x y v u Q I rx ry h
  obtain ⟨F, d, e, p, tr, h1, h2, ho, q⟩ := h
  unfold dGt at ho
  split at ho
  · rename_i hz
    cases ho
    obtain ⟨p1, p2, p3, p4, p5⟩ := okL_u hz
    obtain ⟨as, r1⟩ := read_of g I p1 h1 rx
    obtain ⟨bs, r2⟩ := read_of g I p2 h2 ry
    exact PySem.W.gt_data r1 r2 p4 p5 (by have := g.room.un; omega) ⟨.bl _, H, I, rfl, q _ _ aBool⟩
  · cases ho
theorem o_le (g : Gd Γ X sc st k) : OpR X (compareOp .LtE) (rOf Γ dLe) := by
  intro pins s σ H x y v u Q I rx ry h
  obtain ⟨F, d, e, p, tr, h1, h2, ho, q⟩ := h
  unfold dLe at ho
  split at ho
  · rename_i hz
    cases ho
    obtain ⟨p1, p2, p3, p4, p5⟩ := okL_u hz
    obtain ⟨as, r1⟩ := read_of g I p1 h1 rx
    obtain ⟨bs, r2⟩ := read_of g I p2 h2 ry
    exact PySem.W.le_data r1 r2 p4 p5 (by have := g.room.un; omega) ⟨.bl _, H, I, rfl, q _ _ aBool⟩
  · cases ho
theorem o_ge (g : Gd Γ X sc st k) : OpR X (compareOp .GtE) (rOf Γ dGe) := by
  intro pins s σ H x y v u Q I rx ry h
  obtain ⟨F, d, e, p, tr, h1, h2, ho, q⟩ := h
  unfold dGe at ho
  split at ho
  · rename_i hz
    cases ho
    obtain ⟨p1, p2, p3, p4, p5⟩ := okL_u hz
    obtain ⟨as, r1⟩ := read_of g I p1 h1 rx
    obtain ⟨bs, r2⟩ := read_of g I p2 h2 ry
    exact PySem.W.ge_data r1 r2 p4 p5 (by have := g.room.un; omega) ⟨.bl _, H, I, rfl, q _ _ aBool⟩
  · cases ho
/-! ### is -/
def dIs : D → D → Option (D × Bool)
  | .none, .none => some (.bool true, false)
  | .none, .bool _ => some (.bool false, false)
  | .bool _, .none => some (.bool false, false)
  | .bool a, .bool b => some (.bool (a == b), false)
  | .int _, .none => some (.bool false, false)
  | .int _, .bool _ => some (.bool false, false)
  | .str _, .none => some (.bool false, false)
  | .str _, .bool _ => some (.bool false, false)
  | .list _, .none => some (.bool false, false)
  | .list _, .bool _ => some (.bool false, false)
  | .tuple _, .none => some (.bool false, false)
  | .tuple _, .bool _ => some (.bool false, false)
  | .dict _, .none => some (.bool false, false)
  | .dict _, .bool _ => some (.bool false, false)
  | _, _ => none
def dIsN (a b : D) : Option (D × Bool) := match dIs a b with
  | some (.bool c, _) => some (.bool (!c), false)
  | _ => none
theorem is_plain {A : Around} {s : Shared} {E : Value → Shared → Prop} {F : Addr → Prop} {H : Hp} {d e : D} {x y : V} {v u : Value} {c : Bool} {z : Bool} {prog : Program} {w : World} (h1 : RepR Γ F H d x) (h2 : RepR Γ F H e y) (rx : RelV x v) (ry : RelV y u) (ho : dIs d e = some (.bool c, z)) :
    ∀ {Q : Value → Shared → Prop}, (Q (.bool c) s → wpAny (model prog w) A (compareOp .Is v u) Q E s) ∧ (Q (.bool (!c)) s → wpAny (model prog w) A (compareOp .IsNot v u) Q E s) := by
  intro Q
  have oth : ∀ {p q : Value}, plainIs p q = true → p ≠ q → (Q (.bool false) s → wpAny (model prog w) A (compareOp .Is p q) Q E s) ∧ (Q (.bool (!false)) s → wpAny (model prog w) A (compareOp .IsNot p q) Q E s) := fun a b => ⟨wpAny_is_other a b, wpAny_isNot_other a b⟩
  have slf : ∀ {p : Value}, plainIs p p = true → (Q (.bool true) s → wpAny (model prog w) A (compareOp .Is p p) Q E s) ∧ (Q (.bool (!true)) s → wpAny (model prog w) A (compareOp .IsNot p p) Q E s) := fun a => ⟨wpAny_is_self a, wpAny_isNot_self a⟩
  have yN : e = .none → u = Value.none := fun z => by subst z; rw [rNone h2] at ry; exact ry
  have yB : ∀ b, e = .bool b → u = Value.bool b := fun b z => by subst z; rw [rBool h2] at ry; exact ry
  unfold dIs at ho
  split at ho
  · cases ho
    rw [rNone h1] at rx; rw [rNone h2] at ry
    cases rx; cases ry
    exact slf rfl
  · cases ho
    rw [rNone h1] at rx; rw [rBool h2] at ry
    cases rx; cases ry
    exact oth rfl (by simp)
  · cases ho
    rw [rBool h1] at rx; rw [rNone h2] at ry
    cases rx; cases ry
    exact oth rfl (by simp)
  · rename_i a b
    cases ho
    rw [rBool h1] at rx; rw [rBool h2] at ry
    cases rx; cases ry
    by_cases e : a = b
    · subst e
      rw [beq_self_eq_true]
      exact slf rfl
    · rw [beq_eq_false_iff_ne.mpr e]
      exact oth rfl (fun z => e (Value.bool.inj z))
  · cases ho
    rw [rInt h1] at rx; rw [rNone h2] at ry
    obtain ⟨t, rfl⟩ := rx; cases ry
    exact oth rfl (by simp)
  · cases ho
    rw [rInt h1] at rx; rw [rBool h2] at ry
    obtain ⟨t, rfl⟩ := rx; cases ry
    exact oth rfl (by simp)
  · cases ho
    rw [rStr h1] at rx; rw [rNone h2] at ry
    obtain ⟨t, rfl⟩ := rx; cases ry
    exact oth rfl (by simp)
  · cases ho
    rw [rStr h1] at rx; rw [rBool h2] at ry
    obtain ⟨t, rfl⟩ := rx; cases ry
    exact oth rfl (by simp)
  · cases ho
    obtain ⟨a, xs, rfl, _⟩ := rList h1
    rw [rNone h2] at ry
    cases rx; cases ry
    exact oth rfl (by simp)
  · cases ho
    obtain ⟨a, xs, rfl, _⟩ := rList h1
    rw [rBool h2] at ry
    cases rx; cases ry
    exact oth rfl (by simp)
  · cases ho
    obtain ⟨a, xs, rfl, _⟩ := rTup h1
    rw [rNone h2] at ry
    cases rx; cases ry
    exact oth rfl (by simp)
  · cases ho
    obtain ⟨a, xs, rfl, _⟩ := rTup h1
    rw [rBool h2] at ry
    cases rx; cases ry
    exact oth rfl (by simp)
  · cases ho
    obtain ⟨a, xs, rfl, _⟩ := h1
    rw [rNone h2] at ry
    cases rx; cases ry
    exact oth rfl (by simp)
  · cases ho
    obtain ⟨a, xs, rfl, _⟩ := h1
    rw [rBool h2] at ry
    cases rx; cases ry
    exact oth rfl (by simp)
  · cases ho
theorem dIs_bool {d e : D} {p : D × Bool} (h : dIs d e = some p) : ∃ c, p = (.bool c, false) := by
  unfold dIs at h
  split at h <;> first | (cases h; exact ⟨_, rfl⟩) | cases h
theorem o_is : OpR X (compareOp .Is) (rOf Γ dIs) := by
  intro pins s σ H x y v u Q I rx ry h
  obtain ⟨F, d, e, p, tr, h1, h2, ho, q⟩ := h
  obtain ⟨c, rfl⟩ := dIs_bool ho
  exact (is_plain h1 h2 rx ry ho).1 ⟨.bl _, H, I, rfl, q _ _ aBool⟩
theorem o_isn : OpR X (compareOp .IsNot) (rOf Γ dIsN) := by
  intro pins s σ H x y v u Q I rx ry h
  obtain ⟨F, d, e, p, tr, h1, h2, ho, q⟩ := h
  unfold dIsN at ho
  split at ho
  · rename_i c z hc
    cases ho
    exact (is_plain h1 h2 rx ry hc).2 ⟨.bl _, H, I, rfl, q _ _ aBool⟩
  · cases ho
/-! ### in -/
def okI (xs : List D) (d : D) : Bool := PyData.plainAll xs && d.plain && decide (min (PyData.depthAll xs) d.depth ≤ 64)
def dIn (d : D) : D → Option (D × Bool)
  | .list xs => if okI xs d = true then some (.bool (xs.any fun y => PyData.eqv y d), false) else none
  | .tuple xs => if okI xs d = true then some (.bool (xs.any fun y => PyData.eqv y d), false) else none
  | _ => none
def dNotIn (d : D) : D → Option (D × Bool)
  | .list xs => if okI xs d = true then some (.bool (!xs.any fun y => PyData.eqv y d), false) else none
  | .tuple xs => if okI xs d = true then some (.bool (!xs.any fun y => PyData.eqv y d), false) else none
  | _ => none
theorem okI_u {xs : List D} {d : D} (h : okI xs d = true) : PyData.plainAll xs = true ∧ d.plain = true ∧ min (PyData.depthAll xs) d.depth ≤ 64 := by
  unfold okI at h
  simp only [Bool.and_eq_true, decide_eq_true_eq] at h
  exact ⟨h.1.1, h.1.2, h.2⟩
theorem o_in (g : Gd Γ X sc st k) : OpR X (compareOp .In) (rOf Γ dIn) := by
  intro pins s σ H x y v u Q I rx ry h
  obtain ⟨F, d, e, p, tr, h1, h2, ho, q⟩ := h
  have hu := g.room.un
  unfold dIn at ho
  split at ho
  · split at ho
    · rename_i hz
      cases ho
      obtain ⟨p1, p2, p3⟩ := okI_u hz
      obtain ⟨as, r1⟩ := read_of g I p2 h1 rx
      obtain ⟨bs, r2⟩ := read_of g I (by simpa only [PyData.plain] using p1) h2 ry
      exact SeqAt.in_list_data r2 r1 p1 p2 (by omega) ⟨.bl _, H, I, rfl, q _ _ aBool⟩
    · cases ho
  · split at ho
    · rename_i hz
      cases ho
      obtain ⟨p1, p2, p3⟩ := okI_u hz
      obtain ⟨as, r1⟩ := read_of g I p2 h1 rx
      obtain ⟨bs, r2⟩ := read_of g I (by simpa only [PyData.plain] using p1) h2 ry
      exact SeqAt.in_tuple_data r2 r1 p1 p2 (by omega) ⟨.bl _, H, I, rfl, q _ _ aBool⟩
    · cases ho
  · cases ho
theorem o_notIn (g : Gd Γ X sc st k) : OpR X (compareOp .NotIn) (rOf Γ dNotIn) := by
  intro pins s σ H x y v u Q I rx ry h
  obtain ⟨F, d, e, p, tr, h1, h2, ho, q⟩ := h
  have hu := g.room.un
  unfold dNotIn at ho
  split at ho
  · split at ho
    · rename_i hz
      cases ho
      obtain ⟨p1, p2, p3⟩ := okI_u hz
      obtain ⟨as, r1⟩ := read_of g I p2 h1 rx
      obtain ⟨bs, r2⟩ := read_of g I (by simpa only [PyData.plain] using p1) h2 ry
      exact SeqAt.notIn_list_data r2 r1 p1 p2 (by omega) ⟨.bl _, H, I, rfl, q _ _ aBool⟩
    · cases ho
  · split at ho
    · rename_i hz
      cases ho
      obtain ⟨p1, p2, p3⟩ := okI_u hz
      obtain ⟨as, r1⟩ := read_of g I p2 h1 rx
      obtain ⟨bs, r2⟩ := read_of g I (by simpa only [PyData.plain] using p1) h2 ry
      exact SeqAt.notIn_tuple_data r2 r1 p1 p2 (by omega) ⟨.bl _, H, I, rfl, q _ _ aBool⟩
    · cases ho
  · cases ho
/-! ### places -/
def dIx : D → D → Option (D × Bool)
  | .list xs, .int i => (atI xs i).map fun d => (d, false)
  | .tuple xs, .int i => (atI xs i).map fun d => (d, false)
  | _, _ => none
theorem atI_rep {P : Program} {w : World} {K : PySem.W.Frag} {F : Addr → Prop} {H : Hp} {ds : List D} {xs : List V} {i : Int} {d : D} (r : RepL P w K F H ds xs) (h : atI ds i = some d) : ∃ v, atI xs i = some v ∧ RepV P w K F H d v := by
  unfold atI at h ⊢
  rw [← r.length]
  cases q : ixN ds.length i with
  | none => rw [q] at h; cases h
  | some j =>
    rw [q] at h
    exact r.get h
theorem o_ix (g : Gd Γ X sc st k) : IxR X (rOf Γ dIx) := by
  intro value slice pins s σ H x y v u Q I rx ry h hs
  obtain ⟨F, d, e, p, tr, h1, h2, ho, q⟩ := h
  unfold dIx at ho
  split at ho
  · obtain ⟨d', hd, rfl⟩ := Option.map_eq_some_iff.mp ho
    obtain ⟨a, xs, e1, l1, _, r1⟩ := rList h1
    rw [← g.K] at l1
    obtain ⟨z, hz, rz⟩ := atI_rep r1 hd
    exact ix_list value slice pins s σ H x y v u Q I rx ry ⟨a, xs, _, z, e1, rInt h2, l1, hz, q _ _ (.plain rz)⟩ hs
  · obtain ⟨d', hd, rfl⟩ := Option.map_eq_some_iff.mp ho
    obtain ⟨a, xs, e1, l1, _, r1⟩ := rTup h1
    rw [← g.K] at l1
    obtain ⟨z, hz, rz⟩ := atI_rep r1 hd
    exact ix_tup value slice pins s σ H x y v u Q I rx ry ⟨a, xs, _, z, e1, rInt h2, l1, hz, q _ _ (.plain rz)⟩ hs
  · cases ho
end
end Ow

namespace Ow
open PySem PyProof.Rows PySem.Spec L2 LamX

section
variable {Γ : Ctx} {X : Cx} {sc : Scope} {st : Str → Bool} {k : Nat} {F : Addr → Prop} {H : Hp} {v : V}
theorem rs1 {d : D} {vs : List V} (h : RepRs Γ F H [d] vs) : ∃ x, vs = [x] ∧ RepR Γ F H d x := by
  obtain ⟨x, us, rfl, r, rfl⟩ := h
  exact ⟨x, rfl, r⟩
theorem rs2 {d e : D} {vs : List V} (h : RepRs Γ F H [d, e] vs) : ∃ x y, vs = [x, y] ∧ RepR Γ F H d x ∧ RepR Γ F H e y := by
  obtain ⟨x, us, rfl, r, y, us', rfl, r', rfl⟩ := h
  exact ⟨x, y, rfl, r, r'⟩
/-! ### len -/
def dLen : List D → Option (D × Bool)
  | [.list xs] => some (.int xs.length, false)
  | [.tuple xs] => some (.int xs.length, false)
  | [.str x] => if x.length ≤ sizeLine then some (.int x.length, false) else none
  | _ => none
theorem c_len (g : Gd Γ X sc st k) : CallR X (.builtin "len") (rOfN Γ dLen) := by
  intro pins s σ H xs us Q I r h
  obtain ⟨F, ds, p, tr, h1, ho, q⟩ := h
  unfold dLen at ho
  split at ho
  · cases ho
    obtain ⟨x, rfl, hx⟩ := rs1 h1
    obtain ⟨a, ys, rfl, l, _, rr⟩ := rList hx
    rw [← g.K] at l
    exact call_len pins s σ H _ us Q I r ⟨_, _, rfl, .inl ⟨ys, l, rfl⟩, by rw [← rr.length]; exact q _ _ aInt⟩
  · cases ho
    obtain ⟨x, rfl, hx⟩ := rs1 h1
    obtain ⟨a, ys, rfl, l, _, rr⟩ := rTup hx
    rw [← g.K] at l
    exact call_len pins s σ H _ us Q I r ⟨_, _, rfl, .inr ⟨ys, l, rfl⟩, by rw [← rr.length]; exact q _ _ aInt⟩
  · split at ho
    · rename_i hz
      cases ho
      obtain ⟨x, rfl, hx⟩ := rs1 h1
      obtain rfl := rStr hx
      exact call_len pins s σ H _ us Q I r ⟨_, _, rfl, ⟨hz, rfl⟩, q _ _ aInt⟩
    · cases ho
  · cases ho
/-! ### isinstance(x, T) -/
def isiB (T : String) : D → Option Bool
  | .none => kitB "NoneType" T
  | .bool _ => kitB "bool" T
  | .int _ => kitB "int" T
  | .str _ => kitB "str" T
  | .list _ => kitB "list" T
  | .tuple _ => kitB "tuple" T
  | .dict _ => none
theorem isi_int (d : D) : isiB "int" d = match d with | .bool _ => some true | .int _ => some true | .dict _ => none | _ => some false := by
  cases d <;> first | rfl | (unfold isiB; decide +kernel)
theorem isi_tuple (d : D) : isiB "tuple" d = match d with | .tuple _ => some true | .dict _ => none | _ => some false := by
  cases d <;> first | rfl | (unfold isiB; decide +kernel)
theorem isi_list (d : D) : isiB "list" d = match d with | .list _ => some true | .dict _ => none | _ => some false := by
  cases d <;> first | rfl | (unfold isiB; decide +kernel)
theorem isi_str (d : D) : isiB "str" d = match d with | .str _ => some true | .dict _ => none | _ => some false := by
  cases d <;> first | rfl | (unfold isiB; decide +kernel)
def dIsi (T : String) (d : D) : Option (D × Bool) := (isiB T d).map fun b => (.bool b, false)
theorem ty_of (g : Gd Γ X sc st k) {T : String} {d : D} {x : V} {b : Bool} (h : RepR Γ F H d x) (e : isiB T d = some b) : ∃ t, TyX X.K H x (.type t) ∧ kitB t T = some b := by
  cases d with
  | none => obtain rfl := rNone h; exact ⟨_, .base .non, e⟩
  | bool c => obtain rfl := rBool h; exact ⟨_, .base (.bl c), e⟩
  | int i => obtain rfl := rInt h; exact ⟨_, .base (.int i), e⟩
  | str x => obtain rfl := rStr h; exact ⟨_, .base (.str x), e⟩
  | list ds =>
    obtain ⟨a, xs, rfl, l, _⟩ := rList h
    refine ⟨"list", ?_, e⟩
    rcases l with (l | ⟨o, l⟩) | ⟨o, its, n, l, c, _⟩
    · exact .base (.lst l)
    · exact .base (.frz l)
    · exact .kList (by rw [g.K]; exact l) c
  | tuple ds =>
    obtain ⟨a, xs, rfl, l, _⟩ := rTup h
    refine ⟨"tuple", ?_, e⟩
    rcases l with (l | ⟨o, l⟩) | ⟨o, its, n, l, c, _⟩
    · exact .base (.tup l)
    · exact .fTuple l
    · exact .kTuple (by rw [g.K]; exact l) c
  | dict kvs => cases e
theorem de_isi {e : Expr} {W : WX} {T : String} {Ts : Str} {f : EvO} {p p2 pos : Pos} (g : Gd Γ X sc st k) (hg : sc.names.lookup ("isinstance" : Str) = some .globalImplicit) (hm : Γ.mg ("isinstance" : Str) = none) (hgT : sc.names.lookup Ts = some .globalImplicit) (hmT : Γ.mg Ts = none)
    (hvT : bootBuiltins Ts = some (.type T)) (hnT : Ts ≠ "__name__") (hdT : (Ts == ("__debug__" : Str)) = false) (h : PE X e (tO Γ W f))
    (hs1 : starEach (e :: [.Name Ts p2]) X.env = (false, eval e X.env) :: starEach [.Name Ts p2] X.env) (hs2 : starEach (.Name Ts p2 :: []) X.env = (false, eval (.Name Ts p2) X.env) :: starEach [] X.env) (hpl : (backTo pos (starEach [.Name Ts p2] X.env)).any (·.1) = false) :
    PE X (.Call (.Name "isinstance" p) [e, .Name Ts p2] [] pos) (tD Γ W (eUn (dIsi T) f)) := by
  have G1 : ∀ {x : Str}, sc.names.lookup x = some .globalImplicit → Gl X x := fun {x} h => by show X.env.scope.names.lookup x = _; rw [g.scp]; exact h
  refine pe_imp (pe_callB call_isi (G1 hg) (by rw [g.mg]; exact hm) (by decide +kernel) (pa_cons h (pa_cons (pe_bltn (v := .ty T) (G1 hgT) (by rw [g.mg]; exact hmT) hvT rfl hnT hdT) pa_nil hs2) hs1) (by decide) (by decide) hs1 hpl) fun σ H Q ⟨F, ρ, G, S, O⟩ => ?_
  refine ⟨F, ρ, G, S, (Out.bind O).imp fun q ρ1 F1 H1 k1 G1 S1 O1 x hx sx => ?_⟩
  unfold dIsi at O1
  cases hi : isiB T q.1 with
  | none => rw [hi] at O1; exact O1.elim
  | some b =>
    rw [hi] at O1
    obtain ⟨t, ty, kb⟩ := ty_of g (S1.read hx sx) hi
    exact ⟨x, .ty T, _, .type T, b, rfl, .ty T, ty, kit_ty kb, O1 F1 H1 Fk.refl G1 S1 _ (resOk_plain vBool)⟩
/-! ### all, any -/
def isBoolD : D → Bool
  | .bool _ => true
  | _ => false
theorem bools_fine : ∀ {ds : List D}, ds.all isBoolD = true → PyData.plainAll ds = true ∧ ∀ x ∈ ds, x.fits63
  | [], _ => ⟨rfl, fun _ h => nomatch h⟩
  | d :: ds, h => by
    rw [List.all_cons, Bool.and_eq_true] at h
    obtain ⟨h1, h2⟩ := bools_fine h.2
    cases d with
    | bool b =>
      refine ⟨by simpa [PyData.plainAll, PyData.plain] using h1, fun x hx => ?_⟩
      rcases List.mem_cons.mp hx with e | e
      · subst e; exact True.intro
      · exact h2 x e
    | _ => cases h.1
def dAll : List D → Option (D × Bool)
  | [.list xs] => if xs.all isBoolD = true then some (.bool (xs.all PyData.truthy), false) else none
  | _ => none
def dAny : List D → Option (D × Bool)
  | [.list xs] => if xs.all isBoolD = true then some (.bool (xs.any PyData.truthy), false) else none
  | _ => none
theorem list_reads (g : Gd Γ X sc st k) {pins : List (Addr × Obj)} {s : Shared} {σ : L2.St} {ds : List D} {a : Addr} {xs : List V} (I : Inv X pins σ H s) (l : SqL Γ.K H a xs) (p : PyData.plainAll ds = true) (r : Γ.RL F H ds xs) :
    ∃ its : List Value, Vals xs its ∧ s.heap.IsList a its.toArray ∧ xs.length ≤ sizeLine ∧ ∃ as, ReadsAll s.heap its ds as := by
  rw [← g.K] at l
  obtain ⟨its, rv, pl, hz⟩ := I.list l
  obtain ⟨as, hr⟩ := Dp.readsAll I ds xs its (by rw [g.K]; exact RepL.dp ds xs p r) rv
  exact ⟨its, rv, pl.isList, hz, as, hr⟩
theorem ref1 {a : Addr} {us : List Value} (r : Vals [V.ref a] us) : us = [Value.ref a] := Vals.ref1 r
theorem c_all (g : Gd Γ X sc st k) (hh : Γ.hot = false) : CallR X (.builtin "all") (rOfN Γ dAll) := by
  intro pins s σ H xs us Q I r h
  obtain ⟨F, ds, p, tr, h1, ho, q⟩ := h
  unfold dAll at ho
  split at ho
  · split at ho
    · rename_i hb
      cases ho
      obtain ⟨x, rfl, hx⟩ := rs1 h1
      obtain ⟨a, ys, rfl, l, _, rr⟩ := rList hx
      obtain ⟨b1, b2⟩ := bools_fine hb
      obtain ⟨its, rv, il, _, as, hr⟩ := list_reads g I l b1 rr
      rw [ref1 r]
      exact PySem.W.all_list_data (I.ok.hd (g.calm hh)) il (by simpa using hr) b1 b2 fun h' tk kp => ⟨.bl _, H, I.kept kp, rfl, q _ _ aBool⟩
    · cases ho
  · cases ho
theorem c_any (g : Gd Γ X sc st k) (hh : Γ.hot = false) : CallR X (.builtin "any") (rOfN Γ dAny) := by
  intro pins s σ H xs us Q I r h
  obtain ⟨F, ds, p, tr, h1, ho, q⟩ := h
  unfold dAny at ho
  split at ho
  · split at ho
    · rename_i hb
      cases ho
      obtain ⟨x, rfl, hx⟩ := rs1 h1
      obtain ⟨a, ys, rfl, l, _, rr⟩ := rList hx
      obtain ⟨b1, b2⟩ := bools_fine hb
      obtain ⟨its, rv, il, _, as, hr⟩ := list_reads g I l b1 rr
      rw [ref1 r]
      exact PySem.W.any_list_data (I.ok.hd (g.calm hh)) il (by simpa using hr) b1 b2 fun h' tk kp => ⟨.bl _, H, I.kept kp, rfl, q _ _ aBool⟩
    · cases ho
  · cases ho
/-! ### ints: sum, max, min, abs, int -/
def intsOf : List D → Option (List Int)
  | [] => some []
  | .int i :: ds => (intsOf ds).map (i :: ·)
  | _ :: _ => none
theorem intsOf_eq : ∀ {ds : List D} {ns : List Int}, intsOf ds = some ns → ds = ns.map PyData.int
  | [], ns, h => by cases h; rfl
  | d :: ds, ns, h => by
    cases d with
    | int i =>
      obtain ⟨ms, e, rfl⟩ := Option.map_eq_some_iff.mp (show (intsOf ds).map (i :: ·) = some ns from h)
      rw [List.map_cons, ← intsOf_eq e]
    | _ => cases h
theorem intsOf_map : ∀ ns : List Int, intsOf (ns.map PyData.int) = some ns
  | [] => rfl
  | n :: ns => by simp [intsOf, intsOf_map ns]
theorem rep_ints : ∀ {ns : List Int} {xs : List V}, Γ.RL F H (ns.map PyData.int) xs → xs = ns.map V.int
  | [], xs, h => by simpa only [List.map_nil, RepL] using h
  | n :: ns, xs, h => by
    simp only [List.map_cons, RepL] at h
    obtain ⟨v, vs, rfl, r1, r2⟩ := h
    simp only [RepV] at r1
    rw [r1, List.map_cons, rep_ints r2]
theorem ints_rep : ∀ {ns : List Int}, Γ.RL F H (ns.map PyData.int) (ns.map V.int)
  | [] => RepL.nil
  | n :: ns => RepL.cons vInt ints_rep
def dSum : List D → Option (D × Bool)
  | [.list xs] => (intsOf xs).map fun ns => (.int ns.sum, false)
  | _ => none
theorem c_sum (g : Gd Γ X sc st k) (hh : Γ.hot = false) : CallR X (.builtin "sum") (rOfN Γ dSum) := by
  intro pins s σ H xs us Q I r h
  obtain ⟨F, ds, p, tr, h1, ho, q⟩ := h
  unfold dSum at ho
  split at ho
  · obtain ⟨ns, e, rfl⟩ := Option.map_eq_some_iff.mp ho
    obtain ⟨x, rfl, hx⟩ := rs1 h1
    obtain ⟨a, ys, rfl, l, _, rr⟩ := rList hx
    rw [intsOf_eq e] at rr
    rw [rep_ints rr, ← g.K] at l
    exact cr_sum (g.calm hh) pins s σ H _ us Q I r ⟨a, ns, rfl, l, q _ _ aInt⟩
  · cases ho
def foldMax (n : Int) (ns : List Int) : Int := ns.foldl max n
def foldMin (n : Int) (ns : List Int) : Int := ns.foldl min n
theorem foldMax_of : ∀ (ns : List Int) (n m : Int), m ∈ n :: ns → (∀ y ∈ n :: ns, y ≤ m) → ns.foldl max n = m
  | [], n, m, h, _ => by simp at h; simp [h]
  | x :: ns, n, m, h, g => by
    rw [List.foldl_cons]
    refine foldMax_of ns (max n x) m ?_ fun y hy => ?_
    · have g1 := g n (by simp)
      have g2 := g x (by simp)
      rcases List.mem_cons.mp h with e | h
      · have : max n x = m := by omega
        simp [this]
      · rcases List.mem_cons.mp h with e | h
        · have : max n x = m := by omega
          simp [this]
        · simp [h]
    · rcases List.mem_cons.mp hy with e | hy
      · have g1 := g n (by simp)
        have g2 := g x (by simp)
        omega
      · exact g y (by simp [hy])
theorem foldMin_of : ∀ (ns : List Int) (n m : Int), m ∈ n :: ns → (∀ y ∈ n :: ns, m ≤ y) → ns.foldl min n = m
  | [], n, m, h, _ => by simp at h; simp [h]
  | x :: ns, n, m, h, g => by
    rw [List.foldl_cons]
    refine foldMin_of ns (min n x) m ?_ fun y hy => ?_
    · have g1 := g n (by simp)
      have g2 := g x (by simp)
      rcases List.mem_cons.mp h with e | h
      · have : min n x = m := by omega
        simp [this]
      · rcases List.mem_cons.mp h with e | h
        · have : min n x = m := by omega
          simp [this]
        · simp [h]
    · rcases List.mem_cons.mp hy with e | hy
      · have g1 := g n (by simp)
        have g2 := g x (by simp)
        omega
      · exact g y (by simp [hy])
def dMax : List D → Option (D × Bool)
  | [.list xs] => (intsOf xs).bind fun ns => match ns with | [] => none | n :: ns => some (.int (foldMax n ns), false)
  | [.int a, .int b] => some (.int (if b > a then b else a), false)
  | _ => none
def dMin : List D → Option (D × Bool)
  | [.list xs] => (intsOf xs).bind fun ns => match ns with | [] => none | n :: ns => some (.int (foldMin n ns), false)
  | [.int a, .int b] => some (.int (if b < a then b else a), false)
  | _ => none
theorem c_max (g : Gd Γ X sc st k) (hh : Γ.hot = false) : CallR X (.builtin "max") (rOfN Γ dMax) := by
  intro pins s σ H xs us Q I r h
  obtain ⟨F, ds, p, tr, h1, ho, q⟩ := h
  unfold dMax at ho
  split at ho
  · obtain ⟨ns, e, e2⟩ := Option.bind_eq_some_iff.mp ho
    cases ns with
    | nil => cases e2
    | cons n ns =>
      cases e2
      obtain ⟨x, rfl, hx⟩ := rs1 h1
      obtain ⟨a, ys, rfl, l, _, rr⟩ := rList hx
      rw [intsOf_eq e] at rr
      rw [rep_ints rr, ← g.K] at l
      refine cr_max (g.calm hh) pins s σ H _ us Q I r ⟨a, n :: ns, rfl, l, Nat.succ_pos _, fun m hm hl => ?_⟩
      rw [← foldMax_of ns n m hm hl]
      exact q _ _ aInt
  · cases ho
    obtain ⟨x, y, rfl, hx, hy⟩ := rs2 h1
    obtain rfl := rInt hx
    obtain rfl := rInt hy
    exact call_max2 (g.calm hh) pins s σ H _ us Q I r ⟨_, _, rfl, q _ _ aInt⟩
  · cases ho
theorem c_min (g : Gd Γ X sc st k) (hh : Γ.hot = false) : CallR X (.builtin "min") (rOfN Γ dMin) := by
  intro pins s σ H xs us Q I r h
  obtain ⟨F, ds, p, tr, h1, ho, q⟩ := h
  unfold dMin at ho
  split at ho
  · obtain ⟨ns, e, e2⟩ := Option.bind_eq_some_iff.mp ho
    cases ns with
    | nil => cases e2
    | cons n ns =>
      cases e2
      obtain ⟨x, rfl, hx⟩ := rs1 h1
      obtain ⟨a, ys, rfl, l, _, rr⟩ := rList hx
      rw [intsOf_eq e] at rr
      rw [rep_ints rr, ← g.K] at l
      refine cr_min (g.calm hh) pins s σ H _ us Q I r ⟨a, n :: ns, rfl, l, Nat.succ_pos _, fun m hm hl => ?_⟩
      rw [← foldMin_of ns n m hm hl]
      exact q _ _ aInt
  · cases ho
    obtain ⟨x, y, rfl, hx, hy⟩ := rs2 h1
    obtain rfl := rInt hx
    obtain rfl := rInt hy
    exact call_min2 (g.calm hh) pins s σ H _ us Q I r ⟨_, _, rfl, q _ _ aInt⟩
  · cases ho
def dAbs : List D → Option (D × Bool)
  | [.int a] => some (.int (if a < 0 then -a else a), false)
  | _ => none
theorem c_abs : CallR X (.builtin "abs") (rOfN Γ dAbs) := by
  intro pins s σ H xs us Q I r h
  obtain ⟨F, ds, p, tr, h1, ho, q⟩ := h
  unfold dAbs at ho
  split at ho
  · cases ho
    obtain ⟨x, rfl, hx⟩ := rs1 h1
    obtain rfl := rInt hx
    exact call_abs pins s σ H _ us Q I r ⟨_, rfl, q _ _ aInt⟩
  · cases ho
def dInt : List D → Option (D × Bool)
  | [.int a] => some (.int a, false)
  | [.bool b] => some (.int (if b then 1 else 0), false)
  | _ => none
theorem c_int : CallR X (.type "int") (rOfN Γ dInt) := by
  intro pins s σ H xs us Q I r h
  obtain ⟨F, ds, p, tr, h1, ho, q⟩ := h
  unfold dInt at ho
  split at ho
  · cases ho
    obtain ⟨x, rfl, hx⟩ := rs1 h1
    obtain rfl := rInt hx
    exact call_int1 pins s σ H _ us Q I r (.inl ⟨_, rfl, q _ _ aInt⟩)
  · cases ho
    obtain ⟨x, rfl, hx⟩ := rs1 h1
    obtain rfl := rBool hx
    exact call_int1 pins s σ H _ us Q I r (.inr ⟨_, rfl, q _ _ aInt⟩)
  · cases ho
/-! ### tuple, list -/
def dTuple : List D → Option (D × Bool)
  | [.list xs] => some (.tuple xs, false)
  | [.tuple xs] => some (.tuple xs, false)
  | _ => none
def dList : List D → Option (D × Bool)
  | [.list xs] => some (.list xs, true)
  | [.tuple xs] => some (.list xs, true)
  | _ => none
theorem c_tuple (g : Gd Γ X sc st k) : CallR X (.type "tuple") (rOfN Γ dTuple) := by
  intro pins s σ H xs us Q I r h
  obtain ⟨F, ds, p, tr, h1, ho, q⟩ := h
  unfold dTuple at ho
  split at ho
  · cases ho
    obtain ⟨x, rfl, hx⟩ := rs1 h1
    obtain ⟨a, ys, rfl, l, z, rr⟩ := rList hx
    rw [← g.K] at l
    exact call_tuple_of pins s σ H _ us Q I r ⟨a, ys, rfl, .inl ⟨l, fun p hp => q _ _ (.newTup tr hp z rr)⟩⟩
  · cases ho
    obtain ⟨x, rfl, hx⟩ := rs1 h1
    obtain ⟨a, ys, rfl, l, z, rr⟩ := rTup hx
    exact call_tuple_of pins s σ H _ us Q I r ⟨a, ys, rfl, .inr ⟨by rw [g.K]; exact l, q _ _ (.plain (by simp only [RepV]; exact ⟨a, ys, rfl, l, z, rr⟩))⟩⟩
  · cases ho
theorem c_list (g : Gd Γ X sc st k) : CallR X (.type "list") (rOfN Γ dList) := by
  intro pins s σ H xs us Q I r h
  obtain ⟨F, ds, p, tr, h1, ho, q⟩ := h
  unfold dList at ho
  split at ho
  · cases ho
    obtain ⟨x, rfl, hx⟩ := rs1 h1
    obtain ⟨a, ys, rfl, l, z, rr⟩ := rList hx
    rw [← g.K] at l
    exact call_list_of pins s σ H _ us Q I r ⟨a, ys, rfl, .inl l, fun p hp => q _ _ (.newList tr hp z rr)⟩
  · cases ho
    obtain ⟨x, rfl, hx⟩ := rs1 h1
    obtain ⟨a, ys, rfl, l, z, rr⟩ := rTup hx
    rw [← g.K] at l
    exact call_list_of pins s σ H _ us Q I r ⟨a, ys, rfl, .inr l, fun p hp => q _ _ (.newList tr hp z rr)⟩
  · cases ho
/-! ### sorted -/
def tup1 : D → Bool
  | .tuple (_ :: _) => true
  | _ => false
def noTup : D → Bool
  | .tuple _ => false
  | .none => false
  | _ => true
def okS (ds : List D) : Bool := PyData.plainAll ds && (ds.all fun a => ds.all fun b => PySem.W.alike a b) && (ds.all tup1 || ds.all noTup) && decide (PyData.depthAll ds ≤ 64)
def sortD (ds : List D) : List D := ds.mergeSort (PySem.W.dataLe false id)
def dSorted : List D → Option (D × Bool)
  | [.list xs] => if okS xs = true then some (.list (sortD xs), true) else none
  | _ => none
theorem each_mk : ∀ {ds : List D} {xs : List V} {its : List Value}, Γ.RL F H ds xs → Vals xs its → PySem.W.EachIs (fun v d => ∃ x, RelV x v ∧ Γ.RV F H d x) its ds
  | [], xs, its, r, rv => by
    simp only [RepL] at r
    subst r
    cases rv
    exact .nil
  | d :: ds, xs, its, r, rv => by
    simp only [RepL] at r
    obtain ⟨x, xs', rfl, r1, r2⟩ := r
    cases rv with
    | cons a b => exact .cons ⟨x, a, r1⟩ (each_mk r2 b)
theorem each_un : ∀ {ds : List D} {its : List Value}, PySem.W.EachIs (fun v d => ∃ x, RelV x v ∧ Γ.RV F H d x) its ds → ∃ xs, Vals xs its ∧ Γ.RL F H ds xs
  | [], _, .nil => ⟨[], .nil, RepL.nil⟩
  | d :: ds, _, .cons ⟨x, r, h⟩ t => by
    obtain ⟨xs, rv, rl⟩ := each_un t
    exact ⟨x :: xs, .cons r rv, RepL.cons h rl⟩
theorem depthAll_mem : ∀ {ds : List D} {d : D}, d ∈ ds → d.depth ≤ PyData.depthAll ds
  | [], d, h => nomatch h
  | e :: ds, d, h => by
    simp only [PyData.depthAll]
    rcases List.mem_cons.mp h with rfl | h
    · omega
    · have := depthAll_mem h
      omega
theorem okS_u {ds : List D} (h : okS ds = true) : PyData.plainAll ds = true ∧ PySem.W.AllAlike ds ∧ PySem.W.Sortable ds ∧ ∀ d ∈ ds, d.depth ≤ 64 := by
  unfold okS at h
  simp only [Bool.and_eq_true, Bool.or_eq_true, decide_eq_true_eq, List.all_eq_true] at h
  obtain ⟨⟨⟨h1, h2⟩, h3⟩, h4⟩ := h
  refine ⟨h1, fun d hd d' hd' => h2 d hd d' hd', ?_, fun d hd => Nat.le_trans (depthAll_mem hd) h4⟩
  rcases h3 with h3 | h3
  · left
    intro d hd
    have := h3 d hd
    unfold tup1 at this
    split at this
    · exact ⟨_, _, rfl⟩
    · cases this
  · right
    intro d hd
    have := h3 d hd
    unfold noTup at this
    split at this
    · cases this
    · cases this
    · rename_i n1 n2
      exact ⟨fun e => n2 e, fun xs e => n1 xs e⟩
theorem each_reads {h : Heap} : ∀ {ds : List D} {its : List Value} {as : List Addr}, ReadsAll h its ds as → PySem.W.EachIs (fun v d => ∃ as, Reads h v d as) its ds
  | [], _, _, .nil => .nil
  | d :: ds, _, _, .cons a b => .cons ⟨_, a⟩ (each_reads b)
theorem c_sorted (g : Gd Γ X sc st k) : CallR X (.builtin "sorted") (rOfN Γ dSorted) := by
  intro pins s σ H xs us Q I r h
  obtain ⟨F, ds, p, tr, h1, ho, q⟩ := h
  unfold dSorted at ho
  split at ho
  · split at ho
    · rename_i hb
      cases ho
      obtain ⟨x, rfl, hx⟩ := rs1 h1
      obtain ⟨a, ys, rfl, l, hz, rr⟩ := rList hx
      obtain ⟨b1, b2, b3, b4⟩ := okS_u hb
      obtain ⟨its, rv, il, _, as, hr⟩ := list_reads g I l b1 rr
      rw [ref1 r]
      have hu := g.room.un
      refine PySem.W.sorted_data (enc := id) (R := fun v d => ∃ x, RelV x v ∧ Γ.RV F H d x) il (each_mk rr rv) (each_reads hr) (by rw [List.map_id]; exact b2) (by rw [List.map_id]; exact b3) (by rw [rr.length]; exact hz) (fun b hb' => ?_) fun out hl ho => ?_
      · have := b4 b hb'
        show X.A.units + 2 + b.depth < cLine
        omega
      · obtain ⟨zs, rz, lz⟩ := each_un ho
        rcases PyProof.Rows.sortedAll_at s.heap its out.toArray with ⟨ep, he'⟩
        have hlen : zs.length ≤ sizeLine := by rw [rz.length, hl, rr.length]; exact hz
        exact ⟨.ref _, upd H (s.heap.objs.size + 1) (.lst zs), I.laid (t' := s.toks) (fun _ _ => PyProof.Rows.sortedAll_old) (Nat.le_succ _) ⟨hlen, out, ep, rz, he'⟩, rfl, q _ _ (.newList tr (I.hok.fresh (Nat.le_succ _)) hlen lz)⟩
    · cases ho
  · cases ho
/-! ### repr -/
def noDicts (d : D) : Bool := d.plain && !d.hasDict
def dRepr : List D → Option (D × Bool)
  | [.none] => some (.str "None", false)
  | [.bool b] => some (.str (if b then "True" else "False"), false)
  | [.str x] => if (reprText x).length ≤ sizeLine then some (.str (reprText x), false) else none
  | [.int i] => if i.natAbs.log2 < 1920 then some (.str (toString i), false) else none
  | [.list ds] => if (noDicts (.list ds) && PyData.showable (.list ds) && decide (PyData.depth (.list ds) ≤ 64) && decide ((PyData.shown (.list ds)).length ≤ sizeLine)) = true then some (.str (PyData.shown (.list ds)), false) else none
  | [.tuple ds] => if (noDicts (.tuple ds) && PyData.showable (.tuple ds) && decide (PyData.depth (.tuple ds) ≤ 64) && decide ((PyData.shown (.tuple ds)).length ≤ sizeLine)) = true then some (.str (PyData.shown (.tuple ds)), false) else none
  | _ => none
theorem repr_ref (g : Gd Γ X sc st k) (hgb : Γ.gb = true) {d : D} {a : Addr} {pins : List (Addr × Obj)} {s : Shared} {σ : L2.St} {Q : VK} (I : Inv X pins σ H s) (h : RepR Γ F H d (.ref a)) (hb : (noDicts d && PyData.showable d && decide (d.depth ≤ 64) && decide (d.shown.length ≤ sizeLine)) = true) (q : Q (.str d.shown) H) :
    wpAny (model X.prog X.w) X.A (call (.builtin "repr") [.ref a]) (EP X pins σ Q) X.xe s := by
  simp only [Bool.and_eq_true, decide_eq_true_eq, noDicts, Bool.not_eq_true'] at hb
  obtain ⟨⟨⟨⟨b1, b2⟩, b3⟩, b4⟩, b5⟩ := hb
  obtain ⟨as, hr⟩ := read_of g I b1 h (rfl : RelV (.ref a) (.ref a))
  have hu := g.room.un
  exact PySem.repr_of_reads' hr b3 (PyData.noDict_hsm b2) (g.gd hgb) (by omega) (fun _ _ e => e) (fun h' u tk kp => ⟨.str _, H, I.kept kp, ⟨_, rfl⟩, q⟩) b5
theorem c_repr (g : Gd Γ X sc st k) (hgb : Γ.gb = true) : CallR X (.builtin "repr") (rOfN Γ dRepr) := by
  intro pins s σ H xs us Q I r h
  obtain ⟨F, ds, p, tr, h1, ho, q⟩ := h
  unfold dRepr at ho
  split at ho
  · cases ho
    obtain ⟨x, rfl, hx⟩ := rs1 h1
    obtain rfl := rNone hx
    obtain ⟨u, rfl, rfl⟩ := vals1 r
    exact PySem.P.repr_of_none ⟨.str _, H, I.tok _, ⟨_, rfl⟩, q _ _ aStr⟩
  · cases ho
    obtain ⟨x, rfl, hx⟩ := rs1 h1
    obtain rfl := rBool hx
    obtain ⟨u, rfl, rfl⟩ := vals1 r
    exact PySem.P.repr_of_bool ⟨.str _, H, I.tok _, ⟨_, rfl⟩, q _ _ aStr⟩
  · split at ho
    · rename_i hb
      cases ho
      obtain ⟨x, rfl, hx⟩ := rs1 h1
      obtain rfl := rStr hx
      rcases vals1 r with ⟨u, rfl, t, rfl⟩
      exact PySem.P.repr_of_str ⟨.str _, H, I.tok _, ⟨_, rfl⟩, q _ _ aStr⟩ hb
    · cases ho
  · split at ho
    · rename_i hb
      cases ho
      obtain ⟨x, rfl, hx⟩ := rs1 h1
      obtain rfl := rInt hx
      exact SkE.call_repr_int pins s σ H _ us Q I r ⟨_, rfl, hb, q _ _ aStr⟩
    · cases ho
  · split at ho
    · rename_i hb
      cases ho
      obtain ⟨x, rfl, hx⟩ := rs1 h1
      obtain ⟨a, ys, rfl, _⟩ := id (rList hx)
      rw [ref1 r]
      exact repr_ref g hgb I hx hb (q _ _ aStr)
    · cases ho
  · split at ho
    · rename_i hb
      cases ho
      obtain ⟨x, rfl, hx⟩ := rs1 h1
      obtain ⟨a, ys, rfl, _⟩ := id (rTup hx)
      rw [ref1 r]
      exact repr_ref g hgb I hx hb (q _ _ aStr)
    · cases ho
  · cases ho
end
end Ow

namespace Ow
open PySem PyProof.Rows PySem.Spec L2 LamX

/-- what is walked, told by data: the items, the sources as they lie -/
abbrev Src := List (D × Option Nat)
abbrev EvI := AE → Res (List D × Src)
/-- the sources are read -/
def Rdy (Γ : Ctx) (F : Addr → Prop) (H : Hp) (bs : Src) (vs : List V) : Prop := RepRs Γ F H (bs.map (·.1)) vs
/-- the walk J gives the items ds, while the sources are as they were -/
def WalkD (Γ : Ctx) (J : It) (ds : List D) (bs : Src) (vs : List V) : Prop := ∀ (F : Addr → Prop) (H : Hp), (∀ a, F a → NTo H a) → Rdy Γ F H bs vs →
  (∀ i, i < ds.length → J.go i H) ∧ J.stop ds.length H ∧ ∀ i x H', i < ds.length → J.yld i H x H' → ∃ d, ds[i]? = some d ∧ Ext H H' ∧ Γ.RV F H' d x
def RepBs (Γ : Ctx) (F : Addr → Prop) (H : Hp) (σ : L2.St) : Src → List V → Prop
  | [], vs => vs = []
  | p :: ps, vs => ∃ v us, vs = v :: us ∧ RepB Γ F H σ p v ∧ RepBs Γ F H σ ps us
def tI (Γ : Ctx) (W : WX) (f : EvI) : TI := fun σ H R => ∃ F ρ, GInv Γ F H ∧ RepS Γ F H σ ρ ∧ Out Γ W (f ρ) F H σ fun p ρ' F' H' => ∀ J vs, p.1.length ≤ sizeLine → RepBs Γ F' H' σ p.2 vs → stills p.2 ρ' = true → WalkD Γ J p.1 p.2 vs → R J H'
section
variable {Γ : Ctx} {F F' : Addr → Prop} {H H' : Hp} {σ : L2.St} {ρ : AE}
theorem RepBs.mono (k : Fk F H F' H') : ∀ {bs : Src} {vs : List V}, RepBs Γ F H σ bs vs → RepBs Γ F' H' σ bs vs
  | [], vs, h => h
  | p :: ps, vs, h => by
    obtain ⟨v, us, e, r, t⟩ := h
    exact ⟨v, us, e, r.mono k, RepBs.mono k t⟩
theorem RepS.reads (S : RepS Γ F H σ ρ) : ∀ {bs : Src} {vs : List V}, RepBs Γ F H σ bs vs → stills bs ρ = true → Rdy Γ F H bs vs
  | [], vs, h, _ => h
  | p :: ps, vs, h, hs => by
    obtain ⟨v, us, e, r, t⟩ := h
    simp only [stills, Bool.and_eq_true] at hs
    exact ⟨v, us, e, S.read r hs.1, S.reads t hs.2⟩
end
/-! ### a list, a tuple, a text -/
def signs (x : Str) : List D := x.cps.toList.map fun c => .str ⟨#[c]⟩
def itemsD : D → Option (List D)
  | .list xs => some xs
  | .tuple xs => some xs
  | .str x => if x.cps.size ≤ sizeLine then some (signs x) else none
  | _ => none
def iSeq (f : EvO) : EvI := fun ρ => (f ρ).bind fun p ρ' => match itemsD p.1 with | some ds => .ok (ds, [p]) ρ' | none => .stuck
section
variable {Γ : Ctx} {X : Cx} {sc : Scope} {st : Str → Bool} {k : Nat} {W : WX}
theorem walkD_list {a : Addr} {ds : List D} {b : Option Nat} : WalkD Γ (Itl Γ.K a) ds [(.list ds, b)] [.ref a] := fun F H tr h => by
  obtain ⟨x, e, hx⟩ := rs1 h
  cases e
  obtain ⟨a', xs, e, l, z, r⟩ := rList hx
  cases e
  have hl := r.length
  refine ⟨fun i hi => ?_, ⟨xs, l, by rw [hl]; exact Nat.le_refl _⟩, fun i x H' hi hy => ?_⟩
  · obtain ⟨v, hv⟩ : ∃ v, xs[i]? = some v := ⟨_, List.getElem?_eq_getElem (by rw [← hl]; exact hi)⟩
    exact ⟨xs, v, l, hv⟩
  · obtain ⟨rfl, q⟩ := hy
    obtain ⟨d, hd⟩ : ∃ d, ds[i]? = some d := ⟨_, List.getElem?_eq_getElem hi⟩
    obtain ⟨v, hv, rv⟩ := r.get hd
    have := q xs l
    rw [hv] at this
    cases this
    exact ⟨d, hd, Ext.refl, rv⟩
theorem walkD_tup {a : Addr} {ds : List D} {b : Option Nat} : WalkD Γ (Itt Γ.K a) ds [(.tuple ds, b)] [.ref a] := fun F H tr h => by
  obtain ⟨x, e, hx⟩ := rs1 h
  cases e
  obtain ⟨a', xs, e, l, z, r⟩ := rTup hx
  cases e
  have hl := r.length
  refine ⟨fun i hi => ?_, ⟨xs, l, by rw [hl]; exact Nat.le_refl _⟩, fun i x H' hi hy => ?_⟩
  · obtain ⟨v, hv⟩ : ∃ v, xs[i]? = some v := ⟨_, List.getElem?_eq_getElem (by rw [← hl]; exact hi)⟩
    exact ⟨xs, v, l, hv⟩
  · obtain ⟨rfl, q⟩ := hy
    obtain ⟨d, hd⟩ : ∃ d, ds[i]? = some d := ⟨_, List.getElem?_eq_getElem hi⟩
    obtain ⟨v, hv, rv⟩ := r.get hd
    have := q xs l
    rw [hv] at this
    cases this
    exact ⟨d, hd, Ext.refl, rv⟩
theorem walkD_str {z : Str} {b : Option Nat} {vs : List V} : WalkD Γ (Its z) (signs z) [(.str z, b)] vs := fun F H tr h => by
  have hl : (signs z).length = z.cps.size := by unfold signs; simp
  have w := walk_str (z := z)
  refine ⟨fun i hi => w.goes i H (by rw [← hl]; exact hi) True.intro, by rw [hl]; exact w.stops H True.intro, fun i x H' hi hy => ?_⟩
  obtain ⟨e, c, hc, ex⟩ := w.yields i H x H' (by rw [← hl]; exact hi) True.intro hy
  subst e
  subst ex
  refine ⟨.str ⟨#[c]⟩, ?_, Ext.refl, vStr⟩
  unfold signs
  rw [List.getElem?_map, Array.getElem?_toList, hc]
  rfl
/-- what an iterator over a list, a tuple, a text is -/
def iAny (K : PySem.W.Frag) (te : TE) : TI := fun σ H R => te σ H fun x H1 => (∃ a, x = .ref a ∧ (∃ xs, SqL K H1 a xs) ∧ R (Itl K a) H1) ∨ (∃ a, x = .ref a ∧ (∃ xs, SqT K H1 a xs) ∧ R (Itt K a) H1) ∨ ∃ z, x = .str z ∧ R (Its z) H1
theorem pi_any {l tg : Expr} {tl : TE} (hl : PE X l tl) : PI X tg l (iAny X.K tl) := by
  refine ⟨fun pins s σ H R I h => ?_⟩
  refine thn (hl.run pins s σ H _ I h) ?_
  rintro v s1 ⟨x, H1, I1, r1, ⟨a, e, ⟨xs, hq⟩, q⟩ | ⟨a, e, ⟨xs, hq⟩, q⟩ | ⟨z, e, q⟩⟩
  · subst e
    cases r1
    obtain ⟨_, _, p, _⟩ := I1.list hq
    exact wpAny_pyIter_list p.isList (pi_one (tk := s1.toks) I1 _ (turn_list a _) ⟨_, Heap.get?_push_size _ rfl, rfl, rfl⟩ q)
  · subst e
    cases r1
    obtain ⟨vs1, _, p, _⟩ := I1.tuple hq
    have p : s1.heap.IsTuple a vs1.toArray := p
    exact wpAny_pyIter_tuple p (pi_one (tk := s1.toks) I1 _ (turn_tuple a _) ⟨_, Heap.get?_push_size _ rfl, rfl, rfl⟩ q)
  · subst e
    obtain ⟨t, rfl⟩ := r1
    cases ha : z.cps.all (· < 128)
    · exact wpAny_pyIter_wide ha (pi_one (tk := s1.toks) I1 _ (turn_str _ z t "str_iterator" (.inr rfl)) ⟨_, Heap.get?_push_size _ rfl, rfl, rfl⟩ q)
    · exact wpAny_pyIter_ascii ha (pi_one (tk := s1.toks) I1 _ (turn_str _ z t "str_ascii_iterator" (.inl rfl)) ⟨_, Heap.get?_push_size _ rfl, rfl, rfl⟩ q)
theorem pi_imp {tg iter : Expr} {t t' : TI} (h : PI X tg iter t) (i : ∀ σ H R, t' σ H R → t σ H R) : PI X tg iter t' := ⟨fun pins s σ H R I q => h.run pins s σ H R I (i σ H R q)⟩
theorem di_seq {e tg : Expr} {f : EvO} (g : Gd Γ X sc st k) (h : PE X e (tO Γ W f)) : PI X tg e (tI Γ W (iSeq f)) := by
  refine pi_imp (pi_any h) fun σ H R ⟨F, ρ, G, S, O⟩ => ?_
  refine ⟨F, ρ, G, S, (Out.bind O).imp fun p ρ1 F1 H1 k1 G1 S1 O1 x hx sx => ?_⟩
  obtain ⟨d, b⟩ := p
  have hr := S1.read hx sx
  have bs : RepBs Γ F1 H1 σ [(d, b)] [x] := ⟨x, [], rfl, hx, rfl⟩
  have ss : stills [(d, b)] ρ1 = true := by simp only [stills, Bool.and_true]; exact sx
  cases d with
  | list ds =>
    obtain ⟨a, xs, rfl, l, z, r⟩ := rList hr
    exact .inl ⟨a, rfl, ⟨xs, by rw [g.K]; exact l⟩, O1 F1 H1 Fk.refl G1 S1 _ _ (by show ds.length ≤ _; rw [r.length]; exact z) bs ss (by rw [g.K]; exact walkD_list)⟩
  | tuple ds =>
    obtain ⟨a, xs, rfl, l, z, r⟩ := rTup hr
    exact .inr (.inl ⟨a, rfl, ⟨xs, by rw [g.K]; exact l⟩, O1 F1 H1 Fk.refl G1 S1 _ _ (by show ds.length ≤ _; rw [r.length]; exact z) bs ss (by rw [g.K]; exact walkD_tup)⟩)
  | str z =>
    obtain rfl := rStr hr
    simp only [itemsD] at O1
    by_cases hz : z.cps.size ≤ sizeLine
    · rw [if_pos hz] at O1
      exact .inr (.inr ⟨z, rfl, O1 F1 H1 Fk.refl G1 S1 _ _ (by show (signs z).length ≤ _; unfold signs; simpa using hz) bs ss walkD_str⟩)
    · rw [if_neg hz] at O1
      exact O1.elim
  | _ => exact O1.elim
/-! ### range -/
def rangeD (lo : Int) (n : Nat) : List D := (List.range n).map fun (i : Nat) => .int (lo + (i : Int))
@[irreducible] def iRange1 (f : EvO) : EvI := fun ρ => (f ρ).bind fun p ρ' => match p.1 with | .int j => (if j < 2 ^ 24 ∧ -(2 ^ 62) ≤ j then .ok (rangeD 0 j.toNat, []) ρ' else .stuck) | _ => .stuck
@[irreducible] def iRange2 (f f2 : EvO) : EvI := fun ρ => (f ρ).bind fun p ρ' => (f2 ρ').bind fun q ρ2 => match p.1, q.1 with
  | .int i, .int j => (if -(2 ^ 62) ≤ i ∧ i < 2 ^ 62 ∧ -(2 ^ 62) ≤ j ∧ j < 2 ^ 62 ∧ j - i < 2 ^ 24 then .ok (rangeD i (j - i).toNat, []) ρ2 else .stuck)
  | _, _ => .stuck
theorem walkD_range {lo : Int} {n : Nat} {vs : List V} : WalkD Γ (Itr lo n) (rangeD lo n) [] vs := fun F H tr h => by
  have hl : (rangeD lo n).length = n := by unfold rangeD; simp
  refine ⟨fun i hi => ?_, ?_, fun i x H' hi hy => ?_⟩
  · show i < n
    rw [← hl]; exact hi
  · show n ≤ (rangeD lo n).length
    rw [hl]; exact Nat.le_refl _
  · obtain ⟨rfl, rfl⟩ := hy
    rw [hl] at hi
    refine ⟨.int (lo + i), ?_, Ext.refl, vInt⟩
    unfold rangeD
    rw [List.getElem?_map, List.getElem?_range hi]
    rfl
theorem di_range1 {e tg : Expr} {f : EvO} {p pos : Pos} (g : Gd Γ X sc st k) (hg : sc.names.lookup ("range" : Str) = some .globalImplicit) (hm : Γ.mg ("range" : Str) = none) (h : PE X e (tO Γ W f)) (hs : starEach [e] X.env = [(false, eval e X.env)]) :
    PI X tg (.Call (.Name "range" p) [e] [] pos) (tI Γ W (iRange1 f)) := by
  refine pi_imp (pi_range1 (by show X.env.scope.names.lookup _ = _; rw [g.scp]; exact hg) (by rw [g.mg]; exact hm) (pa_cons h pa_nil (by rw [hs]; rfl)) hs) fun σ H R ⟨F, ρ, G, S, O⟩ => ?_
  unfold iRange1 at O
  refine ⟨F, ρ, G, S, (Out.bind O).imp fun p ρ1 F1 H1 k1 G1 S1 O1 x hx sx => ?_⟩
  obtain ⟨d, b⟩ := p
  have hr := S1.read hx sx
  cases d with
  | int j =>
    obtain rfl := rInt hr
    simp only at O1
    split at O1
    · rename_i hj
      exact ⟨j, rfl, hj.2, by omega, O1 F1 H1 Fk.refl G1 S1 _ [] (by show (rangeD 0 j.toNat).length ≤ _; rw [sizeLine_eq]; unfold rangeD; rw [List.length_map, List.length_range]; omega) rfl rfl walkD_range⟩
    · exact O1.elim
  | _ => exact O1.elim
theorem di_range2 {e e2 tg : Expr} {f f2 : EvO} {p pos : Pos} (g : Gd Γ X sc st k) (hg : sc.names.lookup ("range" : Str) = some .globalImplicit) (hm : Γ.mg ("range" : Str) = none) (h : PE X e (tO Γ W f)) (h2 : PE X e2 (tO Γ W f2)) (hs : starEach [e, e2] X.env = [(false, eval e X.env), (false, eval e2 X.env)])
    (hs2 : starEach [e2] X.env = [(false, eval e2 X.env)]) : PI X tg (.Call (.Name "range" p) [e, e2] [] pos) (tI Γ W (iRange2 f f2)) := by
  refine pi_imp (pi_range2 (by show X.env.scope.names.lookup _ = _; rw [g.scp]; exact hg) (by rw [g.mg]; exact hm) (pa_cons h (pa_cons h2 pa_nil (by rw [hs2]; rfl)) (by rw [hs, hs2])) hs hs2) fun σ H R ⟨F, ρ, G, S, O⟩ => ?_
  unfold iRange2 at O
  refine ⟨F, ρ, G, S, (Out.bind O).imp fun p ρ1 F1 H1 k1 G1 S1 O1 x hx sx => ?_⟩
  refine ⟨F1, ρ1, G1, S1, (Out.bind O1).imp fun q ρ2 F2 H2 k2 G2 S2 O2 y hy sy => ?_⟩
  obtain ⟨d, b⟩ := p
  obtain ⟨d2, b2⟩ := q
  have hr2 := S2.read hy sy
  cases d with
  | int i =>
    cases d2 with
    | int j =>
      have hr := S1.read hx sx
      obtain rfl := rInt hr
      obtain rfl := rInt hr2
      simp only at O2
      split at O2
      · rename_i hj
        exact ⟨i, j, rfl, ⟨hj.1, hj.2.1, hj.2.2.1, hj.2.2.2.1⟩, O2 F2 H2 Fk.refl G2 S2 _ [] (by show (rangeD i (j - i).toNat).length ≤ _; rw [sizeLine_eq]; unfold rangeD; rw [List.length_map, List.length_range]; omega) rfl rfl walkD_range⟩
      · exact O2.elim
    | _ => exact O2.elim
  | _ => exact O2.elim
end
/-! ### targets -/
inductive Tg where
  | name (i : Nat)
  | tup (is : List Tg)
mutual
def bindT : Tg → D → AE → Option AE
  | .name i, d, ρ => match ρ[i]? with | some (.ino _) => none | some _ => some (ρ.set i (.val d)) | none => none
  | .tup is, .tuple ds, ρ => if is.length = ds.length then bindTs is ds ρ else none
  | .tup _, _, _ => none
def bindTs : List Tg → List D → AE → Option AE
  | [], [], ρ => some ρ
  | t :: ts, d :: ds, ρ => match bindT t d ρ with | some ρ' => bindTs ts ds ρ' | none => none
  | _, _, _ => none
end
mutual
def Tg.slots : Tg → List Nat
  | .name i => [i]
  | .tup is => slotsTs is
def slotsTs : List Tg → List Nat
  | [] => []
  | t :: ts => t.slots ++ slotsTs ts
end
/-- a target takes a value that is frozen -/
def tG (Γ : Ctx) (t : Tg) : TG := fun v σ H Q => ∃ F ρ d ρ', GInv Γ F H ∧ RepS Γ F H σ ρ ∧ Γ.RV F H d v ∧ bindT t d ρ = some ρ' ∧ ∀ σ', (∀ i, i ∉ t.slots → σ'[i]? = σ[i]?) → RepS Γ F H σ' ρ' → Q σ' H
def tGs (Γ : Ctx) (ts : List Tg) : TGs := fun vs σ H Q => ∃ F ρ ds ρ', GInv Γ F H ∧ RepS Γ F H σ ρ ∧ Γ.RL F H ds vs ∧ bindTs ts ds ρ = some ρ' ∧ ∀ σ', (∀ i, i ∉ slotsTs ts → σ'[i]? = σ[i]?) → RepS Γ F H σ' ρ' → Q σ' H
section
variable {Γ : Ctx} {X : Cx} {sc : Scope} {st : Str → Bool} {k : Nat} {W : WX}
theorem RepS.store {F : Addr → Prop} {H : Hp} {σ : L2.St} {ρ : AE} {i : Nat} {d : D} {v : V} {s : Slot} (S : RepS Γ F H σ ρ) (hi : ρ[i]? = some s) (hs : ∀ d, s ≠ .ino d) (h : Γ.RV F H d v) : RepS Γ F H (σ.set i (some v)) (ρ.set i (.val d)) := by
  have hρ := (List.getElem?_eq_some_iff.mp hi).1
  have hσ : i < σ.length := by rw [← S.len]; exact hρ
  have ns : ∀ {j : Nat}, j ≠ i → (σ.set i (some v))[j]? = σ[j]? := fun hj => List.getElem?_set_ne (Ne.symm hj)
  have back : ∀ j b, OwnAt (σ.set i (some v)) (ρ.set i (.val d)) j b → j ≠ i ∧ OwnAt σ ρ j b := fun j b ⟨e1, d1, o⟩ => by
    by_cases hj : j = i
    · subst hj
      rw [get_set_same hi] at o
      rcases o with o | o <;> cases o
    · rw [get_set_ne hj] at o
      rw [ns hj] at e1
      exact ⟨hj, e1, d1, o⟩
  refine ⟨by rw [List.length_set, List.length_set]; exact S.len, fun j d1 h1 => ?_, fun j d1 h1 => ?_, fun j d1 h1 => ?_, fun j l b o1 o2 => S.dis j l b (back j b o1).2 (back l b o2).2, S.exnB (fun e => Slot.noConfusion e)⟩
  · by_cases hj : j = i
    · subst hj
      rw [get_set_same hi] at h1
      cases h1
      exact ⟨v, List.getElem?_set_self hσ, h⟩
    · rw [get_set_ne hj] at h1
      rw [ns hj]
      exact S.val j d1 h1
  · by_cases hj : j = i
    · subst hj
      rw [get_set_same hi] at h1
      cases h1
    · rw [get_set_ne hj] at h1
      rw [ns hj]
      exact S.own j d1 h1
  · by_cases hj : j = i
    · subst hj
      rw [get_set_same hi] at h1
      cases h1
    · rw [get_set_ne hj] at h1
      rw [ns hj]
      exact S.ino j d1 h1
theorem pg_imp {tg : Expr} {t t' : TG} (h : PG X tg t) (i : ∀ v σ H Q, t' v σ H Q → t v σ H Q) : PG X tg t' := ⟨fun pins s σ H v u Q I r q => h.run pins s σ H v u Q I r (i v σ H Q q)⟩
theorem pgs_imp {tg : List Expr} {t t' : TGs} (h : PGs X tg t) (i : ∀ v σ H Q, t' v σ H Q → t v σ H Q) : PGs X tg t' := ⟨fun pins s σ H v u Q I r q => h.run pins s σ H v u Q I r (i v σ H Q q)⟩
theorem dg_name {i : Nat} {x : Str} {pos : Pos} (g : Gd Γ X sc st k) (hN : Γ.N[i]? = some x) (hx : st x = true) : PG X (.Name x pos) (tG Γ (.name i)) := by
  obtain ⟨h1, h2⟩ := g.st x hx
  refine pg_imp (pg_name (by rw [g.N]; exact g.nd) (by rw [g.N]; exact hN) (by rw [g.scp]; exact h1) (by rw [g.scp]; exact h2)) fun v σ H Q h => ?_
  obtain ⟨F, ρ, d, ρ', G, S, r, hb, q⟩ := h
  simp only [bindT] at hb
  split at hb
  · cases hb
  · rename_i s hs hi
    cases hb
    exact q _ (fun j hj => List.getElem?_set_ne (fun e => hj (by simp [Tg.slots, e]))) (S.store hi (fun d e => hs d e) r)
  · cases hb
theorem dgs_nil : PGs X [] (tGs Γ []) := pgs_imp pgs_nil fun v σ H Q h => by
  obtain ⟨F, ρ, ds, ρ', G, S, r, hb, q⟩ := h
  cases ds with
  | nil =>
    simp only [bindTs] at hb
    cases hb
    simp only [RepL] at r
    exact ⟨r, q σ (fun _ _ => rfl) S⟩
  | cons d ds => simp [bindTs] at hb
theorem dgs_cons {e : Expr} {es : List Expr} {t : Tg} {ts : List Tg} (h1 : PG X e (tG Γ t)) (h2 : PGs X es (tGs Γ ts)) (hs : (assignEach (e :: es) X.env).map (·.2) = assign e X.env :: (assignEach es X.env).map (·.2)) : PGs X (e :: es) (tGs Γ (t :: ts)) := pgs_imp (pgs_cons h1 h2 hs) fun vs σ H Q h => by
  obtain ⟨F, ρ, ds, ρ', G, S, r, hb, q⟩ := h
  cases ds with
  | nil => simp [bindTs] at hb
  | cons d ds =>
    simp only [bindTs] at hb
    split at hb
    · rename_i ρ1 hb1
      simp only [RepL] at r
      obtain ⟨v, us, e, r1, r2⟩ := r
      exact ⟨v, us, e, F, ρ, d, ρ1, G, S, r1, hb1, fun σ' e1 S' => ⟨F, ρ1, ds, ρ', G, S', r2, hb, fun σ2 e2 S2 => q σ2 (fun i hi => by
      simp only [slotsTs, List.mem_append, not_or] at hi
      rw [e2 i hi.2, e1 i hi.1]) S2⟩⟩
    · cases hb
theorem dg_tup {es : List Expr} {kk : Nat} {ts : List Tg} {n : Nat} {pos : Pos} (g : Gd Γ X sc st k) (hh : Γ.hot = false) (h : PGs X es (tGs Γ ts)) (hl : ts.length = n) (hn : (assignEach es X.env).length = n) (hst : (assignEach es X.env).findIdx? (·.1) = none) : PG X (.Tuple es kk pos) (tG Γ (.tup ts)) := by
  refine pg_imp (pg_tup (n := n) (g.calm hh) h hn hst) fun v σ H Q h => ?_
  obtain ⟨F, ρ, d, ρ', G, S, r, hb, q⟩ := h
  cases d with
  | tuple ds =>
    simp only [bindT] at hb
    split at hb
    · rename_i hlen
      simp only [RepV] at r
      obtain ⟨a, xs, e, l, z, rr⟩ := r
      exact ⟨a, xs, e, by rw [g.K]; exact l, by rw [← rr.length, ← hlen]; exact hl, F, ρ, ds, ρ', G, S, rr, hb, q⟩
    · cases hb
  | _ => simp [bindT] at hb
end
end Ow

namespace Ow
open PySem PyProof.Rows PySem.Spec L2 LamX

def nox {α : Type} : Res α → Res α
  | .exc _ => .stuck
  | r => r
def wipeA : List Nat → AE → AE
  | [], ρ => ρ
  | v :: vs, ρ => (wipeA vs ρ).set v .non
def restA : List Nat → AE → AE → AE
  | [], _, ρ => ρ
  | v :: vs, ρ0, ρ => match ρ0[v]? with
    | some (.val d) => (restA vs ρ0 ρ).set v (.val d)
    | _ => (restA vs ρ0 ρ).set v .non
/-- the turns of a comprehension -/
def compGo (own : List Nat) (tg : Tg) (tt : EvT) (el : EvE) (bs : Src) : List D → AE → List D → Res (List D)
  | [], ρ, acc => if stills bs ρ then .ok acc ρ else .stuck
  | d :: ds, ρ, acc => if stills bs ρ then (match bindT tg d ρ with
      | some ρ1 => (nox (tt ρ1)).bind fun b ρ2 => if b then (nox (el ρ2)).bind fun p ρ3 => compGo own tg tt el bs ds (wipeA own ρ3) (acc ++ [p.1]) else compGo own tg tt el bs ds (wipeA own ρ2) acc
      | none => .stuck) else .stuck
def eComp (own : List Nat) (it : EvI) (tg : Tg) (tt : EvT) (el : EvE) : EvE := fun ρ => (it ρ).bind fun p ρ0 =>
  (compGo own tg tt el p.2 p.1 (wipeA own ρ0) []).bind fun acc ρ' => .ok (.list acc, true) (restA own ρ0 ρ')
def tTrue : EvT := fun ρ => .ok true ρ
def W0 : WX := fun _ _ _ _ => False
section
variable {Γ : Ctx} {W : WX} {F F' : Addr → Prop} {H H' : Hp} {σ : L2.St} {ρ : AE}
theorem Out.nox {α : Type} {r : Res α} {W' : WX} {k : α → AE → (Addr → Prop) → Hp → Prop} (h : Out Γ W' (nox r) F H σ k) : Out Γ W r F H σ k := by
  cases r with
  | ok a ρ' => exact h
  | exc c => exact h.elim
  | stuck => exact h.elim
theorem wipeA_length : ∀ (vs : List Nat) (ρ : AE), (wipeA vs ρ).length = ρ.length
  | [], _ => rfl
  | v :: vs, ρ => by simp only [wipeA, List.length_set, wipeA_length vs ρ]
/-- a slot is forgotten -/
theorem RepS.drop (S : RepS Γ F H σ ρ) (i : Nat) : RepS Γ F H (σ.set i none) (ρ.set i .non) := by
  by_cases hi : i < ρ.length
  · have hs : i < σ.length := by rw [← S.len]; exact hi
    have same : (ρ.set i Slot.non)[i]? = some .non := List.getElem?_set_self hi
    have ns : ∀ {j : Nat}, j ≠ i → (σ.set i none)[j]? = σ[j]? := fun hj => List.getElem?_set_ne (Ne.symm hj)
    have back : ∀ j b, OwnAt (σ.set i none) (ρ.set i .non) j b → j ≠ i ∧ OwnAt σ ρ j b := fun j b ⟨e1, d1, o⟩ => by
      by_cases hj : j = i
      · subst hj
        rw [same] at o
        rcases o with o | o <;> cases o
      · rw [get_set_ne hj] at o
        rw [ns hj] at e1
        exact ⟨hj, e1, d1, o⟩
    refine ⟨by rw [List.length_set, List.length_set]; exact S.len, fun j d1 h1 => ?_, fun j d1 h1 => ?_, fun j d1 h1 => ?_, fun j l b o1 o2 => S.dis j l b (back j b o1).2 (back l b o2).2, S.exnB (fun e => Slot.noConfusion e)⟩
    · by_cases hj : j = i
      · subst hj; rw [same] at h1; cases h1
      · rw [get_set_ne hj] at h1; rw [ns hj]; exact S.val j d1 h1
    · by_cases hj : j = i
      · subst hj; rw [same] at h1; cases h1
      · rw [get_set_ne hj] at h1; rw [ns hj]; exact S.own j d1 h1
    · by_cases hj : j = i
      · subst hj; rw [same] at h1; cases h1
      · rw [get_set_ne hj] at h1; rw [ns hj]; exact S.ino j d1 h1
  · have e1 : ρ.set i .non = ρ := List.set_eq_of_length_le (by omega)
    have e2 : σ.set i none = σ := List.set_eq_of_length_le (by rw [← S.len]; omega)
    rw [e1, e2]
    exact S
theorem RepS.wipe (S : RepS Γ F H σ ρ) : ∀ vs : List Nat, RepS Γ F H (wipe σ vs) (wipeA vs ρ)
  | [] => S
  | v :: vs => by
    simp only [L2.wipe, wipeA]
    exact (RepS.wipe S vs).drop v
theorem wipeA_at : ∀ (vs : List Nat) (ρ : AE) (i : Nat) (s : Slot), i ∈ vs → (wipeA vs ρ)[i]? = some s → s = .non
  | [], _, i, s, h, _ => by cases h
  | v :: vs, ρ, i, s, h, e => by
    simp only [wipeA] at e
    by_cases hi : i = v
    · subst hi
      have hl := (List.getElem?_eq_some_iff.mp e).1
      rw [List.length_set] at hl
      rw [List.getElem?_set_self hl] at e
      cases e; rfl
    · rw [List.getElem?_set_ne (Ne.symm hi)] at e
      exact wipeA_at vs ρ i s ((List.mem_cons.mp h).resolve_left hi) e
theorem wipeA_out : ∀ (vs : List Nat) (ρ : AE) (i : Nat), i ∉ vs → (wipeA vs ρ)[i]? = ρ[i]?
  | [], _, i, h => rfl
  | v :: vs, ρ, i, h => by
    simp only [List.mem_cons, not_or] at h
    simp only [wipeA]
    rw [List.getElem?_set_ne (Ne.symm h.1), wipeA_out vs ρ i h.2]
theorem wipe_eq : ∀ (vs : List Nat) (σ σ' : L2.St), σ'.length = σ.length → (∀ i, i ∉ vs → σ'[i]? = σ[i]?) → L2.wipe σ' vs = L2.wipe σ vs := fun vs σ σ' hl h => by
  apply List.ext_getElem?
  intro i
  by_cases hi : i ∈ vs
  · have at_ : ∀ (vs : List Nat) (τ : L2.St), i ∈ vs → (L2.wipe τ vs)[i]? = if i < τ.length then some none else none := fun vs τ => by
      induction vs with
      | nil => intro h; cases h
      | cons v vs ih =>
        intro h
        simp only [L2.wipe]
        by_cases e : i = v
        · subst e
          by_cases hl : i < τ.length
          · rw [if_pos hl, List.getElem?_set_self (by rw [wipe_length]; exact hl)]
          · rw [if_neg hl]
            exact List.getElem?_eq_none (by rw [List.length_set, wipe_length]; omega)
        · rw [List.getElem?_set_ne (Ne.symm e)]
          exact ih ((List.mem_cons.mp h).resolve_left e)
    rw [at_ vs σ hi, at_ vs σ' hi, hl]
  · rw [wipe_out hi, wipe_out hi, h i hi]
theorem restA_own {ρ0 ρ' : AE} : ∀ (vs : List Nat) (i : Nat) (s : Slot), (restA vs ρ0 ρ')[i]? = some s → (∀ d, s ≠ .val d) → s ≠ .non → i ∉ vs ∧ ρ'[i]? = some s
  | [], i, s, h, _, _ => ⟨by simp, h⟩
  | v :: vs, i, s, h, h1, h2 => by
    simp only [restA] at h
    by_cases hi : i = v
    · subst hi
      exfalso
      split at h
      · rename_i d hd
        have hl2 := (List.getElem?_eq_some_iff.mp h).1
        rw [List.length_set] at hl2
        rw [List.getElem?_set_self hl2] at h
        cases h
        exact h1 _ rfl
      · have hl2 := (List.getElem?_eq_some_iff.mp h).1
        rw [List.length_set] at hl2
        rw [List.getElem?_set_self hl2] at h
        cases h
        exact h2 rfl
    · have : (restA vs ρ0 ρ')[i]? = some s := by
        split at h
        · rwa [List.getElem?_set_ne (Ne.symm hi)] at h
        · rwa [List.getElem?_set_ne (Ne.symm hi)] at h
      obtain ⟨q1, q2⟩ := restA_own vs i s this h1 h2
      exact ⟨by simp only [List.mem_cons, not_or]; exact ⟨hi, q1⟩, q2⟩
theorem OwnAt.back {ρ0 ρ' : AE} {vs : List Nat} {i : Nat} {a : Addr} (o : OwnAt σ (restA vs ρ0 ρ') i a) : OwnAt (L2.wipe σ vs) ρ' i a := by
  obtain ⟨e1, d, o⟩ := o
  have : i ∉ vs ∧ (ρ'[i]? = some (.own d) ∨ ρ'[i]? = some (.ino d)) := by
    rcases o with o | o
    · obtain ⟨q1, q2⟩ := restA_own vs i _ o (fun _ e => Slot.noConfusion e) (fun e => Slot.noConfusion e)
      exact ⟨q1, .inl q2⟩
    · obtain ⟨q1, q2⟩ := restA_own vs i _ o (fun _ e => Slot.noConfusion e) (fun e => Slot.noConfusion e)
      exact ⟨q1, .inr q2⟩
  exact ⟨by rw [wipe_out this.1]; exact e1, d, this.2⟩
theorem OwnAt.unwipe {vs : List Nat} {i : Nat} {a : Addr} (o : OwnAt (L2.wipe σ vs) (wipeA vs ρ) i a) : OwnAt σ ρ i a := by
  obtain ⟨e1, d, o⟩ := o
  by_cases hi : i ∈ vs
  · rcases o with o | o
    · cases wipeA_at vs ρ i _ hi o
    · cases wipeA_at vs ρ i _ hi o
  · rw [wipeA_out vs ρ i hi] at o
    rw [wipe_out hi] at e1
    exact ⟨e1, d, o⟩
/-- behind the block: what the slots held is there again, where it was frozen -/
theorem RepS.back {σ : L2.St} {ρ0 ρ' : AE} (S0 : RepS Γ F H σ ρ0) (k : Fk F H F' H') : ∀ vs : List Nat, RepS Γ F' H' (L2.wipe σ vs) ρ' → RepS Γ F' H' σ (restA vs ρ0 ρ') := fun vs S => by
  have hl : ∀ vs, (restA vs ρ0 ρ').length = ρ'.length := fun vs => by
    induction vs with
    | nil => rfl
    | cons v vs ih =>
      simp only [restA]
      split <;> rw [List.length_set, ih]
  have out : ∀ (vs : List Nat) (i : Nat), i ∉ vs → (restA vs ρ0 ρ')[i]? = ρ'[i]? := fun vs i => by
    induction vs with
    | nil => intro _; rfl
    | cons v vs ih =>
      intro h
      simp only [List.mem_cons, not_or] at h
      simp only [restA]
      split <;> rw [List.getElem?_set_ne (Ne.symm h.1), ih h.2]
  have in_ : ∀ (vs : List Nat) (i : Nat) (s : Slot), i ∈ vs → (restA vs ρ0 ρ')[i]? = some s → (∃ d, s = .val d ∧ ρ0[i]? = some (.val d)) ∨ s = .non := fun vs i s => by
    induction vs with
    | nil => intro h; cases h
    | cons v vs ih =>
      intro h e
      simp only [restA] at e
      by_cases hi : i = v
      · subst hi
        split at e
        · rename_i d hd
          have hl2 := (List.getElem?_eq_some_iff.mp e).1
          rw [List.length_set] at hl2
          rw [List.getElem?_set_self hl2] at e
          cases e
          exact .inl ⟨d, rfl, hd⟩
        · have hl2 := (List.getElem?_eq_some_iff.mp e).1
          rw [List.length_set] at hl2
          rw [List.getElem?_set_self hl2] at e
          cases e
          exact .inr rfl
      · have hm := (List.mem_cons.mp h).resolve_left hi
        split at e
        · rw [List.getElem?_set_ne (Ne.symm hi)] at e
          exact ih hm e
        · rw [List.getElem?_set_ne (Ne.symm hi)] at e
          exact ih hm e
  have own : ∀ i a, OwnAt σ (restA vs ρ0 ρ') i a → i ∉ vs ∧ OwnAt (L2.wipe σ vs) ρ' i a := fun i a ⟨e1, d, o⟩ => by
    by_cases hi : i ∈ vs
    · rcases o with o | o
      · rcases in_ vs i _ hi o with ⟨d', e, _⟩ | e <;> cases e
      · rcases in_ vs i _ hi o with ⟨d', e, _⟩ | e <;> cases e
    · rw [out vs i hi] at o
      exact ⟨hi, by rw [wipe_out hi]; exact e1, d, o⟩
  refine ⟨by rw [hl, S.len, wipe_length], fun i d h => ?_, fun i d h => ?_, fun i d h => ?_, fun i j a o1 o2 => S.dis i j a (own i a o1).2 (own j a o2).2, fun i h => by
    obtain ⟨q1, q2⟩ := restA_own vs i _ h (fun _ e => Slot.noConfusion e) (fun e => Slot.noConfusion e)
    obtain ⟨a, x, e⟩ := S.exn i q2
    exact ⟨a, x, by rw [wipe_out q1] at e; exact e⟩⟩
  · by_cases hi : i ∈ vs
    · rcases in_ vs i _ hi h with ⟨d', e, h'⟩ | e
      · cases e
        obtain ⟨v, e1, r⟩ := S0.val i d h'
        exact ⟨v, e1, r.mono k⟩
      · cases e
    · rw [out vs i hi] at h
      obtain ⟨v, e1, r⟩ := S.val i d h
      rw [wipe_out hi] at e1
      exact ⟨v, e1, r⟩
  · by_cases hi : i ∈ vs
    · rcases in_ vs i _ hi h with ⟨d', e, h'⟩ | e <;> cases e
    · rw [out vs i hi] at h
      obtain ⟨a, e1, r⟩ := S.own i d h
      rw [wipe_out hi] at e1
      exact ⟨a, e1, r⟩
  · by_cases hi : i ∈ vs
    · rcases in_ vs i _ hi h with ⟨d', e, h'⟩ | e <;> cases e
    · rw [out vs i hi] at h
      obtain ⟨a, e1, r⟩ := S.ino i d h
      rw [wipe_out hi] at e1
      exact ⟨a, e1, r⟩
/-- a source is as it was: its slot is none of the block's -/
theorem RepBs.wiped {vs : List Nat} (hw : ∀ i s, i ∈ vs → ρ[i]? = some s → s = .non) : ∀ {bs : Src} {us : List V}, RepBs Γ F H σ bs us → stills bs ρ = true → RepBs Γ F H (L2.wipe σ vs) bs us
  | [], us, h, _ => h
  | p :: ps, us, h, hs => by
    obtain ⟨v, us', e, r, t⟩ := h
    simp only [stills, Bool.and_eq_true] at hs
    refine ⟨v, us', e, ?_, RepBs.wiped hw t hs.2⟩
    obtain ⟨d, b⟩ := p
    cases b with
    | none => exact r
    | some i =>
      have hn : i ∉ vs := fun hm => by
        have h1 := hs.1
        simp only [still] at h1
        cases e : ρ[i]? with
        | none => rw [e] at h1; cases h1
        | some s =>
          have := hw i s hm e
          subst this
          rw [e] at h1
          cases h1
      show (L2.wipe σ vs)[i]? = some (some v)
      rw [wipe_out hn]
      exact r
end
/-! ### a thing apart: the new list while its items are reckoned -/
def Ctx.apart (Γ : Ctx) (p : Addr) (o : HO) : Ctx := { Γ with H0 := fun a => if a = p then some o else Γ.H0 a }
section
variable {Γ : Ctx} {F : Addr → Prop} {H : Hp} {σ : L2.St} {ρ : AE} {p : Addr} {o : HO}
theorem GInv.into (G : GInv Γ F H) (hp : H p = some o) (h0 : Γ.H0 p = none) (hF : ¬ F p) (ho : ∀ ps, o ≠ .tbl ps) : GInv (Γ.apart p o) F H where
  tr := G.tr
  fn := fun a f => by
    rcases G.fn a f with h | h
    · exact .inl h
    · refine .inr ?_
      show (if a = p then some o else Γ.H0 a) = none
      rw [if_neg (fun (e : a = p) => hF (e ▸ f))]
      exact h
  f0 := G.f0
  kp := fun a u h1 h2 h3 => by
    have h1 : (if a = p then some o else Γ.H0 a) = some u := h1
    by_cases e : a = p
    · rw [if_pos e] at h1
      cases h1
      rw [e]; exact hp
    · rw [if_neg e] at h1
      exact G.kp a u h1 h2 h3
  th := fun a h => by
    have h : (if a = p then some o else Γ.H0 a) ≠ none := h
    by_cases e : a = p
    · exact ⟨o, by rw [e]; exact hp, ho⟩
    · rw [if_neg e] at h
      exact G.th a h
  io := fun i a h => by
    show (if a = p then some o else Γ.H0 a) ≠ none
    by_cases e : a = p
    · rw [if_pos e]; simp
    · rw [if_neg e]; exact G.io i a h
  ni := G.ni
  tb := G.tb
theorem GInv.outof (G : GInv (Γ.apart p o) F H) (h0 : Γ.H0 p = none) (hF0 : ¬ Γ.F0 p) (hi : ∀ i, Γ.ino i ≠ some p) (ho : ∀ ps, o ≠ .tbl ps) : GInv Γ F H ∧ ¬ F p ∧ H p = some o := by
  have at_ : (Γ.apart p o).H0 p = some o := by
    show (if p = p then some o else _) = _
    rw [if_pos rfl]
  refine ⟨⟨G.tr, fun a f => ?_, G.f0, fun a u h1 h2 h3 => ?_, fun a h => ?_, fun i a h => ?_, G.ni, G.tb⟩, fun f => ?_, G.kp p o at_ hi ho⟩
  · rcases G.fn a f with h | h
    · exact .inl h
    · have h : (if a = p then some o else Γ.H0 a) = none := h
      by_cases e : a = p
      · rw [if_pos e] at h; cases h
      · rw [if_neg e] at h; exact .inr h
  · refine G.kp a u ?_ h2 h3
    show (if a = p then some o else Γ.H0 a) = some u
    rw [if_neg (fun e => by rw [e, h0] at h1; cases h1)]
    exact h1
  · refine G.th a ?_
    show (if a = p then some o else Γ.H0 a) ≠ none
    by_cases e : a = p
    · rw [if_pos e]; simp
    · rw [if_neg e]; exact h
  · have q : (if a = p then some o else Γ.H0 a) ≠ none := G.io i a h
    rw [if_neg (fun e => hi i (by rw [← e]; exact h))] at q
    exact q
  · rcases G.fn p f with h | h
    · exact hF0 h
    · rw [at_] at h; cases h
theorem RepS.into (S : RepS Γ F H σ ρ) (hn : ∀ i, ¬ OwnAt σ ρ i p) : RepS (Γ.apart p o) F H σ ρ where
  len := S.len
  val := S.val
  own := fun i d h => by
    obtain ⟨a, e, f, z, t⟩ := S.own i d h
    refine ⟨a, e, f, ?_, t⟩
    show (if a = p then some o else Γ.H0 a) = none
    rw [if_neg (fun (q : a = p) => hn i ⟨by rw [← q]; exact e, d, .inl h⟩)]
    exact z
  ino := S.ino
  dis := S.dis
  exn := S.exn
theorem RepS.outof (S : RepS (Γ.apart p o) F H σ ρ) (hi : ∀ i, Γ.ino i ≠ some p) : RepS Γ F H σ ρ ∧ ∀ i, ¬ OwnAt σ ρ i p := by
  refine ⟨⟨S.len, S.val, fun i d h => ?_, S.ino, S.dis, S.exn⟩, fun i o' => ?_⟩
  · obtain ⟨a, e, f, z, t⟩ := S.own i d h
    have z : (if a = p then some o else Γ.H0 a) = none := z
    by_cases q : a = p
    · rw [if_pos q] at z; cases z
    · rw [if_neg q] at z
      exact ⟨a, e, f, z, t⟩
  · obtain ⟨e1, d, h | h⟩ := o'
    · obtain ⟨a, e, f, z, t⟩ := S.own i d h
      rw [e1] at e
      cases e
      have z : (if p = p then some o else Γ.H0 p) = none := z
      rw [if_pos rfl] at z; cases z
    · obtain ⟨a, e, f, z, t⟩ := S.ino i d h
      rw [e1] at e
      cases e
      exact hi i z
end
/-- any of several wishes -/
theorem pe_ex {X : Cx} {e : Expr} {α : Type} {t : α → TE} (h : ∀ z, PE X e (t z)) : PE X e (fun σ H Q => ∃ z, t z σ H Q) := ⟨fun pins s σ H Q I ⟨z, q⟩ => (h z).run pins s σ H Q I q⟩
theorem pg_ex {X : Cx} {e : Expr} {α : Type} {t : α → TG} (h : ∀ z, PG X e (t z)) : PG X e (fun v σ H Q => ∃ z, t z v σ H Q) := ⟨fun pins s σ H v u Q I r ⟨z, q⟩ => (h z).run pins s σ H v u Q I r q⟩
theorem pts_ex {X : Cx} {e : List Expr} {α : Type} {t : α → TT} (h : ∀ z, PTs X e (t z)) : PTs X e (fun σ H Q => ∃ z, t z σ H Q) := ⟨fun pins s σ H Q I ⟨z, q⟩ => (h z).run pins s σ H Q I q⟩
theorem pt_ex {X : Cx} {e : Expr} {α : Type} {t : α → TT} (h : ∀ z, PT X e (t z)) : PT X e (fun σ H Q => ∃ z, t z σ H Q) := ⟨fun pins s σ H Q I ⟨z, q⟩ => (h z).run pins s σ H Q I q⟩
/-! ### [elt for target in iter if test] -/
structure GdT (Γ : Ctx) (X : Cx) (sc : Scope) (st : Str → Bool) (k : Nat) (W : WX) : Prop extends Gd Γ X sc st k where
  tk : L2N.Takes X W
theorem takesN0 {X : Cx} : L2N.Takes X W0 := fun _ _ x => by
  rcases x with ⟨_, _, _, _, _, _, _, _, _, _, _, _, _, _, _, _, z⟩
  exact z.elim
def stOf (scope : Scope) : Str → Bool := fun x => decide (scope.names.lookup x = some .local) || decide (scope.names.lookup x = some .cell)
theorem gd_blk {Γ : Ctx} {X : Cx} {sc scope : Scope} {st : Str → Bool} {k : Nat} {s : Shared} {H : Hp} {C : Addr} {cl : List (Str × Addr)} {fp : List Addr} (g : Gd Γ X sc st k) : Gd Γ (X.blk s H scope (compEnvC scope cl C X.env) fp) (relS scope sc) (stOf scope) k where
  prog := g.prog
  w := g.w
  K := g.K
  mg := g.mg
  base := g.base
  N := g.N
  nd := g.nd
  scp := by
    show relabel scope X.env = relS scope sc
    rw [← g.scp]; rfl
  calm := g.calm
  room := g.room
  hd := g.hd
  gd := g.gd
  st := fun x hx => by
    unfold stOf at hx
    simp only [Bool.or_eq_true, decide_eq_true_eq] at hx
    rcases hx with h | h
    · have q := lookup_relS_keep (sc := sc) (by simp) h
      exact ⟨.inl q, .inr q⟩
    · have q := lookup_relS_keep (sc := sc) (by simp) h
      refine ⟨.inr q, .inl ?_⟩
      show (scope.names.lookup x == some .cell) = true
      rw [h]; rfl
theorem gd_apart {Γ : Ctx} {X : Cx} {sc : Scope} {st : Str → Bool} {k : Nat} (g : Gd Γ X sc st k) (p : Addr) (o : HO) : Gd (Γ.apart p o) X sc st k := ⟨g.prog, g.w, g.K, g.mg, g.base, g.N, g.nd, g.scp, g.calm, g.room, g.hd, g.gd, g.st⟩
theorem compGo_len {own : List Nat} {tg : Tg} {tt : EvT} {el : EvE} {bs : Src} : ∀ {ds : List D} {ρ ρ' : AE} {acc out : List D}, compGo own tg tt el bs ds ρ acc = .ok out ρ' → out.length ≤ acc.length + ds.length
  | [], ρ, ρ', acc, out, h => by
    simp only [compGo] at h
    split at h
    · cases h; simp
    · cases h
  | d :: ds, ρ, ρ', acc, out, h => by
    simp only [compGo] at h
    split at h
    · split at h
      · cases ht : nox (tt _) with
        | ok b ρ2 =>
          rw [ht] at h
          simp only [Res.bind] at h
          split at h
          · cases he : nox (el ρ2) with
            | ok p ρ3 =>
              rw [he] at h
              have := compGo_len h
              simp only [List.length_append, List.length_cons, List.length_nil] at this ⊢
              omega
            | exc c => rw [he] at h; cases h
            | stuck => rw [he] at h; cases h
          · have := compGo_len h
            simp only [List.length_cons]
            omega
        | exc c => rw [ht] at h; cases h
        | stuck => rw [ht] at h; cases h
      · cases h
    · cases h
theorem nox_exc {α : Type} {r : Res α} {c : Str} : nox r ≠ .exc c := by cases r <;> simp [nox]
theorem compGo_exc {own : List Nat} {tg : Tg} {tt : EvT} {el : EvE} {bs : Src} {c : Str} : ∀ {ds : List D} {ρ : AE} {acc : List D}, compGo own tg tt el bs ds ρ acc ≠ .exc c
  | [], ρ, acc, h => by
    simp only [compGo] at h
    split at h <;> cases h
  | d :: ds, ρ, acc, h => by
    simp only [compGo] at h
    split at h
    · split at h
      · cases ht : nox (tt _) with
        | ok b ρ2 =>
          rw [ht] at h
          simp only [Res.bind] at h
          split at h
          · cases he : nox (el ρ2) with
            | ok p ρ3 => rw [he] at h; exact compGo_exc h
            | exc c => exact nox_exc he
            | stuck => rw [he] at h; cases h
          · exact compGo_exc h
        | exc c => exact nox_exc ht
        | stuck => rw [ht] at h; cases h
      · cases h
    · cases h
section
variable {Γ : Ctx} {X : Cx} {sc scope : Scope} {st : Str → Bool} {k : Nat} {W : WX}
mutual
theorem bind_len : ∀ (t : Tg) (d : D) (ρ ρ' : AE), bindT t d ρ = some ρ' → ρ'.length = ρ.length
  | .name i, d, ρ, ρ', h => by
    simp only [bindT] at h
    split at h
    · cases h
    · cases h; rw [List.length_set]
    · cases h
  | .tup is, d, ρ, ρ', h => by
    cases d with
    | tuple ds =>
      simp only [bindT] at h
      split at h
      · exact bind_lens is ds ρ ρ' h
      · cases h
    | _ => simp only [bindT] at h; cases h
theorem bind_lens : ∀ (ts : List Tg) (ds : List Ow.D) (ρ ρ' : AE), bindTs ts ds ρ = some ρ' → ρ'.length = ρ.length
  | [], [], ρ, ρ', h => by simp only [bindTs] at h; cases h; rfl
  | [], _ :: _, ρ, ρ', h => by simp only [bindTs] at h; cases h
  | _ :: _, [], ρ, ρ', h => by simp only [bindTs] at h; cases h
  | t :: ts, d :: ds, ρ, ρ', h => by
    simp only [bindTs] at h
    split at h
    · rename_i ρ1 h1
      rw [bind_lens ts ds _ _ h, bind_len t d _ _ h1]
    · cases h
end
theorem drop_cons {α : Type} {l : List α} {i : Nat} {d : α} (h : l[i]? = some d) : l.drop i = d :: l.drop (i + 1) := by
  obtain ⟨h1, h2⟩ := List.getElem?_eq_some_iff.mp h
  simp only [List.drop_eq_getElem_cons h1, h2]
/-- between two turns: from (F1, H1), the new list at D -/
structure CInv (Γ : Ctx) (F1 : Addr → Prop) (H1 : Hp) (D : Addr) (τ : L2.St) (vs : List Nat) (R0 : Res (List Ow.D)) (go : List Ow.D → AE → List Ow.D → Res (List Ow.D)) (ds : List Ow.D) (i : Nat) (H : Hp) : Prop where
  ex : ∃ F ρ acc xs, GInv Γ F H ∧ RepS Γ F H τ ρ ∧ H D = some (.lst xs) ∧ Γ.RL F H acc xs ∧ ¬ F D ∧ (∀ i, ¬ OwnAt τ ρ i D) ∧ acc.length ≤ i ∧ Fk F1 H1 F H ∧ (∀ i s, i ∈ vs → ρ[i]? = some s → s = .non) ∧ R0 = go (ds.drop i) ρ acc
def gComp (Γ : Ctx) (t : Tg) : TG := fun v σ H Q => ∃ z : Addr × HO, tG (Γ.apart z.1 z.2) t v σ H Q
def ttComp (Γ : Ctx) (tt : EvT) : TT := fun σ H Q => ∃ z : Addr × HO, tT (Γ.apart z.1 z.2) W0 tt σ H Q
def teComp (Γ : Ctx) (el : EvE) : TE := fun σ H Q => ∃ z : Addr × HO, tD (Γ.apart z.1 z.2) W0 el σ H Q
theorem comp_imp {vs : List Nat} {it : EvI} {t : Tg} {tt : EvT} {el : EvE} (hsl : ∀ i ∈ t.slots, i ∈ vs) : ∀ σ H (Q : VK), tD Γ W (eComp vs it t tt el) σ H Q → tLc (tI Γ W it) (gComp Γ t) (ttComp Γ tt) (teComp Γ el) vs σ H Q := by
  intro σ H Q ⟨F, ρ, G, S, O⟩
  refine ⟨F, ρ, G, S, (Out.bind O).imp fun p ρ0 F1 H1 k1 G1 S1 O1 J us hlen hB hst0 hW D hD => ?_⟩
  obtain ⟨ds, bs⟩ := p
  simp only at O1 hlen hB hst0 hW
  generalize hR : compGo vs t tt el bs ds (wipeA vs ρ0) [] = R0 at O1
  have notStuck : R0 ≠ .stuck := fun e => by rw [e] at O1; exact O1.elim
  obtain ⟨nFD, h0D⟩ := G1.fresh hD
  have nF0D : ¬ Γ.F0 D := fun f => nFD (G1.f0 D f)
  have iD : ∀ i, Γ.ino i ≠ some D := fun i e => G1.io i D e h0D
  have tr1 := G1.tr
  have eD : Ext H1 (upd H1 D (.lst [])) := Ext.upd hD
  have start : CInv Γ F1 H1 D (L2.wipe σ vs) vs R0 (compGo vs t tt el bs) ds 0 (upd H1 D (.lst [])) :=
    ⟨F1, wipeA vs ρ0, [], [], G1.ext eD, (S1.ext tr1 eD).wipe vs, upd_same, RepL.nil, nFD, fun i o => ((S1.wipe vs).at_ o).2.ne hD, Nat.le_refl _, Fk.ext tr1 eD, fun i s hi e => wipeA_at vs ρ0 i s hi e, hR.symm⟩
  refine ⟨fun i m H => i ≤ ds.length ∧ m = ds.length - i ∧ CInv Γ F1 H1 D (L2.wipe σ vs) vs R0 (compGo vs t tt el bs) ds i H, ⟨_, Nat.zero_le _, rfl, start⟩, ?_⟩
  rintro i m H2 ⟨hi, rfl, ⟨F2, ρ2, acc, xs, G2, S2, hD2, hacc, nF2, nO2, hla, k2, hw2, hR2⟩⟩
  -- the sources are as they were
  have hst : stills bs ρ2 = true := by
    cases hb : stills bs ρ2 with
    | true => rfl
    | false =>
      exfalso
      refine notStuck (hR2.trans ?_)
      cases hdr : ds.drop i with
      | nil => simp only [compGo, hb]; rfl
      | cons d r => simp only [compGo, hb]; rfl
  have hB2 : RepBs Γ F2 H2 (L2.wipe σ vs) bs us := RepBs.wiped hw2 (hB.mono k2) hst
  have rdy := S2.reads hB2 hst
  obtain ⟨w1, w2, w3⟩ := hW F2 H2 G2.tr rdy
  by_cases hend : i = ds.length
  · left
    subst hend
    refine ⟨w2, ?_⟩
    rw [List.drop_length] at hR2
    have hR3 : R0 = .ok acc ρ2 := by
      rw [hR2]
      simp only [compGo, hst]
      rfl
    rw [hR3] at O1
    have S3 := S1.back k2 vs S2
    refine O1 F2 H2 k2 G2 S3 (.ref D) ?_
    unfold ResOk
    rw [if_pos (by rfl)]
    refine ⟨D, rfl, nF2, h0D, fun j o => ?_, xs, hD2, by rw [← hacc.length]; omega, hacc⟩
    exact nO2 j o.back
  · right
    have hlt : i < ds.length := by omega
    refine ⟨w1 i hlt, fun H' => CInv Γ F1 H1 D (L2.wipe σ vs) vs R0 (compGo vs t tt el bs) ds (i + 1) H', fun H' c => ⟨ds.length - (i + 1), by omega, by omega, rfl, c⟩, fun x H3 hy => ?_⟩
    obtain ⟨d, hd, e3, hx⟩ := w3 i x H3 hlt hy
    rw [drop_cons hd] at hR2
    simp only [compGo, hst, if_true] at hR2
    cases hb : bindT t d ρ2 with
    | none => rw [hb] at hR2; exact absurd hR2 notStuck
    | some ρ3 =>
      rw [hb] at hR2
      simp only at hR2
      have hwipe : L2.wipe (L2.wipe σ vs) vs = L2.wipe σ vs := wipe_eq vs σ _ (wipe_length _ _) fun j hj => wipe_out hj
      have G3 := G2.ext e3
      have S3 := S2.ext G2.tr e3
      have hD3 : H3 D = some (.lst xs) := e3 D _ hD2
      refine ⟨(D, .lst xs), F2, ρ2, d, ρ3, G3.into hD3 h0D nF2 (fun _ e => HO.noConfusion e), S3.into nO2, hx, hb, fun σ4 h4 S4 => ?_⟩
      have hw4 : L2.wipe σ4 vs = L2.wipe σ vs := by
        refine (wipe_eq vs (L2.wipe σ vs) σ4 ?_ fun j hj => h4 j fun hj' => hj (hsl j hj')).trans hwipe
        rw [← S4.len, ← S2.len]
        exact bind_len _ _ _ _ hb
      refine ⟨hw4, ⟨(D, .lst xs), F2, ρ3, G3.into hD3 h0D nF2 (fun _ e => HO.noConfusion e), S4, Out.nox (W' := W0) ?_⟩⟩
      cases htt : nox (tt ρ3) with
      | stuck => rw [htt] at hR2; exact absurd hR2 notStuck
      | exc c => exact absurd htt nox_exc
      | ok b ρ4 =>
        rw [htt] at hR2
        simp only [Res.bind] at hR2
        intro F5 H5 k5 G5 S5
        cases b with
        | false =>
          rw [if_neg (by simp)] at hR2 ⊢
          obtain ⟨G6, nF6, hD6⟩ := G5.outof h0D nF0D iD (by intro ps e; cases e)
          obtain ⟨S6, nO6⟩ := S5.outof iD
          refine ⟨F5, wipeA vs ρ4, acc, xs, G6, ?_, hD6, RepL.mono k5 _ _ (RepL.mono (Fk.ext G2.tr e3) _ _ hacc), nF6, fun j o => ?_, by omega, (k2.trans (Fk.ext G2.tr e3)).trans k5, fun j s hj e => wipeA_at vs ρ4 j s hj e, hR2⟩
          · rw [← hw4]; exact S6.wipe vs
          · rw [← hw4] at o; exact nO6 j o.unwipe
        | true =>
          rw [if_pos rfl] at hR2 ⊢
          refine ⟨(D, .lst xs), F5, ρ4, G5, S5, Out.nox (W' := W0) ?_⟩
          cases hel : nox (el ρ4) with
          | stuck => rw [hel] at hR2; exact absurd hR2 notStuck
          | exc c => exact absurd hel nox_exc
          | ok q ρ5 =>
            rw [hel] at hR2
            simp only [Res.bind] at hR2
            intro F6 H6 k6 G6 S6 y hy6
            obtain ⟨F7, k7, G7, S7, r7⟩ := hy6.froze G6 S6
            obtain ⟨G8, nF8, hD8⟩ := G7.outof h0D nF0D iD (by intro ps e; cases e)
            obtain ⟨S8, nO8⟩ := S7.outof iD
            have kk : Fk F2 H2 F7 H6 := (((Fk.ext G2.tr e3).trans k5).trans k6).trans k7
            have hacc8 : Γ.RL F7 H6 acc xs := RepL.mono kk _ _ hacc
            have hl8 : acc.length = xs.length := hacc.length
            refine ⟨xs, hD8, by omega, ?_⟩
            have pk : Fk F7 H6 F7 (upd H6 D (.lst (xs ++ [y]))) := Fk.put nF8 hD8 soft_lst
            refine ⟨F7, wipeA vs ρ5, acc ++ [q.1], xs ++ [y], G8.put nF8 (.inl h0D) hD8 soft_lst (fun _ e => HO.noConfusion e), ?_, upd_same, RepL.append (RepL.mono pk _ _ hacc8) (RepL.cons (RepV.mono pk _ _ r7) RepL.nil), nF8, fun j o => ?_, by simp only [List.length_append, List.length_cons, List.length_nil]; omega, (k2.trans kk).trans pk, fun j s hj e => wipeA_at vs ρ5 j s hj e, hR2⟩
            · rw [← hw4]
              exact (S8.mono pk fun i a o => ⟨upd_ne fun e => nO8 i (e ▸ o), (S8.at_ o).1⟩).wipe vs
            · rw [← hw4] at o; exact nO8 j o.unwipe
theorem de_comp {elt tg iter : Expr} {ifs : List Expr} {own : List (Str × Nat)} {pos : Pos} {it : EvI} {t : Tg} {tt : EvT} {el : EvE} (g : Gd Γ X sc st k) (hh : Γ.hot = false) (hi : PI X tg iter (tI Γ W it)) (ok : blkC Γ.N sc scope own = true) (hsl : t.slots.all (fun i => (own.map (·.2)).contains i) = true)
    (hg : ∀ p o X', GdT (Γ.apart p o) X' (relS scope sc) (stOf scope) k W0 → PG X' tg (tG (Γ.apart p o) t)) (ht : ∀ p o X', GdT (Γ.apart p o) X' (relS scope sc) (stOf scope) k W0 → PTs X' ifs (tT (Γ.apart p o) W0 tt))
    (he : ∀ p o X', GdT (Γ.apart p o) X' (relS scope sc) (stOf scope) k W0 → PE X' elt (tD (Γ.apart p o) W0 el)) (hs : ∀ x, foldedSetIterable iter X.env x = pure x) :
    PE X (.ListComp elt [⟨tg, iter, ifs, 0⟩] scope pos) (tD Γ W (eComp (own.map (·.2)) it t tt el)) := by
  have okb : BlkOk X.N X.env.scope scope own := by rw [g.N, g.scp]; exact blkOk_by ok
  exact pe_imp (pe_lc (g.calm hh) (by rw [g.N]; exact g.nd) hi okb (g := gComp Γ t) (tt := ttComp Γ tt) (te := teComp Γ el)
    (fun s H C cl fp => pg_ex fun z => hg _ _ _ ⟨gd_apart (gd_blk g) z.1 z.2, takesN0⟩) (fun s H C cl fp => pts_ex fun z => ht _ _ _ ⟨gd_apart (gd_blk g) z.1 z.2, takesN0⟩) (fun s H C cl fp => pe_ex fun z => he _ _ _ ⟨gd_apart (gd_blk g) z.1 z.2, takesN0⟩) hs) (comp_imp fun i hi => by
      have := List.all_eq_true.mp hsl i hi
      simpa using this)
end
end Ow

namespace Ow
open PySem PyProof.Rows PySem.Spec L2 LamX

/-- how a statement ends -/
inductive SR where
  | nx (ρ : AE)
  | ret (d : D) (fl : Bool) (ρ : AE)
  | exc (c : Str)
  | brk (ρ : AE)
  | ct (ρ : AE)
  | stuck
abbrev StF := AE → SR
/-- more turns no while takes -/
def lid : Nat := 2 ^ 40
def Res.sb {α : Type} (r : Res α) (f : α → AE → SR) : SR := match r with
  | .ok a ρ => f a ρ
  | .exc c => .exc c
  | .stuck => .stuck
def isNoIno : Option Slot → Bool
  | some (.ino _) => false
  | some _ => true
  | none => false
def slotOf (p : D × Bool) : Slot := if (p.2 && isMut p.1) = true then .own p.1 else .val p.1
def sNx : StF := fun ρ => .nx ρ
def sSeq (f g : StF) : StF := fun ρ => match f ρ with
  | .nx ρ' => g ρ'
  | r => r
def sIf (t : EvT) (f g : StF) : StF := fun ρ => (t ρ).sb fun b ρ' => if b then f ρ' else g ρ'
def sBrk : StF := fun ρ => .brk ρ
def sCt : StF := fun ρ => .ct ρ
def sRaise (c : Str) : StF := fun _ => .exc c
def sRet (f : EvE) : StF := fun ρ => (f ρ).sb fun p ρ' => .ret p.1 p.2 ρ'
def sRetN : StF := fun ρ => .ret .none false ρ
def sDrop (f : EvE) : StF := fun ρ => (f ρ).sb fun _ ρ' => .nx ρ'
def sAsg (i : Nat) (f : EvE) : StF := fun ρ => (f ρ).sb fun p ρ' => if isNoIno ρ'[i]? then .nx (ρ'.set i (slotOf p)) else .stuck
def sAsgT (t : Tg) (f : EvE) : StF := fun ρ => (f ρ).sb fun p ρ' => match bindT t p.1 ρ' with | some ρ2 => .nx ρ2 | none => .stuck
def sPar (i j : Nat) (f g : EvE) : StF := fun ρ => (f ρ).sb fun p ρ1 => (g ρ1).sb fun q ρ2 => if isNoIno ρ2[i]? && isNoIno ρ2[j]? then .nx ((ρ2.set i (.val p.1)).set j (.val q.1)) else .stuck
def eMove (i : Nat) : EvE := fun ρ => match ρ[i]? with
  | some (.val d) => .ok (d, false) ρ
  | some (.own d) => .ok (d, true) (ρ.set i .non)
  | _ => .stuck
def whGo (t : EvT) (f : StF) : Nat → StF
  | 0, _ => .stuck
  | n + 1, ρ => (t ρ).sb fun b ρ1 => if b then (match f ρ1 with
      | .nx ρ2 => whGo t f n ρ2
      | .ct ρ2 => whGo t f n ρ2
      | .brk ρ2 => .nx ρ2
      | r => r) else .nx ρ1
def sWhile (t : EvT) (f : StF) : StF := whGo t f lid
def forGo (bs : Src) (tg : Tg) (f : StF) : List D → StF
  | [], ρ => if stills bs ρ then .nx ρ else .stuck
  | d :: ds, ρ => if stills bs ρ then (match bindT tg d ρ with
      | some ρ1 => (match f ρ1 with
        | .nx ρ2 => forGo bs tg f ds ρ2
        | .ct ρ2 => forGo bs tg f ds ρ2
        | .brk ρ2 => .nx ρ2
        | r => r)
      | none => .stuck) else .stuck
/-- none of the sources is stored to -/
def freeOf (as : List Nat) (bs : Src) : Bool := bs.all fun p => match p.2 with
  | some i => !as.contains i
  | none => true
def sFor (as : List Nat) (it : EvI) (tg : Tg) (f : StF) : StF := fun ρ => (it ρ).sb fun p ρ0 => if freeOf as p.2 then forGo p.2 tg f p.1 ρ0 else .stuck
/-- into a list that is one's own -/
def putL (i : Nat) (g : List D → Option (List D)) (ρ : AE) : Option AE := match ρ[i]? with
  | some (.own (.list ds)) => (g ds).map fun ds' => ρ.set i (.own (.list ds'))
  | some (.ino (.list ds)) => (g ds).map fun ds' => ρ.set i (.ino (.list ds'))
  | _ => none
def isOwnL (i : Nat) (ρ : AE) : Bool := match ρ[i]? with
  | some (.own (.list _)) => true
  | some (.ino (.list _)) => true
  | _ => false
def appD (d : D) : List D → Option (List D) := fun ds => if ds.length < sizeLine then some (ds ++ [d]) else none
def sApp (i : Nat) (f : EvE) : StF := fun ρ => if isOwnL i ρ then (f ρ).sb fun p ρ1 => match putL i (appD p.1) ρ1 with | some ρ2 => .nx ρ2 | none => .stuck else .stuck
def setD (k : D) (d : D) : List D → Option (List D) := fun ds => match k with
  | .int z => (ixN ds.length z).map fun j => ds.set j d
  | _ => none
def stSub (i : Nat) (fi : EvO) (d : D) : AE → Res Unit := fun ρ => if isOwnL i ρ then (fi ρ).bind fun q ρ2 => match putL i (setD q.1 d) ρ2 with | some ρ3 => .ok () ρ3 | none => .stuck else .stuck
def sSub (i : Nat) (fi : EvO) (f : EvE) : StF := fun ρ => (f ρ).sb fun p ρ1 => (stSub i fi p.1 ρ1).sb fun _ ρ2 => .nx ρ2
/-- x[i], y[j] = a, b -/
def sSub2 (i : Nat) (fi : EvO) (j : Nat) (fj : EvO) (f : EvE) : StF := fun ρ => (f ρ).sb fun p ρ1 => match p.1 with
  | .tuple [a, b] => (stSub i fi a ρ1).sb fun _ ρ2 => (stSub j fj b ρ2).sb fun _ ρ3 => .nx ρ3
  | _ => .stuck
def sAug (i : Nat) (op : Int → Int → Int) (f : EvE) : StF := fun ρ => match ρ[i]? with
  | some (.val (.int x)) => (f ρ).sb fun p ρ1 => match p.1 with
    | .int y => if isNoIno ρ1[i]? then .nx (ρ1.set i (.val (.int (op x y)))) else .stuck
    | _ => .stuck
  | _ => .stuck

section
variable {Γ : Ctx} {W : WX} {as : List Nat} {F F' : Addr → Prop} {H H' : Hp} {σ σ1 : L2.St} {ρ : AE} {E E' : Ends}
def OutS (Γ : Ctx) (W : WX) (as : List Nat) (r : SR) (F : Addr → Prop) (H : Hp) (σ : L2.St) (E : Ends) : Prop := match r with
  | .nx ρ' => ∀ F' H' σ', Fk F H F' H' → GInv Γ F' H' → RepS Γ F' H' σ' ρ' → (∀ i, i ∉ as → σ'[i]? = σ[i]?) → E.nx σ' H'
  | .brk ρ' => ∀ F' H' σ', Fk F H F' H' → GInv Γ F' H' → RepS Γ F' H' σ' ρ' → (∀ i, i ∉ as → σ'[i]? = σ[i]?) → E.bk σ' H'
  | .ct ρ' => ∀ F' H' σ', Fk F H F' H' → GInv Γ F' H' → RepS Γ F' H' σ' ρ' → (∀ i, i ∉ as → σ'[i]? = σ[i]?) → E.ct σ' H'
  | .ret d fl ρ' => ∀ F' H' σ' v, Fk F H F' H' → GInv Γ F' H' → RepS Γ F' H' σ' ρ' → ResOk Γ F' H' σ' ρ' (d, fl) v → E.rt v H'
  | .exc c => ∀ F' H' σ', Fk F H F' H' → GInv Γ F' H' → W (Γ.cls c) none σ' H'
  | .stuck => False
def tS (Γ : Ctx) (W : WX) (as : List Nat) (f : StF) : TS := fun E σ H => ∃ F ρ, GInv Γ F H ∧ RepS Γ F H σ ρ ∧ OutS Γ W as (f ρ) F H σ E
theorem OutS.fk {r : SR} (h : OutS Γ W as r F H σ E) (q : Fk F H F' H') : OutS Γ W as r F' H' σ E := by
  cases r with
  | stuck => exact h
  | ret d fl ρ' => exact fun F2 H2 σ2 v k => h F2 H2 σ2 v (q.trans k)
  | exc c => exact fun F2 H2 σ2 k => h F2 H2 σ2 (q.trans k)
  | nx ρ' => exact fun F2 H2 σ2 k => h F2 H2 σ2 (q.trans k)
  | brk ρ' => exact fun F2 H2 σ2 k => h F2 H2 σ2 (q.trans k)
  | ct ρ' => exact fun F2 H2 σ2 k => h F2 H2 σ2 (q.trans k)
theorem OutS.at {r : SR} (h : OutS Γ W as r F H σ E) (q : ∀ i, i ∉ as → σ1[i]? = σ[i]?) : OutS Γ W as r F H σ1 E := by
  cases r with
  | stuck => exact h
  | ret d fl ρ' => exact h
  | exc c => exact h
  | nx ρ' => exact fun F2 H2 σ2 k g s f => h F2 H2 σ2 k g s fun i hi => (f i hi).trans (q i hi)
  | brk ρ' => exact fun F2 H2 σ2 k g s f => h F2 H2 σ2 k g s fun i hi => (f i hi).trans (q i hi)
  | ct ρ' => exact fun F2 H2 σ2 k g s f => h F2 H2 σ2 k g s fun i hi => (f i hi).trans (q i hi)
theorem OutS.more {r : SR} {as' : List Nat} (h : OutS Γ W as' r F H σ E) (q : ∀ i, i ∈ as → i ∈ as') : OutS Γ W as r F H σ E := by
  cases r with
  | stuck => exact h
  | ret d fl ρ' => exact h
  | exc c => exact h
  | nx ρ' => exact fun F2 H2 σ2 k g s f => h F2 H2 σ2 k g s fun i hi => f i fun z => hi (q i z)
  | brk ρ' => exact fun F2 H2 σ2 k g s f => h F2 H2 σ2 k g s fun i hi => f i fun z => hi (q i z)
  | ct ρ' => exact fun F2 H2 σ2 k g s f => h F2 H2 σ2 k g s fun i hi => f i fun z => hi (q i z)
theorem OutS.sb {α : Type} {r : Res α} {f : α → AE → SR} (h : OutS Γ W as (r.sb f) F H σ E) : Out Γ W r F H σ fun a ρ' F' H' => OutS Γ W as (f a ρ') F' H' σ E := by
  cases r with
  | ok a ρ' => exact fun F' H' q1 q2 q3 => OutS.fk (r := f a ρ') h q1
  | exc c => exact fun F' H' k g => h F' H' σ k g
  | stuck => exact h
/-- a value is stored -/
theorem RepS.storeRes (S : RepS Γ F H σ ρ) {i : Nat} {p : D × Bool} {v : V} (hi : isNoIno ρ[i]? = true) (h : ResOk Γ F H σ ρ p v) : RepS Γ F H (σ.set i (some v)) (ρ.set i (slotOf p)) := by
  obtain ⟨s, hs, hn⟩ : ∃ s, ρ[i]? = some s ∧ ∀ d, s ≠ .ino d := by
    cases q : ρ[i]? with
    | none => rw [q] at hi; cases hi
    | some s =>
      refine ⟨s, rfl, fun d e => ?_⟩
      subst e
      rw [q] at hi; cases hi
  unfold ResOk at h
  unfold slotOf
  by_cases hm : (p.2 && isMut p.1) = true
  · rw [if_pos hm] at h ⊢
    obtain ⟨a, rfl, nf, h0, no, t⟩ := h
    have hil : i < ρ.length := (List.getElem?_eq_some_iff.mp hs).1
    have same : (ρ.set i (Slot.own p.1))[i]? = some (.own p.1) := List.getElem?_set_self hil
    have ssame : (σ.set i (some (V.ref a)))[i]? = some (some (.ref a)) := List.getElem?_set_self (by rw [← S.len]; exact hil)
    have sne : ∀ {j : Nat}, j ≠ i → (σ.set i (some (V.ref a)))[j]? = σ[j]? := fun hj => List.getElem?_set_ne (Ne.symm hj)
    have back : ∀ j b, OwnAt (σ.set i (some (.ref a))) (ρ.set i (.own p.1)) j b → (j = i ∧ b = a) ∨ (j ≠ i ∧ OwnAt σ ρ j b) := fun j b ⟨e1, d1, o⟩ => by
      by_cases hj : j = i
      · subst hj
        rw [ssame] at e1
        cases e1
        exact .inl ⟨rfl, rfl⟩
      · rw [get_set_ne hj] at o
        rw [sne hj] at e1
        exact .inr ⟨hj, e1, d1, o⟩
    refine ⟨by rw [List.length_set, List.length_set]; exact S.len, fun j d1 h1 => ?_, fun j d1 h1 => ?_, fun j d1 h1 => ?_, fun j l b o1 o2 => ?_, S.exnB (fun e => Slot.noConfusion e)⟩
    · by_cases hj : j = i
      · subst hj; rw [same] at h1; cases h1
      · rw [get_set_ne hj] at h1; rw [sne hj]; exact S.val j d1 h1
    · by_cases hj : j = i
      · subst hj
        rw [same] at h1
        cases h1
        exact ⟨a, ssame, nf, h0, t⟩
      · rw [get_set_ne hj] at h1; rw [sne hj]; exact S.own j d1 h1
    · by_cases hj : j = i
      · subst hj; rw [same] at h1; cases h1
      · rw [get_set_ne hj] at h1; rw [sne hj]; exact S.ino j d1 h1
    · rcases back j b o1 with ⟨q1, q2⟩ | ⟨q1, q2⟩ <;> rcases back l b o2 with ⟨q3, q4⟩ | ⟨q3, q4⟩
      · rw [q1, q3]
      · exact absurd (q2 ▸ q4) (no l)
      · exact absurd (q4 ▸ q2) (no j)
      · exact S.dis j l b q2 q4
  · rw [if_neg hm] at h ⊢
    exact S.store hs hn h
/-- a list that is one's own is changed -/
theorem RepS.put (G : GInv Γ F H) (S : RepS Γ F H σ ρ) {i : Nat} {g : List D → Option (List D)} {ρ' : AE} (h : putL i g ρ = some ρ') : ∃ a xs ds ds', σ[i]? = some (some (.ref a)) ∧ H a = some (.lst xs) ∧ xs.length ≤ sizeLine ∧ Γ.RL F H ds xs ∧ g ds = some ds' ∧
    ∀ ys, ys.length ≤ sizeLine → Γ.RL F H ds' ys → Fk F H F (upd H a (.lst ys)) ∧ GInv Γ F (upd H a (.lst ys)) ∧ RepS Γ F (upd H a (.lst ys)) σ ρ' := by
  have key : ∀ (ds : List D) (mk : D → Slot) (hmk : (mk = .own) ∨ (mk = .ino)), ρ[i]? = some (mk (.list ds)) → (g ds).map (fun ds' => ρ.set i (mk (.list ds'))) = some ρ' → ∃ a xs ds ds', σ[i]? = some (some (.ref a)) ∧ H a = some (.lst xs) ∧ xs.length ≤ sizeLine ∧ Γ.RL F H ds xs ∧ g ds = some ds' ∧
    ∀ ys, ys.length ≤ sizeLine → Γ.RL F H ds' ys → Fk F H F (upd H a (.lst ys)) ∧ GInv Γ F (upd H a (.lst ys)) ∧ RepS Γ F (upd H a (.lst ys)) σ ρ' := by
    intro ds mk hmk hs hg
    obtain ⟨ds', hd, rfl⟩ := Option.map_eq_some_iff.mp hg
    have oi : ∀ a, σ[i]? = some (some (.ref a)) → OwnAt σ ρ i a := fun a e => ⟨e, .list ds, by rcases hmk with e | e <;> subst e <;> simp [hs]⟩
    obtain ⟨a, e, nf, h0, t⟩ : ∃ a, σ[i]? = some (some (.ref a)) ∧ ¬ F a ∧ (Γ.H0 a = none ∨ ∃ i, Γ.ino i = some a) ∧ Top Γ F H (.list ds) a := by
      rcases hmk with e | e
      · subst e
        obtain ⟨a, e, nf, h0, t⟩ := S.own i _ hs
        exact ⟨a, e, nf, .inl h0, t⟩
      · subst e
        obtain ⟨a, e, nf, h0, t⟩ := S.ino i _ hs
        exact ⟨a, e, nf, .inr ⟨i, h0⟩, t⟩
    obtain ⟨xs, ha, hz, r⟩ := t
    refine ⟨a, xs, ds, ds', e, ha, hz, r, hd, fun ys hy ry => ?_⟩
    have pk : Fk F H F (upd H a (.lst ys)) := Fk.put nf ha soft_lst
    have hil : i < ρ.length := (List.getElem?_eq_some_iff.mp hs).1
    have same : (ρ.set i (mk (.list ds')))[i]? = some (mk (.list ds')) := List.getElem?_set_self hil
    have top : Top Γ F (upd H a (.lst ys)) (.list ds') a := ⟨ys, upd_same, hy, RepL.mono pk _ _ ry⟩
    have other : ∀ {j b}, j ≠ i → OwnAt σ ρ j b → upd H a (.lst ys) b = H b := fun hj o => upd_ne fun e' => hj (S.dis _ _ _ o (e' ▸ oi a e))
    have back : ∀ j b, OwnAt σ (ρ.set i (mk (.list ds'))) j b → OwnAt σ ρ j b := fun j b ⟨e1, d1, o⟩ => by
      by_cases hj : j = i
      · subst hj
        rw [e] at e1; cases e1
        exact oi a e
      · rw [get_set_ne hj] at o
        exact ⟨e1, d1, o⟩
    refine ⟨pk, G.put nf h0 ha soft_lst (fun _ e => HO.noConfusion e), ⟨by rw [List.length_set]; exact S.len, fun j d1 h1 => ?_, fun j d1 h1 => ?_, fun j d1 h1 => ?_, fun j l b o1 o2 => S.dis j l b (back j b o1) (back l b o2), S.exnA (by rcases hmk with e | e <;> subst e <;> exact fun e => Slot.noConfusion e)⟩⟩
    · by_cases hj : j = i
      · subst hj; rw [same] at h1
        rcases hmk with e | e <;> subst e <;> cases h1
      · rw [get_set_ne hj] at h1
        obtain ⟨v, e1, r1⟩ := S.val j d1 h1
        exact ⟨v, e1, r1.mono pk⟩
    · by_cases hj : j = i
      · subst hj; rw [same] at h1
        rcases hmk with e' | e' <;> subst e' <;> cases h1
        obtain ⟨b, e1, f1, z1, _⟩ := S.own j _ hs
        rw [e] at e1; cases e1
        exact ⟨a, e, nf, z1, top⟩
      · rw [get_set_ne hj] at h1
        obtain ⟨b, e1, f1, z1, t1⟩ := S.own j d1 h1
        exact ⟨b, e1, f1, z1, t1.mono pk (other hj ⟨e1, d1, .inl h1⟩)⟩
    · by_cases hj : j = i
      · subst hj; rw [same] at h1
        rcases hmk with e' | e' <;> subst e' <;> cases h1
        obtain ⟨b, e1, f1, z1, _⟩ := S.ino j _ hs
        rw [e] at e1; cases e1
        exact ⟨a, e, nf, z1, top⟩
      · rw [get_set_ne hj] at h1
        obtain ⟨b, e1, f1, z1, t1⟩ := S.ino j d1 h1
        exact ⟨b, e1, f1, z1, t1.mono pk (other hj ⟨e1, d1, .inr h1⟩)⟩
  unfold putL at h
  split at h
  · rename_i ds hs
    exact key ds .own (.inl rfl) hs h
  · rename_i ds hs
    exact key ds .ino (.inr rfl) hs h
  · cases h
theorem isOwnL_at (S : RepS Γ F H σ ρ) {i : Nat} (h : isOwnL i ρ = true) : ∃ a xs d, σ[i]? = some (some (.ref a)) ∧ H a = some (.lst xs) ∧ (ρ[i]? = some (.own d) ∨ ρ[i]? = some (.ino d)) := by
  unfold isOwnL at h
  split at h
  · rename_i ds hs
    obtain ⟨a, e, nf, h0, xs, ha, _⟩ := S.own i _ hs
    exact ⟨a, xs, _, e, ha, .inl hs⟩
  · rename_i ds hs
    obtain ⟨a, e, nf, h0, xs, ha, _⟩ := S.ino i _ hs
    exact ⟨a, xs, _, e, ha, .inr hs⟩
  · cases h
theorem RepBs.frame : ∀ {bs : Src} {us : List V}, RepBs Γ F H σ bs us → Fk F H F' H' → freeOf as bs = true → (∀ i, i ∉ as → σ1[i]? = σ[i]?) → RepBs Γ F' H' σ1 bs us
  | [], us, h, _, _, _ => h
  | p :: ps, us, h, k, hf, hs => by
    obtain ⟨v, us', e, r, t⟩ := h
    simp only [freeOf, List.all_cons, Bool.and_eq_true] at hf
    refine ⟨v, us', e, ?_, RepBs.frame t k hf.2 hs⟩
    obtain ⟨d, b⟩ := p
    cases b with
    | none => exact RepV.mono k _ _ (show Γ.RV F H d v from r)
    | some i =>
      show σ1[i]? = some (some v)
      rw [hs i ?_]
      · exact r
      · have := hf.1
        simpa using this
end

/-! ### the rules -/
structure GdS (Γ : Ctx) (X : Cx) (sc : Scope) (st : Str → Bool) (k : Nat) (W : WX) : Prop extends GdT Γ X sc st k W where
  hp : PassesOwn (model X.prog X.w) X.A X.env X.xe
section
variable {Γ : Ctx} {X : Cx} {sc : Scope} {st : Str → Bool} {k : Nat} {W : WX} {as : List Nat} {e : Expr} {pos : Pos} {s : Stmt} {ss : List Stmt} {f h : StF}
theorem ds_weak {as' : List Nat} (h : PS X s (tS Γ W as f)) (hs : ∀ i, i ∈ as → i ∈ as') : PS X s (tS Γ W as' f) := ps_imp h fun E σ H ⟨F, ρ, G, S, O⟩ => ⟨F, ρ, G, S, O.more hs⟩
theorem dss_weak {as' : List Nat} (h : PSs X ss (tS Γ W as f)) (hs : ∀ i, i ∈ as → i ∈ as') : PSs X ss (tS Γ W as' f) := pss_imp h fun E σ H ⟨F, ρ, G, S, O⟩ => ⟨F, ρ, G, S, O.more hs⟩
theorem dss_nil : PSs X [] (tS Γ W as sNx) := pss_imp pss_nil fun E σ H ⟨F, ρ, G, S, O⟩ => O F H σ Fk.refl G S fun _ _ => rfl
theorem dss_one (h : PS X s (tS Γ W as f)) : PSs X [s] (tS Γ W as f) := pss_one h
theorem dss_cons (h1 : PS X s (tS Γ W as f)) (h2 : PSs X ss (tS Γ W as h)) : PSs X (s :: ss) (tS Γ W as (sSeq f h)) := pss_imp (pss_cons h1 h2) fun E σ H ⟨F, ρ, G, S, O⟩ => by
  refine ⟨F, ρ, G, S, ?_⟩
  simp only [sSeq] at O
  cases q : f ρ with
  | nx ρ' =>
    rw [q] at O
    exact fun F' H' σ' k' G' S' fr => ⟨F', ρ', G', S', (OutS.fk O k').at fr⟩
  | ret d fl ρ' => rw [q] at O; exact O
  | exc c => rw [q] at O; exact O
  | brk ρ' => rw [q] at O; exact O
  | ct ρ' => rw [q] at O; exact O
  | stuck => rw [q] at O; exact O
theorem ds_pass : PS X (.Pass pos) (tS Γ W as sNx) := ps_imp ps_pass fun E σ H ⟨F, ρ, G, S, O⟩ => O F H σ Fk.refl G S fun _ _ => rfl
theorem ds_brk : PS X (.Break pos) (tS Γ W as sBrk) := ps_imp ps_break fun E σ H ⟨F, ρ, G, S, O⟩ => O F H σ Fk.refl G S fun _ _ => rfl
theorem ds_ct : PS X (.Continue pos) (tS Γ W as sCt) := ps_imp ps_continue fun E σ H ⟨F, ρ, G, S, O⟩ => O F H σ Fk.refl G S fun _ _ => rfl
theorem ds_doc {x j p2} : PS X (.Expr (.Constant (.str x) j p2) pos) (tS Γ W as sNx) := ps_imp ps_doc fun E σ H ⟨F, ρ, G, S, O⟩ => O F H σ Fk.refl G S fun _ _ => rfl
theorem ds_if {a b : List Stmt} {t : EvT} (ht : PT X e (tT Γ W t)) (ha : PSs X a (tS Γ W as f)) (hb : PSs X b (tS Γ W as h)) : PS X (.If e a b pos) (tS Γ W as (sIf t f h)) := ps_imp (ps_if ht ha hb) fun E σ H ⟨F, ρ, G, S, O⟩ => by
  refine ⟨F, ρ, G, S, (OutS.sb O).imp fun b ρ' F' H' k' G' S' O' => ?_⟩
  cases b with
  | true => exact ⟨F', ρ', G', S', O'⟩
  | false => exact ⟨F', ρ', G', S', O'⟩
theorem ds_ret {f : EvE} (he : PE X e (tD Γ W f)) : PS X (.Return (some e) pos) (tS Γ W as (sRet f)) := ps_imp (ps_ret he) fun E σ H ⟨F, ρ, G, S, O⟩ => by
  refine ⟨F, ρ, G, S, (OutS.sb O).imp fun p ρ' F' H' k' G' S' O' v r => O' F' H' σ v Fk.refl G' S' r⟩
theorem ds_retN : PS X (.Return none pos) (tS Γ W as sRetN) := ps_imp ps_retN fun E σ H ⟨F, ρ, G, S, O⟩ => O F H σ .non Fk.refl G S (resOk_plain (by simp only [RepV]))
theorem ds_drop {f : EvE} (he : PE X e (tD Γ W f)) (hs : swapsWith e none pos.line X.env = pure false) : PS X (.Expr e pos) (tS Γ W as (sDrop f)) := ps_imp (ps_expr he hs) fun E σ H ⟨F, ρ, G, S, O⟩ => by
  refine ⟨F, ρ, G, S, (OutS.sb O).imp fun p ρ' F' H' k' G' S' O' v r => O' F' H' σ Fk.refl G' S' fun _ _ => rfl⟩
theorem asg_imp {i : Nat} {f : EvE} {te : TE} (ht : ∀ σ H (Q : VK), tD Γ W f σ H Q → te σ H Q) (hi : as.contains i = true) : ∀ E σ H, tS Γ W as (sAsg i f) E σ H → tAsg te (gName i) E σ H := fun E σ H ⟨F, ρ, G, S, O⟩ => by
  refine ht _ _ _ ⟨F, ρ, G, S, (OutS.sb O).imp fun p ρ' F' H' k' G' S' O' v r => ?_⟩
  by_cases hn : isNoIno ρ'[i]? = true
  · rw [if_pos hn] at O'
    exact O' F' H' _ Fk.refl G' (S'.storeRes hn r) fun j hj => List.getElem?_set_ne fun e => hj (by rw [← e]; simpa using hi)
  · rw [if_neg hn] at O'
    exact O'.elim
theorem ds_asg {i : Nat} {x : Str} {f : EvE} {p : Pos} (g : Gd Γ X sc st k) (hN : Γ.N[i]? = some x) (hx : st x = true) (hi : as.contains i = true) (he : PE X e (tD Γ W f)) (hs : swapsWith e (some (.Name x p)) pos.line X.env = pure false) : PS X (.Assign [.Name x p] e pos) (tS Γ W as (sAsg i f)) :=
  ps_imp (ps_set (by rw [g.N]; exact g.nd) (by rw [g.N]; exact hN) (by rw [g.scp]; exact (g.st x hx).1) he hs (by rw [g.scp]; exact (g.st x hx).2)) (asg_imp (fun _ _ _ q => q) hi)
theorem ds_asgC {i : Nat} {x : Str} {p : Pos} {elt tg iter : Expr} {ifs : List Expr} {scope : Scope} {own : List (Str × Nat)} {cpos : Pos} {it : EvI} {t : Tg} {tt : EvT} {el : EvE} (g : Gd Γ X sc st k) (hh : Γ.hot = false) (hN : Γ.N[i]? = some x) (hx : sc.names.lookup x = some .local) (hk : sc.kind = .function) (hi : as.contains i = true)
    (hl : (p.line == cpos.line) = true) (ha : (scope.names.any fun (n, k) => n == x && (k == .local || k == .cell)) = false)
    (hit : PI X tg iter (tI Γ W it)) (ok : blkC Γ.N sc scope own = true) (hsl : t.slots.all (fun i => (own.map (·.2)).contains i) = true)
    (hg : ∀ p o X', GdT (Γ.apart p o) X' (relS scope sc) (stOf scope) k W0 → PG X' tg (tG (Γ.apart p o) t)) (ht : ∀ p o X', GdT (Γ.apart p o) X' (relS scope sc) (stOf scope) k W0 → PTs X' ifs (tT (Γ.apart p o) W0 tt))
    (he : ∀ p o X', GdT (Γ.apart p o) X' (relS scope sc) (stOf scope) k W0 → PE X' elt (tD (Γ.apart p o) W0 el)) (hs : ∀ x, foldedSetIterable iter X.env x = pure x) :
    PS X (.Assign [.Name x p] (.ListComp elt [⟨tg, iter, ifs, 0⟩] scope cpos) pos) (tS Γ W as (sAsg i (eComp (own.map (·.2)) it t tt el))) := by
  have okb : BlkOk X.N X.env.scope scope own := by rw [g.N, g.scp]; exact blkOk_by ok
  refine ps_imp (ps_setLc (i := i) (g.calm hh) (by rw [g.N]; exact g.nd) (by rw [g.N]; exact hN) (by rw [g.scp]; exact hx) (sw_true (by rw [g.scp]; exact hk) (by rw [g.scp]; exact hx) hl ha) hit okb (g := gComp Γ t) (tt := ttComp Γ tt) (te := teComp Γ el)
    (fun s H C cl fp => pg_ex fun z => hg _ _ _ ⟨gd_apart (gd_blk g) z.1 z.2, takesN0⟩) (fun s H C cl fp => pts_ex fun z => ht _ _ _ ⟨gd_apart (gd_blk g) z.1 z.2, takesN0⟩) (fun s H C cl fp => pe_ex fun z => he _ _ _ ⟨gd_apart (gd_blk g) z.1 z.2, takesN0⟩) hs) (asg_imp (comp_imp fun i hi => by
      have := List.all_eq_true.mp hsl i hi
      simpa using this) hi)
theorem ds_asgT {tg : Expr} {t : Tg} {f : EvE} (hsl : t.slots.all as.contains = true) (he : PE X e (tD Γ W f)) (hg : PG X tg (tG Γ t)) (hs : swapsWithSole [tg] e pos.line X.env = pure false) (hw : swappedStores [tg] e X.env = pure none) (h1 : (assignEach [tg] X.env).map (·.2) = [assign tg X.env]) :
    PS X (.Assign [tg] e pos) (tS Γ W as (sAsgT t f)) := ps_imp (ps_asg he hg hs hw h1) fun E σ H ⟨F, ρ, G, S, O⟩ => by
  refine ⟨F, ρ, G, S, (OutS.sb O).imp fun p ρ' F' H' k' G' S' O' v r => ?_⟩
  obtain ⟨F2, k2, G2, S2, r2⟩ := r.froze G' S'
  cases hb : bindT t p.1 ρ' with
  | none => rw [hb] at O'; exact O'.elim
  | some ρ2 =>
    rw [hb] at O'
    exact ⟨F2, ρ', p.1, ρ2, G2, S2, r2, hb, fun σ' hσ S3 => O' F2 H' σ' k2 G2 S3 fun j hj => hσ j fun z => hj (by have := List.all_eq_true.mp hsl j z; simpa using this)⟩
theorem de_move {i : Nat} {x : Str} (g : Gd Γ X sc st k) (hN : Γ.N[i]? = some x) (hv : Vis sc x) (hd : (x == ("__debug__" : Str)) = false) (hcd : (x == ("__classdict__" : Str)) = false) : PE X (.Name x pos) (tD Γ W (eMove i)) := by
  refine pe_imp (pe_var (i := i) (by rw [g.N]; exact hN) (by rw [g.scp]; exact hv) hd hcd) fun σ H Q h => ?_
  obtain ⟨F, ρ, G, S, O⟩ := h
  simp only [eMove] at O
  split at O
  · rename_i d hd'
    obtain ⟨v, e, r⟩ := S.val i d hd'
    exact ⟨v, e, O F H Fk.refl G S v (resOk_plain r)⟩
  · rename_i d hd'
    obtain ⟨a, e, f, z, t⟩ := S.own i d hd'
    have hil : i < ρ.length := (List.getElem?_eq_some_iff.mp hd').1
    have same : (ρ.set i Slot.non)[i]? = some .non := List.getElem?_set_self hil
    have back : ∀ j b, OwnAt σ (ρ.set i .non) j b → j ≠ i ∧ OwnAt σ ρ j b := fun j b ⟨e1, d1, o⟩ => by
      by_cases hj : j = i
      · subst hj
        rw [same] at o
        rcases o with o | o <;> cases o
      · rw [get_set_ne hj] at o
        exact ⟨hj, e1, d1, o⟩
    have S' : RepS Γ F H σ (ρ.set i .non) := by
      refine ⟨by rw [List.length_set]; exact S.len, fun j d1 h1 => ?_, fun j d1 h1 => ?_, fun j d1 h1 => ?_, fun j l b o1 o2 => S.dis j l b (back j b o1).2 (back l b o2).2, S.exnA (fun e => Slot.noConfusion e)⟩
      · by_cases hj : j = i
        · subst hj; rw [same] at h1; cases h1
        · rw [get_set_ne hj] at h1; exact S.val j d1 h1
      · by_cases hj : j = i
        · subst hj; rw [same] at h1; cases h1
        · rw [get_set_ne hj] at h1; exact S.own j d1 h1
      · by_cases hj : j = i
        · subst hj; rw [same] at h1; cases h1
        · rw [get_set_ne hj] at h1; exact S.ino j d1 h1
    refine ⟨_, e, O F H Fk.refl G S' _ ?_⟩
    unfold ResOk
    rw [if_pos (by simp [t.mut])]
    exact ⟨a, rfl, f, z, fun j o => (back j a o).1 (S.dis j i a (back j a o).2 ⟨e, d, .inl hd'⟩), t⟩
  · exact O.elim
theorem ds_while {t : EvT} (g : GdS Γ X sc st k W) (ht : PT X e (tT Γ W t)) (hb : PSs X ss (tS Γ W as f)) : PS X (.While e ss [] pos) (tS Γ W as (sWhile t f)) := ps_imp (ps_while g.hp ht hb) fun E σ H ⟨F, ρ, G, S, O⟩ => by
  refine ⟨fun m σ' H' => ∃ F ρ, GInv Γ F H' ∧ RepS Γ F H' σ' ρ ∧ OutS Γ W as (whGo t f m ρ) F H' σ' E, ⟨lid, F, ρ, G, S, O⟩, ?_⟩
  rintro m σ1 H1 ⟨F1, ρ1, G1, S1, O1⟩
  cases m with
  | zero => exact O1.elim
  | succ m =>
    simp only [whGo] at O1
    refine ⟨F1, ρ1, G1, S1, (OutS.sb O1).imp fun b ρ2 F2 H2 k2 G2 S2 O2 => ?_⟩
    cases b with
    | false => exact O2 F2 H2 σ1 Fk.refl G2 S2 fun _ _ => rfl
    | true =>
      refine ⟨_, fun σ' H' q => ⟨m, Nat.lt_succ_self m, q⟩, F2, ρ2, G2, S2, ?_⟩
      rw [if_pos rfl] at O2
      cases q : f ρ2 with
      | nx ρ3 => rw [q] at O2; exact fun F' H' σ' k' G' S' fr => ⟨F', ρ3, G', S', (OutS.fk O2 k').at fr⟩
      | ct ρ3 => rw [q] at O2; exact fun F' H' σ' k' G' S' fr => ⟨F', ρ3, G', S', (OutS.fk O2 k').at fr⟩
      | brk ρ3 => rw [q] at O2; exact O2
      | ret d fl ρ3 => rw [q] at O2; exact O2
      | exc c => rw [q] at O2; exact O2
      | stuck => rw [q] at O2; exact O2
theorem ds_for {iter tg : Expr} {it : EvI} {t : Tg} (g : GdS Γ X sc st k W) (hh : Γ.hot = false) (hsl : t.slots.all as.contains = true) (hi : PI X tg iter (tI Γ W it)) (hg : PG X tg (tG Γ t)) (hb : PSs X ss (tS Γ W as f)) (hs : ∀ x, foldedSetIterable iter X.env x = pure x) :
    PS X (.For tg iter ss [] pos) (tS Γ W as (sFor as it t f)) := ps_imp (ps_for g.hp (g.calm hh) hi hg hb hs) fun E σ H ⟨F, ρ, G, S, O⟩ => by
  refine ⟨F, ρ, G, S, (OutS.sb O).imp fun p ρ0 F1 H1 k1 G1 S1 O1 J us hlen hB hst0 hW => ?_⟩
  obtain ⟨ds, bs⟩ := p
  simp only at O1 hlen hB hst0 hW
  by_cases hf : freeOf as bs = true
  · rw [if_pos hf] at O1
    refine ⟨fun i m σ' H' => i ≤ ds.length ∧ m = ds.length - i ∧ ∃ F ρ, GInv Γ F H' ∧ RepS Γ F H' σ' ρ ∧ Fk F1 H1 F H' ∧ (∀ i, i ∉ as → σ'[i]? = σ[i]?) ∧ OutS Γ W as (forGo bs t f (ds.drop i) ρ) F H' σ E, ⟨_, Nat.zero_le _, rfl, F1, ρ0, G1, S1, Fk.refl, fun _ _ => rfl, O1⟩, ?_⟩
    rintro i m σ2 H2 ⟨hi, rfl, F2, ρ2, G2, S2, k2, fr2, O2⟩
    have hst : stills bs ρ2 = true := by
      cases hb : stills bs ρ2 with
      | true => rfl
      | false =>
        exfalso
        cases hdr : ds.drop i with
        | nil => rw [hdr] at O2; simp only [forGo, hb] at O2; exact O2
        | cons d r => rw [hdr] at O2; simp only [forGo, hb] at O2; exact O2
    have hB2 : RepBs Γ F2 H2 σ2 bs us := hB.frame k2 hf fr2
    obtain ⟨w1, w2, w3⟩ := hW F2 H2 G2.tr (S2.reads hB2 hst)
    by_cases hend : i = ds.length
    · left
      subst hend
      refine ⟨w2, ?_⟩
      rw [List.drop_length] at O2
      simp only [forGo, hst, if_true] at O2
      exact O2 F2 H2 σ2 Fk.refl G2 S2 fr2
    · right
      have hlt : i < ds.length := by omega
      refine ⟨w1 i hlt, fun σ' H' => ∃ F ρ, GInv Γ F H' ∧ RepS Γ F H' σ' ρ ∧ Fk F1 H1 F H' ∧ (∀ i, i ∉ as → σ'[i]? = σ[i]?) ∧ OutS Γ W as (forGo bs t f (ds.drop (i + 1)) ρ) F H' σ E, fun σ' H' q => ⟨ds.length - (i + 1), by omega, by omega, rfl, q⟩, fun x H3 hy => ?_⟩
      obtain ⟨d, hd, e3, hx⟩ := w3 i x H3 hlt hy
      rw [drop_cons hd] at O2
      simp only [forGo, hst, if_true] at O2
      have k3 := Fk.ext G2.tr e3
      cases hb : bindT t d ρ2 with
      | none => rw [hb] at O2; exact O2.elim
      | some ρ3 =>
        rw [hb] at O2
        simp only at O2
        refine ⟨F2, ρ2, d, ρ3, G2.ext e3, S2.ext G2.tr e3, hx, hb, fun σ4 h4 S4 => ?_⟩
        have fr4 : ∀ i, i ∉ as → σ4[i]? = σ[i]? := fun j hj => (h4 j fun z => hj (by have := List.all_eq_true.mp hsl j z; simpa using this)).trans (fr2 j hj)
        refine ⟨F2, ρ3, G2.ext e3, S4, ?_⟩
        have O3 := fun {r : SR} (h : OutS Γ W as r F2 H2 σ E) => (OutS.fk h k3).at fr4
        cases q : f ρ3 with
        | nx ρ5 => rw [q] at O2; exact fun F' H' σ' k' G' S' fr => ⟨F', ρ5, G', S', (k2.trans k3).trans k', fun j hj => (fr j hj).trans (fr4 j hj), OutS.fk (OutS.fk O2 k3) k'⟩
        | ct ρ5 => rw [q] at O2; exact fun F' H' σ' k' G' S' fr => ⟨F', ρ5, G', S', (k2.trans k3).trans k', fun j hj => (fr j hj).trans (fr4 j hj), OutS.fk (OutS.fk O2 k3) k'⟩
        | brk ρ5 => rw [q] at O2; exact O3 (r := .nx ρ5) O2
        | ret d fl ρ5 => rw [q] at O2; exact O3 O2
        | exc c => rw [q] at O2; exact O3 O2
        | stuck => rw [q] at O2; exact O2
  · rw [if_neg hf] at O1
    exact O1.elim
theorem ds_raise {cl : Str} {t : L2.St → Hp → XK → Prop} (g : GdS Γ X sc st k W) (hh : Γ.hot = false) (he : L2N.PMk X e t) (ht : ∀ σ H (Q : XK), Q (Γ.cls cl) none H → t σ H Q) : PS X (.Raise (some e) none pos) (tS Γ W as (sRaise cl)) := ps_imp (L2N.ps_raise (g.calm hh) g.tk he) fun E σ H ⟨F, ρ, G, S, O⟩ => ht _ _ _ (O F H σ Fk.refl G)
/-! ### into a list -/
theorem ds_app {i : Nat} {x : Str} {xp ap cp : Pos} {f : EvE} (g : Gd Γ X sc st k) (hN : Γ.N[i]? = some x) (hv : Vis sc x) (hd : (x == ("__debug__" : Str)) = false) (hcd : (x == ("__classdict__" : Str)) = false) (he : PE X e (tD Γ W f))
    (hbase : attributeBase (.Name x xp) "append" X.env (eval (.Name x xp) X.env) = eval (.Name x xp) X.env) (hline : (ap.endLine == cp.line) = true) (hs1 : starEach [e] X.env = [(false, eval e X.env)]) (hs : swapsWith (.Call (.Attribute (.Name x xp) "append" ap) [e] [] cp) none pos.line X.env = pure false) :
    PS X (.Expr (.Call (.Attribute (.Name x xp) "append" ap) [e] [] cp) pos) (tS Γ W as (sApp i f)) := by
  have hpa : PA X [e] (tCons (tD Γ W f) tNil) := pa_cons he pa_nil hs1
  refine ps_imp (ps_expr (pe_bm PySem.F.plainAttrs_list PySem.F.slot_list_append PySem.F.type_list_append mt_append (pe_var (i := i) (by rw [g.N]; exact hN) (by rw [g.scp]; exact hv) hd hcd) hpa hbase (by rw [hs1]; rfl) hline hs1 rfl) hs) fun E σ H ⟨F, ρ, G, S, O⟩ => ?_
  simp only [sApp] at O
  split at O
  · rename_i hown
    obtain ⟨a, xs, d, e1, ha, _⟩ := isOwnL_at S hown
    refine ⟨.ref a, e1, .inl ⟨rfl, xs, .of ha⟩, F, ρ, G, S, (OutS.sb O).imp fun p ρ1 F1 H1 k1 G1 S1 O1 v r => ?_⟩
    obtain ⟨F2, k2, G2, S2, r2⟩ := r.froze G1 S1
    cases hp : putL i (appD p.1) ρ1 with
    | none => rw [hp] at O1; exact O1.elim
    | some ρ3 =>
      rw [hp] at O1
      obtain ⟨b, ys, ds, ds', e2, hb, hz, ry, hg, fin⟩ := RepS.put G2 S2 hp
      rw [e1] at e2; cases e2
      unfold appD at hg
      split at hg
      · rename_i hlt
        cases hg
        have hl : ds.length = ys.length := ry.length
        refine ⟨a, ys, v, rfl, rfl, hb, by omega, ?_⟩
        obtain ⟨pk, G3, S3⟩ := fin (ys ++ [v]) (by simp; omega) (RepL.append ry (RepL.cons r2 RepL.nil))
        exact O1 F2 _ σ (k2.trans pk) G3 S3 fun _ _ => rfl
      · cases hg
  · exact O.elim
def tGS (Γ : Ctx) (W : WX) (i : Nat) (fi : EvO) : TG := fun v σ H Q => ∃ F ρ d, GInv Γ F H ∧ RepS Γ F H σ ρ ∧ Γ.RV F H d v ∧ Out Γ W (stSub i fi d ρ) F H σ fun _ _ _ H' => Q σ H'
theorem dg_sub {i : Nat} {x : Str} {xp : Pos} {fi : EvO} (g : Gd Γ X sc st k) (hN : Γ.N[i]? = some x) (hv : Vis sc x) (hd : (x == ("__debug__" : Str)) = false) (hcd : (x == ("__classdict__" : Str)) = false) (he : PE X e (tO Γ W fi))
    (ha : ∀ v, assign (.Subscript (.Name x xp) e pos) X.env v = (do
      let ov ← holding [v] (eval (.Name x xp) X.env)
      let iv ← holding [v, ov] (eval e X.env)
      standAt pos; holding [v, ov, iv] (setItem ov iv v)
      release [v, ov, iv] [])) : PG X (.Subscript (.Name x xp) e pos) (tGS Γ W i fi) := by
  refine pg_imp (pg_sub (pe_var (i := i) (by rw [g.N]; exact hN) (by rw [g.scp]; exact hv) hd hcd) he set_list ha) fun v σ H Q ⟨F, ρ, d, G, S, r, O⟩ => ?_
  simp only [stSub] at O
  split at O
  · rename_i hown
    obtain ⟨a, xs, d', e1, ha, hs⟩ := isOwnL_at S hown
    refine ⟨.ref a, e1, F, ρ, G, S, (Out.bind O).imp fun q ρ1 F1 H1 k1 G1 S1 O1 iv hiv hst => ?_⟩
    cases hp : putL i (setD q.1 d) ρ1 with
    | none => rw [hp] at O1; exact O1.elim
    | some ρ3 =>
      rw [hp] at O1
      obtain ⟨b, ys, ds, ds', e2, hb, hz, ry, hg, fin⟩ := RepS.put G1 S1 hp
      rw [e1] at e2; cases e2
      have rd := S1.read hiv hst
      unfold setD at hg
      split at hg
      · rename_i z hz'
        obtain ⟨j, hj, rfl⟩ := Option.map_eq_some_iff.mp hg
        rw [hz'] at rd
        have hl : ds.length = ys.length := ry.length
        refine ⟨a, ys, z, j, rfl, rInt rd, hb, by rw [← hl]; exact hj, ?_⟩
        obtain ⟨pk, G3, S3⟩ := fin (ys.set j v) (by rw [List.length_set]; exact hz) (RepL.set j ry (r.mono k1))
        exact O1 F1 _ pk G3 S3
      · cases hg
  · exact O.elim
theorem ds_sub {x : Expr} {i : Nat} {fi : EvO} {f : EvE} (he : PE X e (tD Γ W f)) (hg : PG X x (tGS Γ W i fi)) (hs : swapsWithSole [x] e pos.line X.env = pure false) (hw : swappedStores [x] e X.env = pure none) (h1 : (assignEach [x] X.env).map (·.2) = [assign x X.env]) :
    PS X (.Assign [x] e pos) (tS Γ W as (sSub i fi f)) := ps_imp (ps_asg he hg hs hw h1) fun E σ H ⟨F, ρ, G, S, O⟩ => by
  refine ⟨F, ρ, G, S, (OutS.sb O).imp fun p ρ' F' H' k' G' S' O' v r => ?_⟩
  obtain ⟨F2, k2, G2, S2, r2⟩ := r.froze G' S'
  exact ⟨F2, ρ', p.1, G2, S2, r2, (OutS.sb (OutS.fk O' k2)).imp fun _ ρ3 F3 H3 k3 G3 S3 O3 => O3 F3 H3 σ Fk.refl G3 S3 fun _ _ => rfl⟩
theorem ds_sub2 {x y : Expr} {n : Nat} {i j : Nat} {fi fj : EvO} {f : EvE} {p : Pos} (g : Gd Γ X sc st k) (hh : Γ.hot = false) (he : PE X e (tD Γ W f)) (hx : PG X x (tGS Γ W i fi)) (hy : PG X y (tGS Γ W j fj)) (hs : swapsWithSole [.Tuple [x, y] n p] e pos.line X.env = pure false) (hw : swappedStores [.Tuple [x, y] n p] e X.env = pure none) (h1 : (assignEach [.Tuple [x, y] n p] X.env).map (·.2) = [assign (.Tuple [x, y] n p) X.env])
    (h2 : (assignEach [x, y] X.env).map (·.2) = [assign x X.env, assign y X.env]) (h3 : (assignEach [y] X.env).map (·.2) = [assign y X.env]) (h4 : (assignEach [x, y] X.env).length = 2) (h5 : (assignEach [x, y] X.env).findIdx? (·.1) = none) :
    PS X (.Assign [.Tuple [x, y] n p] e pos) (tS Γ W as (sSub2 i fi j fj f)) := ps_imp (ps_asg he (pg_tup (g.calm hh) (pgs_cons hx (pgs_cons hy pgs_nil (by rw [h3]; rfl)) (by rw [h2, h3])) h4 h5) hs hw h1) fun E σ H ⟨F, ρ, G, S, O⟩ => by
  refine ⟨F, ρ, G, S, (OutS.sb O).imp fun p ρ' F' H' k' G' S' O' v r => ?_⟩
  obtain ⟨F2, k2, G2, S2, r2⟩ := r.froze G' S'
  split at O'
  · rename_i d1 d2 hp
    rw [hp] at r2
    simp only [RepV] at r2
    obtain ⟨a, xs, e1, l1, z1, rl⟩ := r2
    have hl := RepL.length (show RepL Γ.prog Γ.w Γ.K F2 H' [d1, d2] xs from rl)
    simp only [RepL] at rl
    obtain ⟨v1, vs1, ex, rv1, v2, vs2, ex2, rv2, ex3⟩ := rl
    subst ex2; subst ex3; subst ex
    refine ⟨a, _, e1, by rw [g.K]; exact l1, rfl, v1, _, rfl, F2, ρ', d1, G2, S2, rv1, (OutS.sb (OutS.fk O' k2)).imp fun _ ρ3 F3 H3 k3 G3 S3 O3 => ?_⟩
    exact ⟨v2, _, rfl, F3, ρ3, d2, G3, S3, rv2.mono k3, (OutS.sb O3).imp fun _ ρ4 F4 H4 k4 G4 S4 O4 => ⟨rfl, O4 F4 H4 σ Fk.refl G4 S4 fun _ _ => rfl⟩⟩
  · exact O'.elim
/-- both are made, then stored -/
theorem ds_par {i j : Nat} {x y : Str} {a b : Expr} {px py pt : Pos} {kt k2 pt2} {f f2 : EvE} (g : Gd Γ X sc st k) (hh : Γ.hot = false) (hi : Γ.N[i]? = some x) (hj : Γ.N[j]? = some y) (hij : i ≠ j) (hx : sc.names.lookup x = some .local) (hy : sc.names.lookup y = some .local) (hia : as.contains i = true) (hja : as.contains j = true)
    (ha : PE X a (tD Γ W f)) (hb : PE X b (tD Γ W f2)) (hs1 : starEach [a, b] X.env = [(false, eval a X.env), (false, eval b X.env)]) (hs2 : starEach [b] X.env = [(false, eval b X.env)])
    (hw : swappedStores [.Tuple [.Name x px, .Name y py] kt pt] (.Tuple [a, b] k2 pt2) X.env = pure (some [x, y])) (hs : swapsWithSole [.Tuple [.Name x px, .Name y py] kt pt] (.Tuple [a, b] k2 pt2) pos.line X.env = pure false) :
    PS X (.Assign [.Tuple [.Name x px, .Name y py] kt pt] (.Tuple [a, b] k2 pt2) pos) (tS Γ W as (sPar i j f f2)) := by
  refine ps_imp (ps_par (i := i) (j := j) (g.calm hh) (by rw [g.N]; exact g.nd) (by rw [g.N]; exact hi) (by rw [g.N]; exact hj) hij (by rw [g.scp]; exact hx) (by rw [g.scp]; exact hy) (pa_cons ha (pa_cons hb pa_nil hs2) (by rw [hs1, hs2])) hw hs) fun E σ H ⟨F, ρ, G, S, O⟩ => ?_
  refine ⟨F, ρ, G, S, (OutS.sb O).imp fun p ρ1 F1 H1 k1 G1 S1 O1 v r => ?_⟩
  obtain ⟨F2, k2, G2, S2, r2⟩ := r.froze G1 S1
  refine ⟨F2, ρ1, G2, S2, (OutS.sb (OutS.fk O1 k2)).imp fun q ρ3 F3 H3 k3 G3 S3 O3 u ru => ?_⟩
  obtain ⟨F4, k4, G4, S4, r4⟩ := ru.froze G3 S3
  refine ⟨_, _, rfl, ?_⟩
  by_cases hn : (isNoIno ρ3[i]? && isNoIno ρ3[j]?) = true
  · rw [if_pos hn] at O3
    simp only [Bool.and_eq_true] at hn
    have T1 := S4.storeRes (p := (p.1, false)) hn.1 (resOk_plain ((r2.mono k3).mono k4))
    have hn2 : isNoIno (ρ3.set i (slotOf (p.1, false)))[j]? = true := by rw [get_set_ne (Ne.symm hij)]; exact hn.2
    have T2 := T1.storeRes (p := (q.1, false)) hn2 (resOk_plain r4)
    refine O3 F4 H3 _ k4 G4 T2 fun l hl => ?_
    rw [List.getElem?_set_ne (fun e => hl (by rw [← e]; simpa using hja)), List.getElem?_set_ne (fun e => hl (by rw [← e]; simpa using hia))]
  · rw [if_neg hn] at O3
    exact O3.elim
theorem ds_aug {i : Nat} {x : Str} {f : EvE} {op : Operator} {fop : Int → Int → Int} {p : Pos} (g : Gd Γ X sc st k) (hN : Γ.N[i]? = some x) (hx : st x = true) (hi : as.contains i = true) (he : PE X e (tD Γ W f)) (ho : PIp X op (ipI fop)) : PS X (.AugAssign (.Name x p) op e pos) (tS Γ W as (sAug i fop f)) := by
  refine ps_imp (ps_aug (i := i) (by rw [g.N]; exact g.nd) (by rw [g.N]; exact hN) (by rw [g.scp]; exact (g.st x hx).1) he ho (by rw [g.scp]; exact (g.st x hx).2)) fun E σ H ⟨F, ρ, G, S, O⟩ => ?_
  simp only [sAug] at O
  split at O
  · rename_i z hz
    obtain ⟨v, e1, r1⟩ := S.val i _ hz
    simp only [RepV] at r1
    refine ⟨v, e1, F, ρ, G, S, (OutS.sb O).imp fun p ρ1 F1 H1 k1 G1 S1 O1 u r => ?_⟩
    obtain ⟨F2, k2, G2, S2, r2⟩ := r.froze G1 S1
    split at O1
    · rename_i y hy
      rw [hy] at r2
      simp only [RepV] at r2
      refine ⟨z, y, r1, r2, ?_⟩
      by_cases hn : isNoIno ρ1[i]? = true
      · rw [if_pos hn] at O1
        exact O1 F2 H1 _ k2 G2 (S2.storeRes (p := (.int (fop z y), false)) hn (resOk_plain (by simp only [RepV]))) fun l hl => List.getElem?_set_ne fun e => hl (by rw [← e]; simpa using hi)
      · rw [if_neg hn] at O1; exact O1.elim
    · exact O1.elim
  · exact O.elim
end
end Ow

namespace Ow
open PySem PyProof.Rows PySem.Spec L2 LamX

/-! ### defs -/
/-- how a def ends, told by data: outs, what it leaves in the parameters it changes -/
inductive FR where
  | ret (d : D) (fl : Bool) (outs : List D)
  | exc (c : Str)
abbrev Fun := List D → Option FR
def startA (n : Nat) (modes : List Bool) (ds : List D) : AE := List.zipWith (fun m d => if m then Slot.ino d else Slot.val d) modes ds ++ List.replicate (n - ds.length) .non
def inoD (s : Option Slot) : D := match s with
  | some (.ino d) => d
  | _ => .none
def isIno (s : Option Slot) : Bool := match s with
  | some (.ino _) => true
  | _ => false
def outsOf (modes : List Bool) (ρ : AE) : List D := (List.range modes.length).map fun i => inoD ρ[i]?
def inoStill (modes : List Bool) (ρ : AE) : Bool := (List.range modes.length).all fun i => match modes[i]? with
  | some true => isIno ρ[i]?
  | _ => true
def endF (modes : List Bool) : SR → Option FR
  | .ret d fl ρ => if inoStill modes ρ then some (.ret d fl (outsOf modes ρ)) else none
  | .nx ρ => if inoStill modes ρ then some (.ret .none false (outsOf modes ρ)) else none
  | .exc c => some (.exc c)
  | _ => none
/-- the def of the body f, told by data -/
def runF (f : StF) (n : Nat) (modes : List Bool) : Fun := fun ds => if ds.length = modes.length then endF modes (f (startA n modes ds)) else none

section
variable (Γ : Ctx)
def inoA (modes : List Bool) (vs : List V) (a : Addr) : Prop := ∃ i : Nat, modes[i]? = some true ∧ vs[i]? = some (.ref a)
structure ArgsOk (F : Addr → Prop) (H : Hp) (modes : List Bool) (ds : List D) (vs : List V) : Prop where
  lm : modes.length = vs.length
  ld : ds.length = vs.length
  val : ∀ (i : Nat) d v, modes[i]? = some false → ds[i]? = some d → vs[i]? = some v → Γ.RV F H d v
  ino : ∀ (i : Nat) d v, modes[i]? = some true → ds[i]? = some d → vs[i]? = some v → ∃ a, v = .ref a ∧ ¬ F a ∧ Top Γ F H d a
  dis : ∀ (i j : Nat) a, modes[i]? = some true → modes[j]? = some true → vs[i]? = some (.ref a) → vs[j]? = some (.ref a) → i = j
/-- what stays behind a call -/
structure Past (F : Addr → Prop) (H : Hp) (modes : List Bool) (vs : List V) (F' : Addr → Prop) (H' : Hp) : Prop where
  fk : Fk F H F' H'
  tr : ∀ a, F' a → NTo H' a
  tb : Tabs Γ.T H'
  fn : ∀ a, F' a → F a ∨ ¬ NTo H a
  kp : ∀ a o, H a = some o → ¬ inoA modes vs a → (∀ ps, o ≠ .tbl ps) → H' a = some o
  th : ∀ a, NTo H a → NTo H' a
def GaveOk (F' : Addr → Prop) (H H' : Hp) (d : D) (fl : Bool) (v : V) : Prop := if (fl && isMut d) = true then ∃ a, v = .ref a ∧ ¬ F' a ∧ ¬ NTo H a ∧ Top Γ F' H' d a else Γ.RV F' H' d v
def After (F : Addr → Prop) (H : Hp) (modes : List Bool) (vs : List V) (r : FR) (Q : VK) (E : XK) : Prop := match r with
  | .ret d fl outs => ∀ F' H' v, Past Γ F H modes vs F' H' → GaveOk Γ F' H H' d fl v → (∀ (i : Nat) a, modes[i]? = some true → vs[i]? = some (.ref a) → ∃ d', outs[i]? = some d' ∧ ¬ F' a ∧ Top Γ F' H' d' a) → Q v H'
  | .exc c => ∀ F' H', Past Γ F H modes vs F' H' → E (Γ.cls c) none H'
def SpG (modes : List Bool) (sem : Fun) (vs : List V) (H : Hp) (Q : VK) (E : XK) : Prop :=
  ∃ F ds r, (∀ a, F a → NTo H a) ∧ Tabs Γ.T H ∧ ArgsOk Γ F H modes ds vs ∧ sem ds = some r ∧ After Γ F H modes vs r Q E
structure FnG (gb : Bool) (k : Nat) (f : Addr) (fd : FuncData) (ps : List Str) (modes : List Bool) (sem : Fun) : Prop where
  len : modes.length = ps.length
  run : ∀ (A : Around) (outer : List Env) (s : Shared) (H : Hp) (args : Args) (us : List Value) (vs : List V) (Q : VK) (E : XK), Room k A → (gb = true → A.guards = some []) → Env0 Γ.prog Γ.w Γ.K Γ.mg Γ.base A outer s H → BindsTo s fd args (ps.zip us) → Vals vs us →
    SpG Γ modes sem vs H Q E → codeAny (model Γ.prog Γ.w) A (.call (.ref f) args) (CR (L2N.CX Γ.prog Γ.w) outer Γ.prog Γ.w H s Q E) s
end
theorem FnG.mono {Γ : Ctx} {gb : Bool} {j k : Nat} {f : Addr} {fd : FuncData} {ps : List Str} {modes : List Bool} {sem : Fun} (h : FnG Γ gb j f fd ps modes sem) (hk : j ≤ k) : FnG Γ gb k f fd ps modes sem := ⟨h.len, fun A outer s H args us vs Q E hr => h.run A outer s H args us vs Q E (hr.mono hk)⟩
/-- a promise about fewer data -/
theorem FnG.imp {Γ : Ctx} {gb : Bool} {k : Nat} {f : Addr} {fd : FuncData} {ps : List Str} {modes : List Bool} {sem sem' : Fun} (h : FnG Γ gb k f fd ps modes sem) (hs : ∀ ds r, sem' ds = some r → sem ds = some r) : FnG Γ gb k f fd ps modes sem' :=
  ⟨h.len, fun A outer s H args us vs Q E hr hg he hb hv ⟨F, ds, r, h1, h2, h3, h4, h5⟩ => h.run A outer s H args us vs Q E hr hg he hb hv ⟨F, ds, r, h1, h2, h3, hs _ _ h4, h5⟩⟩

/-- what is fixed is the same -/
structure Like (Γ Γ' : Ctx) : Prop where
  prog : Γ'.prog = Γ.prog
  w : Γ'.w = Γ.w
  K : Γ'.K = Γ.K
  mg : Γ'.mg = Γ.mg
  base : Γ'.base = Γ.base
  T : Γ'.T = Γ.T
  cls : Γ'.cls = Γ.cls
theorem FnG.to {Γ Γ' : Ctx} {gb : Bool} {k : Nat} {f : Addr} {fd : FuncData} {ps : List Str} {modes : List Bool} {sem : Fun} (h : FnG Γ gb k f fd ps modes sem) (l : Like Γ Γ') : FnG Γ' gb k f fd ps modes sem := by
  obtain ⟨p1, p2, p3, p4, p5, p6, p7, p8, p9, p10, p11, p12, p13, p14⟩ := Γ
  obtain ⟨q1, q2, q3, q4, q5, q6, q7, q8, q9, q10, q11, q12, q13, q14⟩ := Γ'
  obtain ⟨e1, e2, e3, e4, e5, e6, e7⟩ := l
  dsimp only at e1 e2 e3 e4 e5 e6 e7
  subst e1 e2 e3 e4 e5 e6 e7
  refine ⟨h.len, fun A outer s H args us vs Q E hr hg he hb hv ⟨F, ds, r, h1, h2, h3, h4, h5⟩ => h.run A outer s H args us vs Q E hr hg he hb hv ⟨F, ds, r, h1, h2, ⟨h3.lm, h3.ld, h3.val, h3.ino, h3.dis⟩, h4, ?_⟩⟩
  cases r with
  | exc c => exact fun F' H' P => h5 F' H' ⟨P.fk, P.tr, P.tb, P.fn, P.kp, P.th⟩
  | ret d fl outs => exact fun F' H' v P gv ho => h5 F' H' v ⟨P.fk, P.tr, P.tb, P.fn, P.kp, P.th⟩ gv ho
/-- the def's own view -/
def Ctx.enter (Γ : Ctx) (N : List Str) (F0 : Addr → Prop) (H0 : Hp) (ino : Nat → Option Addr) (gb : Bool) : Ctx := { Γ with N := N, F0 := F0, H0 := H0, ino := ino, gb := gb, hot := false, xa := none }
def inoAt (modes : List Bool) (vs : List V) (i : Nat) : Option Addr := match modes[i]?, vs[i]? with
  | some true, some (.ref a) => some a
  | _, _ => none
theorem inoAt_some {modes : List Bool} {vs : List V} {i : Nat} {a : Addr} (h : inoAt modes vs i = some a) : modes[i]? = some true ∧ vs[i]? = some (.ref a) := by
  unfold inoAt at h
  split at h
  · rename_i h1 h2
    cases h
    exact ⟨h1, h2⟩
  · cases h
theorem inoAt_of {modes : List Bool} {vs : List V} {i : Nat} {a : Addr} (h1 : modes[i]? = some true) (h2 : vs[i]? = some (.ref a)) : inoAt modes vs i = some a := by
  unfold inoAt
  rw [h1, h2]
theorem zipSlots {modes : List Bool} {ds : List D} {n i : Nat} {s : Slot} (hl : ds.length = modes.length) (h : (startA n modes ds)[i]? = some s) : (∃ m d, modes[i]? = some m ∧ ds[i]? = some d ∧ s = if m then .ino d else .val d) ∨ s = .non := by
  unfold startA at h
  by_cases hi : i < ds.length
  · rw [List.getElem?_append_left (by rw [List.length_zipWith]; omega), List.getElem?_zipWith] at h
    rw [List.getElem?_eq_getElem (by omega : i < modes.length), List.getElem?_eq_getElem hi] at h
    cases h
    exact .inl ⟨_, _, List.getElem?_eq_getElem _, List.getElem?_eq_getElem _, rfl⟩
  · rw [List.getElem?_append_right (by rw [List.length_zipWith]; omega), List.getElem?_replicate] at h
    split at h
    · cases h; exact .inr rfl
    · cases h
theorem start_at {N : List Str} {vs : List V} {i : Nat} {v : V} (h : vs[i]? = some v) : (L2.start N vs)[i]? = some (some v) := by
  unfold L2.start
  rw [List.getElem?_append_left (by rw [List.length_map]; exact (List.getElem?_eq_some_iff.mp h).1), List.getElem?_map, h]
  rfl
section
variable {Γ : Ctx} {F : Addr → Prop} {H : Hp} {modes : List Bool} {ds : List D} {vs : List V} {N : List Str} {gb : Bool}
theorem start_rep (a : ArgsOk Γ F H modes ds vs) (hn : vs.length ≤ N.length) : RepS (Γ.enter N F (noT H) (inoAt modes vs) gb) F H (L2.start N vs) (startA N.length modes ds) where
  len := by
    unfold startA L2.start
    have := a.lm; have := a.ld
    simp only [List.length_append, List.length_zipWith, List.length_replicate, List.length_map]
    omega
  val := fun i d h => by
    rcases zipSlots (by rw [a.ld, a.lm]) h with ⟨m, d', h1, h2, h3⟩ | h3
    · cases m with
      | true => cases h3
      | false =>
        cases h3
        have hi : i < vs.length := by rw [← a.ld]; exact (List.getElem?_eq_some_iff.mp h2).1
        have h4 : vs[i]? = some vs[i] := List.getElem?_eq_getElem hi
        exact ⟨_, start_at h4, a.val i _ _ h1 h2 h4⟩
    · cases h3
  own := fun i d h => by
    rcases zipSlots (by rw [a.ld, a.lm]) h with ⟨m, d', h1, h2, h3⟩ | h3
    · cases m <;> cases h3
    · cases h3
  ino := fun i d h => by
    rcases zipSlots (by rw [a.ld, a.lm]) h with ⟨m, d', h1, h2, h3⟩ | h3
    · cases m with
      | false => cases h3
      | true =>
        cases h3
        have hi : i < vs.length := by rw [← a.ld]; exact (List.getElem?_eq_some_iff.mp h2).1
        have h4 : vs[i]? = some vs[i] := List.getElem?_eq_getElem hi
        obtain ⟨b, e, nf, t⟩ := a.ino i _ _ h1 h2 h4
        exact ⟨b, start_at (by rw [h4, e]), nf, inoAt_of h1 (by rw [h4, e]), t⟩
    · cases h3
  dis := fun i j b ⟨e1, d1, o1⟩ ⟨e2, d2, o2⟩ => by
    have key : ∀ (i : Nat) (d : D), (L2.start N vs)[i]? = some (some (V.ref b)) → ((startA N.length modes ds)[i]? = some (Slot.own d) ∨ (startA N.length modes ds)[i]? = some (Slot.ino d)) → modes[i]? = some true ∧ vs[i]? = some (V.ref b) := by
      intro i d e o
      rcases o with o | o
      · rcases zipSlots (by rw [a.ld, a.lm]) o with ⟨m, d', h1, h2, h3⟩ | h3
        · cases m <;> cases h3
        · cases h3
      · rcases zipSlots (by rw [a.ld, a.lm]) o with ⟨m, d', h1, h2, h3⟩ | h3
        · cases m with
          | false => cases h3
          | true =>
            have hi : i < vs.length := by rw [← a.ld]; exact (List.getElem?_eq_some_iff.mp h2).1
            have h4 : vs[i]? = some vs[i] := List.getElem?_eq_getElem hi
            rw [start_at h4] at e
            have ev : vs[i] = V.ref b := Option.some.inj (Option.some.inj e)
            exact ⟨h1, by rw [h4, ev]⟩
        · cases h3
    obtain ⟨q1, q2⟩ := key i d1 e1 o1
    obtain ⟨q3, q4⟩ := key j d2 e2 o2
    exact a.dis i j b q1 q3 q2 q4
  exn := fun i h => by
    rcases zipSlots (by rw [a.ld, a.lm]) h with ⟨m, d', h1, h2, h3⟩ | h3
    · cases m <;> cases h3
    · cases h3
theorem start_inv (a : ArgsOk Γ F H modes ds vs) (tr : ∀ a, F a → NTo H a) (tb : Tabs Γ.T H) : GInv (Γ.enter N F (noT H) (inoAt modes vs) gb) F H where
  tr := tr
  fn := fun _ f => .inl f
  f0 := fun _ f => f
  kp := fun _ _ h _ _ => (noT_some h).1
  th := fun b h => by
    cases q : noT H b with
    | none => exact absurd q h
    | some o => exact ⟨o, noT_some q⟩
  io := fun i b h => by
    obtain ⟨h1, h2⟩ := inoAt_some h
    have hi : i < ds.length := by rw [a.ld]; exact (List.getElem?_eq_some_iff.mp h2).1
    obtain ⟨c, e, nf, t⟩ := a.ino i _ _ h1 (List.getElem?_eq_getElem hi) h2
    cases e
    exact fun z => noT_none.mp z t.some
  ni := fun i b h => by
    obtain ⟨h1, h2⟩ := inoAt_some h
    have hi : i < ds.length := by rw [a.ld]; exact (List.getElem?_eq_some_iff.mp h2).1
    obtain ⟨c, e, nf, t⟩ := a.ino i _ _ h1 (List.getElem?_eq_getElem hi) h2
    cases e
    exact nf
  tb := tb
theorem past_of {F' : Addr → Prop} {H' : Hp} (k : Fk F H F' H') (G : GInv (Γ.enter N F (noT H) (inoAt modes vs) gb) F' H') : Past Γ F H modes vs F' H' :=
  ⟨k, G.tr, G.tb, fun a f => (G.fn a f).imp id noT_none.mp, fun a o h hn ht => G.kp a o (noT_of h ht) (fun i e => hn ⟨i, inoAt_some e⟩) ht, fun a h => G.th a fun z => noT_none.mp z h⟩
theorem outs_of {F' : Addr → Prop} {H' : Hp} {σ' : L2.St} {ρ' : AE} (S : RepS (Γ.enter N F (noT H) (inoAt modes vs) gb) F' H' σ' ρ') (hs : inoStill modes ρ' = true) : ∀ (i : Nat) a, modes[i]? = some true → vs[i]? = some (.ref a) → ∃ d', (outsOf modes ρ')[i]? = some d' ∧ ¬ F' a ∧ Top Γ F' H' d' a := by
  intro i a h1 h2
  have hi : i < modes.length := (List.getElem?_eq_some_iff.mp h1).1
  have q := List.all_eq_true.mp hs i (List.mem_range.mpr hi)
  rw [h1] at q
  simp only at q
  unfold isIno at q
  split at q
  · rename_i d hd
    obtain ⟨b, e, nf, hb, t⟩ := S.ino i d hd
    have hb : inoAt modes vs i = some b := hb
    rw [inoAt_of h1 h2] at hb
    cases hb
    refine ⟨d, ?_, nf, t⟩
    unfold outsOf
    rw [List.getElem?_map, List.getElem?_range hi]
    show some (inoD ρ'[i]?) = _
    rw [hd]; rfl
  · cases q
end
/-- what is stored to within a def -/
def stD (scope : Scope) : Str → Bool := fun x => decide (scope.names.lookup x = some .local) || decide (scope.names.lookup x = some .cell)
/-- THE RULE: a def by its body -/
theorem FnG.of {Γ : Ctx} {x qual : Str} {params : Arguments} {body : List Stmt} {scope : Scope} {fa : Addr} {fd : FuncData} {N ps : List Str} {k : Nat} {gb : Bool} {modes : List Bool} {f : StF} {as : List Nat} {dvs : List V} {kws : List (Str × V)} (Fd : FunD Γ.K x qual params body scope dvs kws fa fd) (S : FnScope N ps scope)
    (hm : modes.length = ps.length)
    (hb : ∀ (F0 : Addr → Prop) (H0 : Hp) (ino : Nat → Option Addr) (X : Cx) (W : WX), GdS (Γ.enter N F0 H0 ino gb) X scope (stD scope) k W → X.env.qual = qual ++ ".<locals>." → X.env.code = fd.code → PSs X body (tS (Γ.enter N F0 H0 ino gb) W as f)) : FnG Γ gb (k + 1) fa fd ps modes (runF f N.length modes) := by
  obtain ⟨oc, od, dV, kV, doc, pm, an, cdv, ct, osl, rfl, lk, hcd, _, _⟩ := Fd.ex
  refine ⟨hm, fun A outer s H args us vs Q E hr hg e0 hbi hv ⟨F, ds, r, tr, tb, ao, hsem, aft⟩ => ?_⟩
  have hvl : vs.length = ps.length := by rw [← ao.lm]; exact hm
  have hN : vs.length ≤ N.length := by
    have := S.pre
    have h2 : (N.take ps.length).length = ps.length := by rw [this]
    rw [List.length_take] at h2
    omega
  refine LamX.run_ofS (N := N) (ps := ps) (us := us) (vs := vs) lk hcd S hr e0 hbi hv hvl fun hr' => ?_
  have gd : GdS (Γ.enter N F (noT H) (inoAt modes vs) gb) (cxOf (L2N.CX Γ.prog Γ.w) Γ.prog Γ.w Γ.K Γ.mg Γ.base N qual scope fa cdv A outer s H E) scope (stD scope) k (fun c d _ H' => E c d H') := {
    prog := rfl
    w := rfl
    K := rfl
    mg := rfl
    base := rfl
    N := rfl
    nd := S.nd
    scp := rfl
    calm := fun _ => rfl
    room := ⟨hr'.dp, hr'.un⟩
    hd := fun _ => hr'.hd
    gd := fun h => by
      have q := hg h
      show (A.deeper _).guards = some []
      exact q
    st := fun y hy => by
      unfold stD at hy
      simp only [Bool.or_eq_true, decide_eq_true_eq] at hy
      exact ⟨hy, .inl rfl⟩
    tk := L2N.takes_of rfl rfl rfl rfl
    hp := passes_of rfl }
  refine ⟨_, hb F (noT H) (inoAt modes vs) _ _ gd rfl rfl, F, _, start_inv ao tr tb, start_rep ao hN, ?_⟩
  unfold runF at hsem
  rw [if_pos (by rw [ao.ld, ao.lm])] at hsem
  cases hf : f (startA N.length modes ds) with
  | nx ρ' =>
    rw [hf] at hsem
    simp only [endF] at hsem
    split at hsem
    · rename_i hst
      cases hsem
      exact fun F' H' σ' k' G' S' _ => aft F' H' .non (past_of k' G') (by unfold GaveOk; simp [RepV]) (outs_of S' hst)
    · cases hsem
  | ret d fl ρ' =>
    rw [hf] at hsem
    simp only [endF] at hsem
    split at hsem
    · rename_i hst
      cases hsem
      intro F' H' σ' v k' G' S' rr
      refine aft F' H' v (past_of k' G') ?_ (outs_of S' hst)
      unfold ResOk at rr
      unfold GaveOk
      split at rr
      · rename_i hq
        rw [if_pos hq]
        obtain ⟨a, e, nf, h0, _, t⟩ := rr
        exact ⟨a, e, nf, noT_none.mp h0, t⟩
      · rename_i hq
        rw [if_neg hq]
        exact rr
    · cases hsem
  | exc c =>
    rw [hf] at hsem
    simp only [endF] at hsem
    cases hsem
    exact fun F' H' σ' k' G' => aft F' H' (past_of k' G')
  | brk ρ' => rw [hf] at hsem; simp only [endF] at hsem; cases hsem
  | ct ρ' => rw [hf] at hsem; simp only [endF] at hsem; cases hsem
  | stuck => rw [hf] at hsem; simp only [endF] at hsem; cases hsem

/-! ### calls -/
inductive EvA where
  | val (f : EvE)
  | ref (i : Nat)
def EvA.mode : EvA → Bool
  | .val _ => false
  | .ref _ => true
def slotD (s : Option Slot) : Option D := match s with
  | some (.own d) => some d
  | some (.ino d) => some d
  | _ => none
def evArgs : List EvA → AE → Res (List (D × Option Nat))
  | [], ρ => .ok [] ρ
  | .val f :: r, ρ => (f ρ).bind fun p ρ1 => (evArgs r ρ1).bind fun ps ρ2 => .ok ((p.1, none) :: ps) ρ2
  | .ref i :: r, ρ => match slotD ρ[i]? with
    | some d => (evArgs r ρ).bind fun ps ρ2 => .ok ((d, some i) :: ps) ρ2
    | none => .stuck
/-- the data of the arguments, now -/
def nowD (ps : List (D × Option Nat)) (ρ : AE) : List D := ps.map fun p => match p.2 with
  | none => p.1
  | some i => (slotD ρ[i]?).getD .none
def posOf (ps : List (D × Option Nat)) (i : Nat) : Option Nat := ps.findIdx? fun p => p.2 == some i
/-- the changed arguments are one's own, each once -/
def refsOk (ps : List (D × Option Nat)) (ρ : AE) : Bool := (List.range ps.length).all fun j => match ps[j]? with
  | some (_, some i) => (posOf ps i == some j) && (slotD ρ[i]?).isSome
  | _ => true
def Slot.re : Slot → D → Slot
  | .own _, d => .own d
  | .ino _, d => .ino d
  | s, _ => s
def putOuts (ps : List (D × Option Nat)) (outs : List D) (ρ : AE) : AE := ρ.mapIdx fun i s => match posOf ps i with
  | some j => s.re (outs.getD j .none)
  | none => s
def eCall (sem : Fun) (args : List EvA) : EvE := fun ρ => (evArgs args ρ).bind fun ps ρ' => if refsOk ps ρ' then (match sem (nowD ps ρ') with
  | some (.ret d fl outs) => .ok (d, fl) (putOuts ps outs ρ')
  | some (.exc c) => .exc c
  | none => .stuck) else .stuck
section
variable {Γ : Ctx} {X : Cx} {sc : Scope} {st : Str → Bool} {k : Nat} {W : WX} {F F' : Addr → Prop} {H H' : Hp} {σ : L2.St} {ρ : AE}
def ArgsR (Γ : Ctx) (F : Addr → Prop) (H : Hp) (σ : L2.St) : List (D × Option Nat) → List V → Prop
  | [], vs => vs = []
  | p :: ps, vs => ∃ v us, vs = v :: us ∧ RepB Γ F H σ p v ∧ ArgsR Γ F H σ ps us
def tAs (Γ : Ctx) (W : WX) (as : List EvA) : TA := fun σ H Q => ∃ F ρ, GInv Γ F H ∧ RepS Γ F H σ ρ ∧ Out Γ W (evArgs as ρ) F H σ fun ps ρ' F' H' => ∀ vs, ArgsR Γ F' H' σ ps vs → Q vs H'
theorem das_nil : PA X [] (tAs Γ W []) := pa_imp pa_nil fun σ H Q ⟨F, ρ, G, S, O⟩ => O F H Fk.refl G S [] rfl
theorem das_val {e : Expr} {es : List Expr} {f : EvE} {r : List EvA} (he : PE X e (tD Γ W f)) (hr : PA X es (tAs Γ W r)) (hst : starEach (e :: es) X.env = (false, eval e X.env) :: starEach es X.env) : PA X (e :: es) (tAs Γ W (.val f :: r)) := pa_imp (pa_cons he hr hst) fun σ H Q ⟨F, ρ, G, S, O⟩ => by
  refine ⟨F, ρ, G, S, (Out.bind O).imp fun p ρ1 F1 H1 k1 G1 S1 O1 v rv => ?_⟩
  obtain ⟨F2, k2, G2, S2, r2⟩ := rv.froze G1 S1
  refine ⟨F2, ρ1, G2, S2, (Out.bind (O1.fk k2)).imp fun ps ρ3 F3 H3 k3 G3 S3 O3 us ru => O3 F3 H3 Fk.refl G3 S3 _ ⟨v, us, rfl, r2.mono k3, ru⟩⟩
theorem das_ref {es : List Expr} {i : Nat} {x : Str} {pos : Pos} {r : List EvA} (g : Gd Γ X sc st k) (hN : Γ.N[i]? = some x) (hv : Vis sc x) (hd : (x == ("__debug__" : Str)) = false) (hcd : (x == ("__classdict__" : Str)) = false) (hr : PA X es (tAs Γ W r)) (hst : starEach (.Name x pos :: es) X.env = (false, eval (.Name x pos) X.env) :: starEach es X.env) :
    PA X (.Name x pos :: es) (tAs Γ W (.ref i :: r)) := pa_imp (pa_cons (pe_var (i := i) (by rw [g.N]; exact hN) (by rw [g.scp]; exact hv) hd hcd) hr hst) fun σ H Q ⟨F, ρ, G, S, O⟩ => by
  simp only [evArgs] at O
  split at O
  · rename_i d hs
    obtain ⟨a, e⟩ : ∃ a, σ[i]? = some (some (.ref a)) := by
      unfold slotD at hs
      split at hs
      · rename_i d' h'
        obtain ⟨a, e, _⟩ := S.own i _ h'
        exact ⟨a, e⟩
      · rename_i d' h'
        obtain ⟨a, e, _⟩ := S.ino i _ h'
        exact ⟨a, e⟩
      · cases hs
    refine ⟨_, e, F, ρ, G, S, (Out.bind O).imp fun ps ρ3 F3 H3 k3 G3 S3 O3 us ru => O3 F3 H3 Fk.refl G3 S3 _ ⟨.ref a, us, rfl, e, ru⟩⟩
  · exact O.elim
theorem ArgsR.length : ∀ {ps : List (D × Option Nat)} {vs : List V}, ArgsR Γ F H σ ps vs → ps.length = vs.length
  | [], vs, h => by simp only [ArgsR] at h; subst h; rfl
  | p :: ps, vs, h => by
    obtain ⟨v, us, e, _, r⟩ := h
    subst e
    rw [List.length_cons, List.length_cons, ArgsR.length r]
theorem ArgsR.at : ∀ {ps : List (D × Option Nat)} {vs : List V} {i : Nat} {p : D × Option Nat} {v : V}, ArgsR Γ F H σ ps vs → ps[i]? = some p → vs[i]? = some v → RepB Γ F H σ p v
  | [], vs, i, p, v, h, e, _ => by simp at e
  | p' :: ps, vs, i, p, v, h, e, e2 => by
    obtain ⟨u, us, ev, r1, r⟩ := h
    subst ev
    cases i with
    | zero => simp at e e2; subst e; subst e2; exact r1
    | succ i => exact ArgsR.at (i := i) r (by simpa using e) (by simpa using e2)
def tCallG (Γ : Ctx) (modes : List Bool) (sem : Fun) (E : L2.St → XK) (t : TA) : TE := fun σ H Q => t σ H fun vs H1 => SpG Γ modes sem vs H1 Q (E σ)
theorem pe_callG {gb : Bool} {fa : Addr} {fd : FuncData} {ps : List Str} {modes : List Bool} {sem : Fun} {x : Str} {p pos : Pos} {e : Expr} {es : List Expr} {t : TA} (g : GdT Γ X sc st k W) (hh : Γ.hot = false) (Fn : FnG Γ gb k fa fd ps modes sem) (hgb : gb = true → Γ.gb = true) (hg : sc.names.lookup x = some .globalImplicit) (hm : Γ.mg x = some (.ref fa))
    (hk : PySem.W.keepIn Γ.K (.ref fa) = true) (hb : Binds Γ.K fd ps []) (ha : PA X (e :: es) t) (hdb : (x == ("__debug__" : Str)) = false) (he : starEach (e :: es) X.env = (false, eval e X.env) :: starEach es X.env) (hpl : (backTo pos (starEach es X.env)).any (·.1) = false) : PE X (.Call (.Name x p) (e :: es) [] pos) (tCallG Γ modes sem (WE W) t) := by
  refine ⟨fun pins s σ H Q I h => ?_⟩
  have hgl : Gl X x := by show X.env.scope.names.lookup x = _; rw [g.scp]; exact hg
  refine wpAny_Call_Name_kw (ld_glob I hgl (by rw [g.mg]; exact hm) ?_ hdb)
  refine PySem.W.callWith_K (h₀ := X.base) I.ok.mod.kin (by rw [g.K]; exact hk) (thn (ha.run pos pins s σ H _ I h) fun us s1 ⟨vs, H1, I1, r, q⟩ => ⟨I1.kIn, ?_⟩) he hpl
  have hl : us.length = ps.length := by
    obtain ⟨F, ds, r', _, _, ao, _⟩ := q
    rw [← r.length, ← ao.lm]; exact Fn.len
  have e0 := I1.env0
  rw [g.prog, g.w, g.K, g.mg, g.base] at e0
  have bt := hb s1 us (by rw [← g.K]; exact I1.kIn) (by rw [List.append_nil]; exact hl)
  rw [List.append_nil] at bt
  have rc := Fn.run X.A X.stack s1 H1 ⟨us, []⟩ us vs Q (WE W σ) (g.rm hh) (fun h => g.gd (hgb h)) e0 bt r q
  rw [← g.prog, ← g.w] at rc
  refine wpAny_call (codeAny_mono rc ?_)
  intro r s' hq
  cases r with
  | error e => exact L2N.passAt g.tk σ pins H1 s1 e s' I1 hq
  | ok fl =>
    cases fl with
    | ret u => exact I1.after hq
    | next => exact False.elim hq
    | brk => exact False.elim hq
    | cont => exact False.elim hq
theorem findIdx_some {α : Type} {p : α → Bool} : ∀ {l : List α} {j : Nat}, l.findIdx? p = some j → ∃ x, l[j]? = some x ∧ p x = true := by
  intro l j h
  rw [List.findIdx?_eq_some_iff_getElem] at h
  obtain ⟨h1, h2, _⟩ := h
  exact ⟨_, List.getElem?_eq_getElem h1, h2⟩
theorem slotD_own {i : Nat} {d : D} (h : slotD ρ[i]? = some d) : ρ[i]? = some (.own d) ∨ ρ[i]? = some (.ino d) := by
  unfold slotD at h
  split at h
  · rename_i d' h'
    cases h; exact .inl h'
  · rename_i d' h'
    cases h; exact .inr h'
  · cases h
/-- behind a call the slots hold what it left -/
theorem call_past (G : GInv Γ F H) (S : RepS Γ F H σ ρ) {modes : List Bool} {ps : List (D × Option Nat)} {vs : List V} (ar : ArgsR Γ F H σ ps vs) (hm : modes = ps.map fun p => p.2.isSome) (hr : refsOk ps ρ = true) (P : Past Γ F H modes vs F' H') : GInv Γ F' H' ∧
    ∀ outs, (∀ (i : Nat) a, modes[i]? = some true → vs[i]? = some (.ref a) → ∃ d', outs[i]? = some d' ∧ ¬ F' a ∧ Top Γ F' H' d' a) → RepS Γ F' H' σ (putOuts ps outs ρ) := by
  -- a changed argument lies in a slot
  have inoSlot : ∀ j a, modes[j]? = some true → vs[j]? = some (.ref a) → ∃ i, posOf ps i = some j ∧ OwnAt σ ρ i a := fun j a h1 h2 => by
    rw [hm, List.getElem?_map] at h1
    cases hp : ps[j]? with
    | none => rw [hp] at h1; cases h1
    | some p =>
      rw [hp] at h1
      obtain ⟨d, b⟩ := p
      cases b with
      | none => simp at h1
      | some i =>
        have q := List.all_eq_true.mp hr j (List.mem_range.mpr (List.getElem?_eq_some_iff.mp hp).1)
        rw [hp] at q
        simp only [Bool.and_eq_true, beq_iff_eq] at q
        obtain ⟨q1, q2⟩ := q
        obtain ⟨d', hd'⟩ := Option.isSome_iff_exists.mp q2
        exact ⟨i, q1, ar.at hp h2, d', slotD_own hd'⟩
  have noIno : ∀ a o, Γ.H0 a = some o → (∀ i, Γ.ino i ≠ some a) → ¬ inoA modes vs a := fun a o h0 hi ⟨j, h1, h2⟩ => by
    obtain ⟨i, _, e1, d, ho | ho⟩ := inoSlot j a h1 h2
    · obtain ⟨b, e, _, z, _⟩ := S.own i d ho
      rw [e1] at e; cases e
      rw [h0] at z; cases z
    · obtain ⟨b, e, _, z, _⟩ := S.ino i d ho
      rw [e1] at e; cases e
      exact hi i z
  refine ⟨⟨P.tr, fun a f => ?_, fun a f => P.fk.fm a (G.f0 a f), fun a o h1 h2 h3 => P.kp a o (G.kp a o h1 h2 h3) (noIno a o h1 h2) h3, fun a h => P.th a (G.th a h), G.io, fun i a h f => (P.fn a f).elim (G.ni i a h) fun z => z (G.th a (G.io i a h)), P.tb⟩, fun outs ho => ?_⟩
  · rcases P.fn a f with q | q
    · exact G.fn a q
    · refine .inr ?_
      cases z : Γ.H0 a with
      | none => rfl
      | some o => exact absurd (G.th a (by rw [z]; simp)) q
  · have at_ : ∀ i, (putOuts ps outs ρ)[i]? = (ρ[i]?).map fun s => match posOf ps i with
        | some j => s.re (outs.getD j .none)
        | none => s := fun i => by
      unfold putOuts
      rw [List.getElem?_mapIdx]
    have back : ∀ i s, (putOuts ps outs ρ)[i]? = some s → ∃ s0, ρ[i]? = some s0 ∧ ((∃ j, posOf ps i = some j ∧ s = s0.re (outs.getD j .none)) ∨ (posOf ps i = none ∧ s = s0)) := fun i s h => by
      rw [at_] at h
      cases q : ρ[i]? with
      | none => rw [q] at h; cases h
      | some s0 =>
        rw [q] at h
        refine ⟨s0, rfl, ?_⟩
        cases z : posOf ps i with
        | none => rw [z] at h; cases h; exact .inr ⟨rfl, rfl⟩
        | some j => rw [z] at h; cases h; exact .inl ⟨j, rfl, rfl⟩
    -- a slot that was not passed
    have keep : ∀ i a, OwnAt σ ρ i a → posOf ps i = none → H' a = H a ∧ ¬ F' a := fun i a o hp => by
      obtain ⟨nf, hs⟩ := S.at_ o
      have ni : ¬ inoA modes vs a := fun ⟨j, h1, h2⟩ => by
        obtain ⟨i', q1, q2⟩ := inoSlot j a h1 h2
        have := S.dis i i' a o q2
        subst this
        rw [hp] at q1; cases q1
      refine ⟨?_, fun f => ?_⟩
      · cases z : H a with
        | none => exact absurd z hs.ne
        | some u =>
          refine P.kp a u z ni fun ps' e => ?_
          obtain ⟨e1, d, h | h⟩ := o
          · obtain ⟨b, e', _, _, t⟩ := S.own i d h
            rw [e1] at e'; cases e'
            cases d with
            | list ds => obtain ⟨xs, q, _⟩ := t; rw [z, e] at q; cases q
            | dict kvs => obtain ⟨es, q, _⟩ := t; rw [z, e] at q; cases q
            | _ => exact t.elim
          · obtain ⟨b, e', _, _, t⟩ := S.ino i d h
            rw [e1] at e'; cases e'
            cases d with
            | list ds => obtain ⟨xs, q, _⟩ := t; rw [z, e] at q; cases q
            | dict kvs => obtain ⟨es, q, _⟩ := t; rw [z, e] at q; cases q
            | _ => exact t.elim
      · rcases P.fn a f with q | q
        · exact nf q
        · exact q hs
    -- one that was
    have passed : ∀ i a j, OwnAt σ ρ i a → posOf ps i = some j → ∃ d', outs.getD j .none = d' ∧ ¬ F' a ∧ Top Γ F' H' d' a := fun i a j o hp => by
      obtain ⟨p, h1, h2⟩ := findIdx_some hp
      have h2 : p.2 = some i := by simpa using h2
      have hlt : j < vs.length := by rw [← ar.length]; exact (List.getElem?_eq_some_iff.mp h1).1
      have hv : vs[j]? = some vs[j] := List.getElem?_eq_getElem hlt
      have rb := ar.at h1 hv
      have rb : σ[i]? = some (some vs[j]) := by
        obtain ⟨d, b⟩ := p
        cases h2
        exact rb
      rw [o.1] at rb
      have ev : vs[j]? = some (.ref a) := by rw [hv, ← (Option.some.inj (Option.some.inj rb))]
      obtain ⟨d', q1, q2, q3⟩ := ho j a (by rw [hm, List.getElem?_map, h1, Option.map_some, h2]; rfl) ev
      exact ⟨d', by rw [List.getD_eq_getElem?_getD, q1]; rfl, q2, q3⟩
    have own_ : ∀ i a, OwnAt σ (putOuts ps outs ρ) i a → OwnAt σ ρ i a := fun i a ⟨e1, d, o⟩ => by
      rcases o with o | o
      · obtain ⟨s0, q1, ⟨j, _, q2⟩ | ⟨_, q2⟩⟩ := back i _ o
        · cases s0 <;> first | exact ⟨e1, _, .inl q1⟩ | exact ⟨e1, _, .inr q1⟩ | (simp only [Slot.re] at q2; cases q2)
        · subst q2; exact ⟨e1, d, .inl q1⟩
      · obtain ⟨s0, q1, ⟨j, _, q2⟩ | ⟨_, q2⟩⟩ := back i _ o
        · cases s0 <;> first | exact ⟨e1, _, .inr q1⟩ | exact ⟨e1, _, .inl q1⟩ | (simp only [Slot.re] at q2; cases q2)
        · subst q2; exact ⟨e1, d, .inr q1⟩
    refine ⟨by unfold putOuts; rw [List.length_mapIdx]; exact S.len, fun i d h => ?_, fun i d h => ?_, fun i d h => ?_, fun i j a o1 o2 => S.dis i j a (own_ i a o1) (own_ j a o2), fun i h => ?_⟩
    · obtain ⟨s0, q1, ⟨j, _, q2⟩ | ⟨_, q2⟩⟩ := back i _ h
      · cases s0 <;> simp only [Slot.re] at q2 <;> cases q2
        obtain ⟨v, e, r⟩ := S.val i _ q1
        exact ⟨v, e, r.mono P.fk⟩
      · subst q2
        obtain ⟨v, e, r⟩ := S.val i _ q1
        exact ⟨v, e, r.mono P.fk⟩
    · obtain ⟨s0, q1, ⟨j, z, q2⟩ | ⟨z, q2⟩⟩ := back i _ h
      · cases s0 <;> simp only [Slot.re] at q2 <;> cases q2
        obtain ⟨a, e, nf, h0, t⟩ := S.own i _ q1
        obtain ⟨d', e', nf', t'⟩ := passed i a j ⟨e, _, .inl q1⟩ z
        rw [e']
        exact ⟨a, e, nf', h0, t'⟩
      · subst q2
        obtain ⟨a, e, nf, h0, t⟩ := S.own i _ q1
        obtain ⟨k1, k2⟩ := keep i a ⟨e, _, .inl q1⟩ z
        exact ⟨a, e, k2, h0, t.mono P.fk k1⟩
    · obtain ⟨s0, q1, ⟨j, z, q2⟩ | ⟨z, q2⟩⟩ := back i _ h
      · cases s0 <;> simp only [Slot.re] at q2 <;> cases q2
        obtain ⟨a, e, nf, h0, t⟩ := S.ino i _ q1
        obtain ⟨d', e', nf', t'⟩ := passed i a j ⟨e, _, .inr q1⟩ z
        rw [e']
        exact ⟨a, e, nf', h0, t'⟩
      · subst q2
        obtain ⟨a, e, nf, h0, t⟩ := S.ino i _ q1
        obtain ⟨k1, k2⟩ := keep i a ⟨e, _, .inr q1⟩ z
        exact ⟨a, e, k2, h0, t.mono P.fk k1⟩
    · obtain ⟨s0, q1, ⟨j, z, q2⟩ | ⟨z, q2⟩⟩ := back i _ h
      · cases s0 <;> simp only [Slot.re] at q2 <;> first | cases q2; done | exact S.exn i q1
      · subst q2
        exact S.exn i q1
theorem evArgs_modes : ∀ {as : List EvA} {ρ ρ' : AE} {ps : List (D × Option Nat)}, evArgs as ρ = .ok ps ρ' → ps.map (fun p => p.2.isSome) = as.map EvA.mode
  | [], ρ, ρ', ps, h => by simp only [evArgs] at h; cases h; rfl
  | .val f :: r, ρ, ρ', ps, h => by
    simp only [evArgs] at h
    cases q : f ρ with
    | ok p ρ1 =>
      rw [q] at h
      simp only [Res.bind] at h
      cases q2 : evArgs r ρ1 with
      | ok ps' ρ2 =>
        rw [q2] at h
        simp only [Res.bind] at h
        cases h
        have := evArgs_modes q2
        simp only [List.map_cons, EvA.mode, this]
        rfl
      | exc c => rw [q2] at h; cases h
      | stuck => rw [q2] at h; cases h
    | exc c => rw [q] at h; cases h
    | stuck => rw [q] at h; cases h
  | .ref i :: r, ρ, ρ', ps, h => by
    simp only [evArgs] at h
    split at h
    · cases q2 : evArgs r ρ with
      | ok ps' ρ2 =>
        rw [q2] at h
        simp only [Res.bind] at h
        cases h
        have := evArgs_modes q2
        simp only [List.map_cons, EvA.mode, this]
        rfl
      | exc c => rw [q2] at h; cases h
      | stuck => rw [q2] at h; cases h
    · cases h
theorem Out.eq {α : Type} {r : Res α} {kk : α → AE → (Addr → Prop) → Hp → Prop} (h : Out Γ W r F H σ kk) : Out Γ W r F H σ fun a ρ' F' H' => r = .ok a ρ' ∧ kk a ρ' F' H' := by
  cases r with
  | ok a ρ' => exact fun F' H' q1 q2 q3 => ⟨rfl, h F' H' q1 q2 q3⟩
  | exc c => exact h
  | stuck => exact h
theorem de_call {gb : Bool} {fa : Addr} {fd : FuncData} {pn : List Str} {modes : List Bool} {sem : Fun} {x : Str} {p pos : Pos} {e : Expr} {es : List Expr} {as : List EvA} (g : GdT Γ X sc st k W) (hh : Γ.hot = false) (Fn : FnG Γ gb k fa fd pn modes sem) (hgb : gb = true → Γ.gb = true) (hg : sc.names.lookup x = some .globalImplicit) (hm : Γ.mg x = some (.ref fa))
    (hk : PySem.W.keepIn Γ.K (.ref fa) = true) (hb : Binds Γ.K fd pn []) (hmo : as.map EvA.mode = modes) (ha : PA X (e :: es) (tAs Γ W as)) (hdb : (x == ("__debug__" : Str)) = false) (he : starEach (e :: es) X.env = (false, eval e X.env) :: starEach es X.env) (hpl : (backTo pos (starEach es X.env)).any (·.1) = false) :
    PE X (.Call (.Name x p) (e :: es) [] pos) (tD Γ W (eCall sem as)) := pe_imp (pe_callG g hh Fn hgb hg hm hk hb ha hdb he hpl) fun σ H Q ⟨F, ρ, G, S, O⟩ => by
  refine ⟨F, ρ, G, S, (Out.eq (Out.bind O)).imp fun ps ρ1 F1 H1 k1 G1 S1 ⟨heq, O1⟩ vs ar => ?_⟩
  have hmd : modes = ps.map fun p => p.2.isSome := by rw [← hmo, evArgs_modes heq]
  by_cases hr : refsOk ps ρ1 = true
  · rw [if_pos hr] at O1
    have hlen := ar.length
    cases hsem : sem (nowD ps ρ1) with
    | none => rw [hsem] at O1; exact O1.elim
    | some r =>
      rw [hsem] at O1
      refine ⟨F1, nowD ps ρ1, r, G1.tr, G1.tb, ⟨by rw [hmd, List.length_map, hlen], by unfold nowD; rw [List.length_map, hlen], fun i d v h1 h2 h3 => ?_, fun i d v h1 h2 h3 => ?_, fun i j a h1 h2 h3 h4 => ?_⟩, hsem, ?_⟩
      · rw [hmd, List.getElem?_map] at h1
        unfold nowD at h2
        rw [List.getElem?_map] at h2
        cases hp : ps[i]? with
        | none => rw [hp] at h1; cases h1
        | some p =>
          rw [hp] at h1 h2
          have rb := ar.at hp h3
          obtain ⟨d0, b⟩ := p
          cases b with
          | none => cases h2; exact rb
          | some j => simp at h1
      · rw [hmd, List.getElem?_map] at h1
        unfold nowD at h2
        rw [List.getElem?_map] at h2
        cases hp : ps[i]? with
        | none => rw [hp] at h1; cases h1
        | some p =>
          rw [hp] at h1 h2
          have rb := ar.at hp h3
          obtain ⟨d0, b⟩ := p
          cases b with
          | none => simp at h1
          | some j =>
            have rb : σ[j]? = some (some v) := rb
            have q := List.all_eq_true.mp hr i (List.mem_range.mpr (List.getElem?_eq_some_iff.mp hp).1)
            rw [hp] at q
            simp only [Bool.and_eq_true, beq_iff_eq] at q
            obtain ⟨d', hd'⟩ := Option.isSome_iff_exists.mp q.2
            simp only [Option.map_some, hd', Option.getD_some, Option.some.injEq] at h2
            subst h2
            rcases slotD_own hd' with o | o
            · obtain ⟨a, e, nf, _, t⟩ := S1.own j _ o
              rw [rb] at e; cases e
              exact ⟨a, rfl, nf, t⟩
            · obtain ⟨a, e, nf, _, t⟩ := S1.ino j _ o
              rw [rb] at e; cases e
              exact ⟨a, rfl, nf, t⟩
      · have key : ∀ i, modes[i]? = some true → vs[i]? = some (.ref a) → ∃ l, posOf ps l = some i ∧ OwnAt σ ρ1 l a := fun i h1 h3 => by
          rw [hmd, List.getElem?_map] at h1
          cases hp : ps[i]? with
          | none => rw [hp] at h1; cases h1
          | some p =>
            rw [hp] at h1
            have rb := ar.at hp h3
            obtain ⟨d0, b⟩ := p
            cases b with
            | none => simp at h1
            | some l =>
              have q := List.all_eq_true.mp hr i (List.mem_range.mpr (List.getElem?_eq_some_iff.mp hp).1)
              rw [hp] at q
              simp only [Bool.and_eq_true, beq_iff_eq] at q
              obtain ⟨d', hd'⟩ := Option.isSome_iff_exists.mp q.2
              exact ⟨l, q.1, rb, d', slotD_own hd'⟩
        obtain ⟨l1, p1, o1⟩ := key i h1 h3
        obtain ⟨l2, p2, o2⟩ := key j h2 h4
        have := S1.dis l1 l2 a o1 o2
        subst this
        rw [p1] at p2
        exact Option.some.inj p2
      · cases r with
        | exc c =>
          intro F' H' P
          exact O1 F' H' P.fk (call_past G1 S1 ar hmd hr P).1
        | ret d fl outs =>
          intro F' H' v P gv ho
          obtain ⟨G2, S2⟩ := call_past G1 S1 ar hmd hr P
          have S3 := S2 outs ho
          refine O1 F' H' P.fk G2 S3 v ?_
          unfold GaveOk at gv
          unfold ResOk
          split at gv
          · rename_i hq
            rw [if_pos hq]
            obtain ⟨a, e, nf, hn, t⟩ := gv
            have h0 : Γ.H0 a = none := by
              cases z : Γ.H0 a with
              | none => rfl
              | some o => exact absurd (G1.th a (by rw [z]; simp)) hn
            refine ⟨a, e, nf, h0, fun i o => ?_, t⟩
            obtain ⟨e1, d', o'⟩ := o
            have : OwnAt σ ρ1 i a := by
              have at_ : (putOuts ps outs ρ1)[i]? = (ρ1[i]?).map fun s => match posOf ps i with
                  | some j => s.re (outs.getD j .none)
                  | none => s := by
                unfold putOuts
                rw [List.getElem?_mapIdx]
              rw [at_] at o'
              cases q : ρ1[i]? with
              | none => rw [q] at o'; simp at o'
              | some s0 =>
                rw [q] at o'
                refine ⟨e1, ?_⟩
                cases z : posOf ps i with
                | none => rw [z] at o'; exact ⟨d', by rw [q]; simpa using o'⟩
                | some j =>
                  rw [z] at o'
                  cases s0 <;> simp [Slot.re] at o' <;> simp [q]
            exact hn (S1.at_ this).2
          · rename_i hq
            rw [if_neg hq]
            exact gv
  · rw [if_neg hr] at O1
    exact O1.elim
end
end Ow

namespace Ow
open PySem PyProof.Rows PySem.Spec L2 LamX

section
variable {prog : Program} {w : World} {A : Around} {E : Value → Shared → Prop} {s : Shared}
/-- a list's walk ends while an exception is handled -/
theorem list_end_hot {wi wl x1 : Addr} {at_ : Nat} {els : Array Value} {Q : Option Value → Shared → Prop} (hot : HotX.HotAt A x1 s.heap) (apart : x1 ≠ wi) (gi : s.heap.IsListIter wi wl at_) (gl : s.heap.IsList wl els) (gx : els[at_]? = none)
    (back : ∀ h', Heap.ExtBut wi s.heap h' → Q none { s with heap := h' }) : wpAny (model prog w) A (pyNext (.ref wi)) Q E s := by
  obtain ⟨oi, ei, ci, di⟩ := id gi
  obtain ⟨ow, ew, _, nw, dw⟩ := gl
  obtain ⟨z0, z1, z2, z3, z4, z5⟩ := hot
  unfold pyNext
  refine wpAny_bind (wpAny_attempt (wpAny_callSpecial?_slot (name := Str.ofString "__next__") gi.typeIs slot_listiter_next
    (wpAny_call_entry slot_listiter_next gi.typeIs entry_listiter_next ?_ (args_listiter_next _))))
  refine wpAny_bind (m := field (.ref wi) 0) (wpAny_field ei di (x := .ref wl) rfl ?_)
  have there : ¬ (Value.ref wl == Value.none) = true := Bool.false_ne_true
  rw [if_neg there]
  refine wpAny_bind (m := field (.ref wi) 1) (wpAny_field ei di (x := .int at_ 0) rfl ?_)
  show wpAny _ _ (seqItems? (.ref wl) >>= _) _ _ s
  refine wpAny_bind (wpAny_seqItems ew dw ?_)
  simp only [Int.toNat_natCast, gx]
  refine wpAny_bind (wpAny_rule (wpAny_bind (wpAny_setField ei di (by simp) ?_)))
  show wpAny _ _ (newExc (.type "StopIteration") [] >>= _) _ _ _
  refine wpAny_bind ?_
  simp only [newExc, newTuple]
  refine wpAny_bind (wpAny_newObj_type ?_ (by size_fits))
  refine wpAny_bind (m := firstArgMember _ _) (wpAny_of_eq (a := Value.none) (by first | rfl | (simp only [firstArgMember]; rfl)) ?_)
  refine wpAny_newObj_type ?_ (by size_fits)
  have kept := Heap.get?_update_other s.heap (Obj.mapFields (·.setIfInBounds 0 .none)) (Ne.symm apart)
  refine HotX.raiseNew_hot ⟨z0, z1, z2, Heap.get?_push_of_some _ (Heap.get?_push_of_some _ (kept.trans z3)), z4, z5⟩ (Nat.ne_of_lt (Heap.lt_size (Heap.get?_push_of_some _ (kept.trans z3)))) (Heap.get?_push_size _ rfl) rfl (by first | (simp; done) | (simp; omega) | (simp only [Array.size_append]; simp; omega)) ?_
  refine wpAny_bind (wpAny_isInstance (b := true) ⟨_, Heap.get?_update_self _ (Heap.get?_push_size _ rfl) rfl, rfl⟩ isSubtype_stop (wpAny_pure (back _ fun b o' hb e => ?_)))
  have kept2 := Heap.get?_push_of_some { cls := .type "tuple", data := .seq #[] } ((Heap.get?_update_other s.heap (Obj.mapFields (·.setIfInBounds 0 .none)) (Ne.symm hb)).trans e)
  rw [Heap.get?_update_other _ _ (Nat.ne_of_gt (Heap.lt_size kept2))]
  exact Heap.get?_push_of_some _ kept2
/-- .. a tuple's -/
theorem tuple_end_hot {wi wl x1 : Addr} {at_ : Nat} {els : Array Value} {Q : Option Value → Shared → Prop} (hot : HotX.HotAt A x1 s.heap) (apart : x1 ≠ wi) (gi : IsTupIter s.heap wi wl at_) (gl : IsTup s.heap wl els) (gx : els[at_]? = none)
    (back : ∀ h', Heap.ExtBut wi s.heap h' → Q none { s with heap := h' }) : wpAny (model prog w) A (pyNext (.ref wi)) Q E s := by
  obtain ⟨oi, ei, ci, di⟩ := id gi
  obtain ⟨ow, ew, _, nw, dw⟩ := gl
  obtain ⟨z0, z1, z2, z3, z4, z5⟩ := hot
  unfold pyNext
  refine wpAny_bind (wpAny_attempt (wpAny_callSpecial?_slot (name := Str.ofString "__next__") gi.typeIs slot_tupleiter_next
    (wpAny_call_entry slot_tupleiter_next gi.typeIs entry_tupleiter_next ?_ (args_tupleiter_next _))))
  refine wpAny_bind (m := field (.ref wi) 0) (wpAny_field ei di (x := .ref wl) rfl ?_)
  have there : ¬ (Value.ref wl == Value.none) = true := Bool.false_ne_true
  rw [if_neg there]
  refine wpAny_bind (m := field (.ref wi) 1) (wpAny_field ei di (x := .int at_ 0) rfl ?_)
  show wpAny _ _ (seqItems? (.ref wl) >>= _) _ _ s
  refine wpAny_bind (wpAny_seqItems ew dw ?_)
  simp only [Int.toNat_natCast, gx]
  refine wpAny_bind (wpAny_rule (wpAny_bind (wpAny_setField ei di (by simp) ?_)))
  show wpAny _ _ (newExc (.type "StopIteration") [] >>= _) _ _ _
  refine wpAny_bind ?_
  simp only [newExc, newTuple]
  refine wpAny_bind (wpAny_newObj_type ?_ (by size_fits))
  refine wpAny_bind (m := firstArgMember _ _) (wpAny_of_eq (a := Value.none) (by first | rfl | (simp only [firstArgMember]; rfl)) ?_)
  refine wpAny_newObj_type ?_ (by size_fits)
  have kept := Heap.get?_update_other s.heap (Obj.mapFields (·.setIfInBounds 0 .none)) (Ne.symm apart)
  refine HotX.raiseNew_hot ⟨z0, z1, z2, Heap.get?_push_of_some _ (Heap.get?_push_of_some _ (kept.trans z3)), z4, z5⟩ (Nat.ne_of_lt (Heap.lt_size (Heap.get?_push_of_some _ (kept.trans z3)))) (Heap.get?_push_size _ rfl) rfl (by first | (simp; done) | (simp; omega) | (simp only [Array.size_append]; simp; omega)) ?_
  refine wpAny_bind (wpAny_isInstance (b := true) ⟨_, Heap.get?_update_self _ (Heap.get?_push_size _ rfl) rfl, rfl⟩ isSubtype_stop (wpAny_pure (back _ fun b o' hb e => ?_)))
  have kept2 := Heap.get?_push_of_some { cls := .type "tuple", data := .seq #[] } ((Heap.get?_update_other s.heap (Obj.mapFields (·.setIfInBounds 0 .none)) (Ne.symm hb)).trans e)
  rw [Heap.get?_update_other _ _ (Nat.ne_of_gt (Heap.lt_size kept2))]
  exact Heap.get?_push_of_some _ kept2
/-- a tuple's els, all at once -/
theorem items_hot {t x1 : Addr} {els : Array Value} {Q : List Value → Shared → Prop} (hot : HotX.HotAt A x1 s.heap) (gt : IsTup s.heap t els)
    (back : ∀ h', Heap.ExtBut s.heap.objs.size s.heap h' → Q els.toList { s with heap := h' }) : wpAny (model prog w) A (unpackItems (.ref t) els.size none) Q E s := by
  have low : t ≠ s.heap.objs.size := by obtain ⟨o, ho, _⟩ := gt; exact Nat.ne_of_lt (Heap.lt_size ho)
  obtain ⟨z0, z1, z2, z3, z4, z5⟩ := hot
  have apart : x1 ≠ s.heap.objs.size := Nat.ne_of_lt (Heap.lt_size z3)
  unfold unpackItems notIterableAtAll
  refine wpAny_bind (wpAny_bind (wpAny_specialOf gt.typeIs slot_tuple_iter.lookup (wpAny_pure ?_)))
  simp only [Bool.false_eq_true, if_false]
  refine wpAny_bind (wpAny_holding (iter_tuple gt (wpAny_bind (wpAny_holding (draw_tuple low els.size 0 _ _ ⟨_, Heap.get?_push_size _ rfl, rfl, rfl⟩ (gt.push _) (by omega) fun h₁ hit₁ hs₁ => ?_)))))
  have whole : List.take els.size (List.drop 0 els.toList) = els.toList := by
    simp [List.take_of_length_le]
  rw [whole, if_neg (by simp)]
  have g1 : h₁.get? x1 = some z1 := (hs₁.2 x1 apart).trans (Heap.get?_push_of_some _ z3)
  refine wpAny_bind (wpAny_holding (tuple_end_hot (x1 := x1) ⟨z0, z1, z2, g1, z4, z5⟩ apart hit₁ ((gt.push _).extBut hs₁.extBut low) (by simp) fun h₂ he₂ => ?_))
  simp only [Option.isSome_none, Bool.false_eq_true, if_false]
  exact wpAny_pure (back h₂ fun b o hb e => he₂ b o hb (hs₁.extBut b o hb (Heap.get?_push_of_some _ e)))
end
section
variable {X : Cx} {pos : Pos}
theorem pg_tupH {es : List Expr} {k : Nat} {t : TGs} {n : Nat} (hc : L2H.HotC X) (h : PGs X es t) (hn : (assignEach es X.env).length = n) (hst : (assignEach es X.env).findIdx? (·.1) = none) : PG X (.Tuple es k pos) (gTup X.K n t) := by
  refine ⟨fun pn s τ Hm v u Q I r hw => ?_⟩
  obtain ⟨a, xs, rfl, hq, hl, hw⟩ := hw
  cases r
  obtain ⟨vs1, rel, tt, room⟩ := I.tuple hq
  obtain ⟨x1, hot⟩ := hc.at I
  rw [assign_Tuple]
  refine wpAny_bind (wpAny_standAt ?_)
  unfold unpack
  rw [hst, show (assignEach es X.env).length = vs1.toArray.size by simp [hn, ← hl, rel.length]]
  refine wpAny_bind (wpAny_holding (items_hot hot tt fun h' hx => ?_))
  exact h.run pn _ τ Hm xs _ Q (I.kept (t' := s.toks) fun b o e => hx b o (Nat.ne_of_lt (Heap.lt_size e)) e) (by simpa using rel) hw
/-- the block's view, what is handled known -/
abbrev blkH (X : Cx) (s : Shared) (H : Hp) (scope : Scope) (cenv : Env) (fp : List Addr) : Cx := { X.blk s H scope cenv fp with pn := X.pn }
theorem inv_blkH {s s' : Shared} {H H' : Hp} {σ : L2.St} {scope : Scope} {cenv : Env} {fp : List Addr} (I : Inv (X.blk s H scope cenv fp) [] σ H' s') (h : ∀ p ∈ X.pn, s'.heap.get? p.1 = some p.2 ∧ H' p.1 = none ∧ p.1 ≠ cenv.locals ∧ p.1 ∉ (X.blk s H scope cenv fp).fs ∧ ∀ v, p.2.data ≠ .cell v) : Inv (blkH X s H scope cenv fp) [] σ H' s' :=
  ⟨⟨I.ok.mod, I.ok.kind, I.ok.glob, I.ok.blt, I.ok.above, I.ok.inj, I.ok.has, I.ok.cab, I.ok.hd, I.ok.frames, I.ok.stk, I.ok.exf, I.ok.bs, I.ok.bsz, I.ok.noex, I.ok.exfs, I.ok.funs, I.ok.frf⟩, I.os, I.bare, I.base, I.loc, I.cell, I.free, I.freeC, fun p hp => h p (by rw [List.append_nil] at hp; exact hp), I.hok, I.len⟩
/-- [elt for target in a list if ..] while an exception is handled: the block -/
theorem lcH {pins : List (Addr × Obj)} {s : Shared} {σ : L2.St} {H : Hp} {Q : VK} {elt tg iter : Expr} {ifs : List Expr} {scope : Scope} {own : List (Str × Nat)} {posn : Pos} {tl : TE} {g : TG} {tt : TT} {te : TE} {use : Option (Value → Sem Unit)} {Qf : Value → Shared → Prop}
    (hc : L2H.HotC X) (hN : X.N.Nodup) (I : Inv X pins σ H s) (hl : PE X iter tl) (ok : BlkOk X.N X.env.scope scope own)
    (hg : ∀ (s : Shared) (H : Hp) (C : Addr) (cl : List (Str × Addr)) (fp : List Addr), PG (blkH X s H scope (compEnvC scope cl C X.env) fp) tg g)
    (ht : ∀ (s : Shared) (H : Hp) (C : Addr) (cl : List (Str × Addr)) (fp : List Addr), PTs (blkH X s H scope (compEnvC scope cl C X.env) fp) ifs tt)
    (he : ∀ (s : Shared) (H : Hp) (C : Addr) (cl : List (Str × Addr)) (fp : List Addr), PE (blkH X s H scope (compEnvC scope cl C X.env) fp) elt te) (hs : ∀ x, foldedSetIterable iter X.env x = pure x)
    (h : tLc (iList X.K tl) g tt te (own.map (·.2)) σ H Q)
    (fin : ∀ D C s' m H', Inv X pins σ H' s' → Q (.ref D) H' → s'.heap.Ns C m → FpOk X pins H' C → compPost (model X.prog X.w) X.A X.xe use Qf (.ref D) C (.ok .next) s') :
    wpAny (model X.prog X.w) X.A (comprehension (.ListComp elt [⟨tg, iter, ifs, 0⟩] scope pos) scope X.env posn (newList []) false (eval iter X.env) use) Qf X.xe s := by
  have hfree : ∀ y ∈ scope.names, y.2 = .free → ∃ c, X.env.cells.lookup y.1 = some c := fun y hy e => (ok.free y hy e).elim (fun k => I.ok.has _ (.inl k)) fun k => I.ok.has _ (.inr k)
  refine wpAny_comprehension_free (use := use) rfl hs (closure_ok hfree) ok.kind (fun y hy e => by rw [ok.uniq y hy, e]) (thn (hl.run pins s σ H _ I h) fun v s1 ⟨x, H1, I1, r1, q1⟩ => ?_)
  obtain ⟨a, rfl, ⟨xs0, hq0⟩, q⟩ := q1
  cases r1
  obtain ⟨its0, rv0, p0, hz0⟩ := I1.list hq0
  refine wpAny_pyIter_list p0.isList (wpAny_newObj_type (newEnv_comp ?_) (by show 0 ≤ sizeLine; decide))
  -- the iterator at it, the new list at D
  generalize hit : s1.heap.objs.size = it
  generalize hh1 : s1.heap.push { cls := .type "list_iterator", data := .fields #[.ref a, .int 0 0] } = h1
  have eh1 : h1.objs.size = it + 1 := by rw [← hh1, Heap.size_push, hit]
  generalize hD : h1.objs.size = D
  have iN : H1 it = none := I1.hok.fresh (Nat.le_of_eq hit)
  have DN : H1 D = none := I1.hok.fresh (by rw [← hD, eh1, ← hit]; exact Nat.le_succ _)
  have itD : it ≠ D := by rw [← hD, eh1]; omega
  have st1 : h1.IsListIter it a 0 := by rw [← hh1, ← hit]; exact ⟨_, Heap.get?_push_size _ rfl, rfl, rfl⟩
  have I2 : Inv X pins σ H1 { s1 with heap := h1 } := I1.kept (t' := s1.toks) fun b o e => by rw [← hh1]; exact Heap.get?_push_of_some _ e
  have f1 : FpOk X pins H1 it := I1.fpOk (Nat.le_of_eq hit) iN
  obtain ⟨W, ⟨m0, w0⟩, turn⟩ := q D DN
  generalize hh3 : h1.push { cls := .type "list", data := .seq ([] : List Value).toArray } = h3
  have eh3 : h3.objs.size = D + 1 := by rw [← hh3, Heap.size_push, hD]
  have I3 : Inv X pins σ (upd H1 D (.lst [])) { s1 with heap := h3 } := by
    rw [← hh3]
    refine I2.laid (t' := s1.toks) (fun b o e => Heap.get?_push_of_some _ e) (Nat.le_of_eq hD) ⟨Nat.zero_le _, [], 0, .nil, ?_⟩
    rw [← hD]
    exact Heap.get?_push_size _ rfl
  have st3 : h3.IsListIter it a 0 := let ⟨o, e, r⟩ := st1; ⟨o, by rw [← hh3]; exact Heap.get?_push_of_some _ e, r⟩
  have f3 : FpOk X pins (upd H1 D (.lst [])) it := ⟨by rw [upd_ne itD]; exact iN, f1.2⟩
  have fL : ∀ b ∈ [it], FpOk X pins (upd H1 D (.lst [])) b ∧ b < ({ s1 with heap := h3 } : Shared).heap.objs.size := fun b hb => by
    obtain rfl : b = it := by simpa using hb
    refine ⟨f3, ?_⟩
    show b < h3.objs.size
    rw [eh3, ← hD, eh1]
    omega
  have I4 := block_start I3 ok hN fL
  have pg := hg { s1 with heap := h3 } (upd H1 D (.lst [])) h3.objs.size (cellsFrom (h3.objs.size + 1) scope.names (cloFrom X.env.cells scope.names [])) [it]
  have pt := ht { s1 with heap := h3 } (upd H1 D (.lst [])) h3.objs.size (cellsFrom (h3.objs.size + 1) scope.names (cloFrom X.env.cells scope.names [])) [it]
  have pe := he { s1 with heap := h3 } (upd H1 D (.lst [])) h3.objs.size (cellsFrom (h3.objs.size + 1) scope.names (cloFrom X.env.cells scope.names [])) [it]
  show codeAny _ _ (.compStart (.ListComp elt [⟨tg, iter, ifs, 0⟩] scope pos) 0 (.ref it) (.ref D) (compEnvC scope (cellsFrom (h3.objs.size + 1) scope.names (cloFrom X.env.cells scope.names [])) h3.objs.size X.env)) (compPost (model X.prog X.w) X.A X.xe use Qf (.ref D) h3.objs.size) { s1 with heap := pushCells (h3.push { cls := .type "dict", data := .dict #[] }) scope.names }
  generalize hce : compEnvC scope (cellsFrom (h3.objs.size + 1) scope.names (cloFrom X.env.cells scope.names [])) h3.objs.size X.env = ce at pg pt pe ⊢
  have cL : ce.locals = h3.objs.size := by subst hce; rfl
  have kp4 : ∀ b o, h3.get? b = some o → (pushCells (h3.push { cls := .type "dict", data := .dict #[] }) scope.names).get? b = some o := fun b o e => pushCells_keeps _ _ _ _ (Heap.get?_push_of_some _ e)
  have J4 : Inv (blkH X { s1 with heap := h3 } (upd H1 D (.lst [])) scope ce [it]) [] (L2.wipe σ (own.map (·.2))) (upd H1 D (.lst [])) { s1 with heap := pushCells (h3.push { cls := .type "dict", data := .dict #[] }) scope.names } := by
    refine inv_blkH (by rw [← hce]; exact I4) fun p hp => ?_
    obtain ⟨e1, e2, e3, e4, e5⟩ := I3.pin p (List.mem_append_left _ hp)
    refine ⟨kp4 _ _ e1, e2, ?_, fun z => ?_, e5⟩
    · rw [cL]; exact Nat.ne_of_lt (Heap.lt_size e1)
    · rcases List.mem_cons.mp (I3.stkSub _ z) with z | z
      · exact e3 z
      · exact e4 z
  have st4 : (pushCells (h3.push { cls := .type "dict", data := .dict #[] }) scope.names).IsListIter it a 0 := let ⟨o, e, r⟩ := st3; ⟨o, kp4 _ _ e, r⟩
  have n4 : (upd H1 D (.lst [])) it = none := f3.1
  generalize hs3 : ({ s1 with heap := h3 } : Shared) = s3 at I3 pg pt pe J4 ⊢
  have e3 : s3.heap.objs.size = h3.objs.size := by rw [← hs3]
  generalize hs4 : ({ s1 with heap := pushCells (h3.push { cls := .type "dict", data := .dict #[] }) scope.names } : Shared) = s4 at J4 ⊢
  have st4 : s4.heap.IsListIter it a 0 := by rw [← hs4]; exact st4
  generalize hH3 : upd H1 D (.lst []) = H3 at I3 pg pt pe w0 n4 J4 f3
  have hotC : L2H.HotC (blkH X s3 H3 scope ce [it]) := hc
  have stat : ∀ {σ' : L2.St} {H' : Hp} {s' : Shared}, Inv (blkH X s3 H3 scope ce [it]) [] σ' H' s' → H' it = none → FpOk (blkH X s3 H3 scope ce [it]) [] H' it := fun {σ' H' s'} I' hn =>
    ⟨hn, (I'.ok.exf it (by simp)).1, I'.ok.exfs it (by simp), .inl (by simp), fun x c e => (I'.ok.exf it (by simp)).2 x c e, fun p hp => f3.2.2.2.2.2 p (List.mem_append_left _ (by rw [List.append_nil] at hp; exact hp))⟩
  have loop : codeAny (model X.prog X.w) X.A (.compLoop (.ListComp elt [⟨tg, iter, ifs, 0⟩] scope pos) 0 (.ref it) (.ref D) ce) (compPost (model X.prog X.w) X.A X.xe use Qf (.ref D) h3.objs.size) s4 := by
    refine compLoop_any (fun n s' => ∃ i H', Inv (blkH X s3 H3 scope ce [it]) [] (L2.wipe σ (own.map (·.2))) H' s' ∧ s'.heap.IsListIter it a i ∧ H' it = none ∧ W i n H') ?_ m0 ⟨0, H3, J4, st4, n4, w0⟩
    rintro n sv ⟨i, Hv, Iv, tv, nv, wv⟩
    obtain ⟨g0, g1, g2, g3, g4, g5⟩ := stat Iv nv
    rcases turn i n Hv wv with ⟨⟨xs, hq, hx⟩, qq⟩ | ⟨⟨xs, x, hq, hx⟩, Nx, less, step⟩
    · obtain ⟨its, rel, p, hz⟩ := Iv.list hq
      obtain ⟨q1, ⟨hh, v1, d1, c1⟩, hq1⟩ := hotC
      have P1 := Iv.pin q1 (List.mem_append_left _ hq1)
      have hlen := rel.length
      refine list_end_hot (x1 := q1.1) ⟨hh, q1.2, v1, P1.1, d1, c1⟩ (g5 q1 (List.mem_append_left _ hq1)) tv p.isList (by simp; omega) fun h' eb => ?_
      have I6 := Iv.turned (h' := h') (t' := sv.toks) (fun b o hb e => eb b o hb e) g0 g1 g3 g4 g5
      have I7 : Inv X pins σ Hv { sv with heap := h' } := I3.call' (ch := [it]) I6.os I6.base I6.hok I6.bare fun b hb => by
        obtain rfl : b = it := by simpa using hb
        exact ⟨f3.2.2.2.1, f3.2.1, f3.2.2.2.2.1, f3.2.2.2.2.2⟩
      have nC : Hv h3.objs.size = none := by
        have z : Hv ce.locals = none := I6.free
        rw [cL] at z
        exact z
      obtain ⟨m, hn, _⟩ := I6.loc
      have hn : h'.Ns ce.locals m := hn
      rw [cL] at hn
      exact fin D h3.objs.size { sv with heap := h' } m Hv I7 qq hn (I3.fpOk (by rw [e3]; exact Nat.le_refl _) nC)
    · obtain ⟨its, rel, p, hz⟩ := Iv.list hq
      obtain ⟨u, gu, vu⟩ := rel.get hx
      refine wpAny_pyNext_list_item tv p.isList (x := u) (by simpa using gu) fun h' st' sb => ?_
      have I6 := Iv.turned (h' := h') (t' := sv.toks) (fun b o hb e => (sb.2 b hb).trans e) g0 g1 g3 g4 g5
      obtain ⟨o, e, c, d⟩ := id st'
      refine go_of (s := { sv with heap := h' }) e c d (by decide) ?_
      have I6' := I6.pins_of (pins' := [(it, o)]) fun q hqm => by
        obtain rfl : q = (it, o) := by simpa using hqm
        exact ⟨e, nv, g1, g2, fun v z => by have z : o.data = .cell v := z; rw [d] at z; cases z⟩
      refine thnF (pg.run _ _ _ Hv x u _ I6' vu (step x Hv ⟨rfl, fun ys hy => by rw [Iv.list_inj hy hq]; exact hx⟩)) fun _ sw ⟨σw, Hw, Iw, hw8, qw⟩ => ?_
      refine thnF (pt.run _ sw σw Hw _ Iw qw) fun b sx ⟨Hx, Ix, qx⟩ => ?_
      have again : ∀ {s' : Shared} {H' : Hp}, Inv (blkH X s3 H3 scope ce [it]) [(it, o)] σw H' s' → Nx H' → ∃ m, m < n ∧ ∃ i H', Inv (blkH X s3 H3 scope ce [it]) [] (L2.wipe σ (own.map (·.2))) H' s' ∧ s'.heap.IsListIter it a i ∧ H' it = none ∧ W i m H' := fun {s' H'} I' nx => by
        obtain ⟨m', hm, w'⟩ := less H' nx
        have P := I'.pin (it, o) (List.mem_append_right _ (by simp))
        have hl : (L2.wipe σ (own.map (·.2))).length = σw.length := by rw [← hw8, wipe_length]
        refine ⟨m', hm, i + 1, H', (I'.pins_of (pins' := []) fun q hq => absurd hq (by simp)).weak hl (fun j v e => ?_), ⟨o, P.1, c, d⟩, P.2.1, w'⟩
        rw [← hw8] at e
        exact (wipe_some e).1
      cases b with
      | false =>
        rw [if_neg Bool.false_ne_true] at qx ⊢
        exact again Ix qx
      | true =>
        simp only [if_true] at qx ⊢
        refine thnF (pe.run _ sx σw Hx _ Ix qx) fun z sy ⟨yv, Hy, Iy, ry, acc, dy, zy, nx⟩ => ?_
        exact app_ok (X := blkH X s3 H3 scope ce [it]) Iy dy zy ry fun s11 I11 => again I11 nx
  exact codeAny_compStart_list loop (wpAny_pyIter_listiter st4 loop)
/-- name = [..] on one line, while an exception is handled -/
theorem ps_setLcH {i : Nat} {y : Str} {py : Pos} {elt tg iter : Expr} {ifs : List Expr} {scope : Scope} {own : List (Str × Nat)} {spos : Pos} {tl : TE} {g : TG} {tt : TT} {te : TE} (hc : L2H.HotC X) (hN : X.N.Nodup) (hy : X.N[i]? = some y) (hyl : X.env.scope.names.lookup y = some .local)
    (hsw : swapsWith (.ListComp elt [⟨tg, iter, ifs, 0⟩] scope pos) (some (.Name y py)) spos.line X.env = pure true) (hl : PE X iter tl) (ok : BlkOk X.N X.env.scope scope own)
    (hg : ∀ (s : Shared) (H : Hp) (C : Addr) (cl : List (Str × Addr)) (fp : List Addr), PG (blkH X s H scope (compEnvC scope cl C X.env) fp) tg g)
    (ht : ∀ (s : Shared) (H : Hp) (C : Addr) (cl : List (Str × Addr)) (fp : List Addr), PTs (blkH X s H scope (compEnvC scope cl C X.env) fp) ifs tt)
    (he : ∀ (s : Shared) (H : Hp) (C : Addr) (cl : List (Str × Addr)) (fp : List Addr), PE (blkH X s H scope (compEnvC scope cl C X.env) fp) elt te) (hs : ∀ x, foldedSetIterable iter X.env x = pure x) :
    PS X (.Assign [.Name y py] (.ListComp elt [⟨tg, iter, ifs, 0⟩] scope pos) spos) (tAsg (tLc (iList X.K tl) g tt te (own.map (·.2))) (gName i)) := by
  refine ⟨fun pn s τ H D I h => ?_⟩
  rw [exec_Assign_Name_used _ _ _ _ hsw]
  refine wpAny_bind (wpAny_standAt (wpAny_bind ?_))
  show wpAny _ X.A (do let made ← comprehension (.ListComp elt [⟨tg, iter, ifs, 0⟩] scope pos) scope X.env (firstIterPos [⟨tg, iter, ifs, 0⟩] pos) (newList []) false (eval iter X.env) (some (assign (.Name y py) X.env))) _ _ s
  refine wpAny_bind (thn (lcH (Q := fun x H1 => gName i x τ H1 D.nx) (Qf := fun _ s' => SP X pn D .next s') hc hN I hl ok hg ht he hs h fun nl C s' m H' I' q hn f => ?_) fun _ s' hq => wpAny_pure (wpAny_pure hq))
  show wpAny _ _ (assign (.Name y py) X.env (.ref nl)) _ _ _
  refine wpAny_assign_Name (store_ok2 (v := V.ref nl) I' hN hy (.inl hyl) rfl (fun s2 I2 ⟨b, sb, hb⟩ => ?_) (.inr hyl))
  obtain ⟨p0, p1, p2, p3, p4, p5⟩ := f
  have bC : C ≠ b := by
    rcases hb with z | z
    · rw [z]; exact p1
    · exact fun e => p4 y b z e.symm
  exact ⟨m, hn.sameBut sb bC, fun h3 sb3 => ⟨_, H', I2.turned (t' := s2.toks) (fun b o hb e => (sb3.2 b hb).trans e) p0 p1 p3 p4 p5, q⟩⟩
end
end Ow

namespace Ow
open PySem PyProof.Rows PySem.Spec L2 LamX

/-! ### within an except suite -/
def iLst (f : EvO) : EvI := fun ρ => (f ρ).bind fun p ρ' => match p.1 with
  | .list ds => .ok (ds, [p]) ρ'
  | _ => .stuck
def eIsX (i : Nat) (b : Bool) : EvE := fun ρ => match ρ[i]? with
  | some .exn => .ok (.bool b, false) ρ
  | _ => .stuck
section
variable {Γ : Ctx} {X : Cx} {sc scope : Scope} {st : Str → Bool} {k : Nat} {W : WX} {as : List Nat} {pos : Pos}
theorem ilst_imp {f : EvO} (g : Gd Γ X sc st k) : ∀ σ H (R : It → Hp → Prop), tI Γ W (iLst f) σ H R → iList X.K (tO Γ W f) σ H R := fun σ H R ⟨F, ρ, G, S, O⟩ => by
  refine ⟨F, ρ, G, S, (Out.bind O).imp fun p ρ1 F1 H1 k1 G1 S1 O1 x hx sx => ?_⟩
  obtain ⟨d, b⟩ := p
  have hr := S1.read hx sx
  have bs : RepBs Γ F1 H1 σ [(d, b)] [x] := ⟨x, [], rfl, hx, rfl⟩
  have ss : stills [(d, b)] ρ1 = true := by simp only [stills, Bool.and_true]; exact sx
  cases d with
  | list ds =>
    obtain ⟨a, xs, rfl, l, z, r⟩ := rList hr
    exact ⟨a, rfl, ⟨xs, by rw [g.K]; exact l⟩, O1 F1 H1 Fk.refl G1 S1 _ _ (by show ds.length ≤ _; rw [r.length]; exact z) bs ss (by rw [g.K]; exact walkD_list)⟩
  | _ => exact O1.elim
theorem gd_blkH {s : Shared} {H : Hp} {C : Addr} {cl : List (Str × Addr)} {fp : List Addr} (g : Gd Γ X sc st k) : Gd Γ (blkH X s H scope (compEnvC scope cl C X.env) fp) (relS scope sc) (stOf scope) k :=
  let h := gd_blk (scope := scope) (s := s) (H := H) (C := C) (cl := cl) (fp := fp) g
  ⟨h.prog, h.w, h.K, h.mg, h.base, h.N, h.nd, h.scp, h.calm, h.room, h.hd, h.gd, h.st⟩
theorem dg_tupH {es : List Expr} {kk : Nat} {ts : List Tg} {n : Nat} (g : Gd Γ X sc st k) (hc : L2H.HotC X) (h : PGs X es (tGs Γ ts)) (hl : ts.length = n) (hn : (assignEach es X.env).length = n) (hst : (assignEach es X.env).findIdx? (·.1) = none) : PG X (.Tuple es kk pos) (tG Γ (.tup ts)) := by
  refine pg_imp (pg_tupH (n := n) hc h hn hst) fun v σ H Q h => ?_
  obtain ⟨F, ρ, d, ρ', G, S, r, hb, q⟩ := h
  cases d with
  | tuple ds =>
    simp only [bindT] at hb
    split at hb
    · rename_i hlen
      simp only [RepV] at r
      obtain ⟨a, xs, e, l, z, rr⟩ := r
      exact ⟨a, xs, e, by rw [g.K]; exact l, by rw [← rr.length, ← hlen]; exact hl, F, ρ, ds, ρ', G, S, rr, hb, q⟩
    · cases hb
  | _ => simp [bindT] at hb
theorem ds_asgCH {i : Nat} {x : Str} {p : Pos} {elt tg iter : Expr} {ifs : List Expr} {own : List (Str × Nat)} {cpos : Pos} {f : EvO} {t : Tg} {tt : EvT} {el : EvE} (g : Gd Γ X sc st k) (hc : L2H.HotC X) (hN : Γ.N[i]? = some x) (hx : sc.names.lookup x = some .local) (hk : sc.kind = .function) (hi : as.contains i = true)
    (hl : (p.line == cpos.line) = true) (ha : (scope.names.any fun (n, k) => n == x && (k == .local || k == .cell)) = false)
    (hit : PE X iter (tO Γ W f)) (ok : blkC Γ.N sc scope own = true) (hsl : t.slots.all (fun i => (own.map (·.2)).contains i) = true)
    (hg : ∀ p o X', GdT (Γ.apart p o) X' (relS scope sc) (stOf scope) k W0 → L2H.HotC X' → PG X' tg (tG (Γ.apart p o) t)) (ht : ∀ p o X', GdT (Γ.apart p o) X' (relS scope sc) (stOf scope) k W0 → L2H.HotC X' → PTs X' ifs (tT (Γ.apart p o) W0 tt))
    (he : ∀ p o X', GdT (Γ.apart p o) X' (relS scope sc) (stOf scope) k W0 → L2H.HotC X' → PE X' elt (tD (Γ.apart p o) W0 el)) (hs : ∀ x, foldedSetIterable iter X.env x = pure x) :
    PS X (.Assign [.Name x p] (.ListComp elt [⟨tg, iter, ifs, 0⟩] scope cpos) pos) (tS Γ W as (sAsg i (eComp (own.map (·.2)) (iLst f) t tt el))) := by
  have okb : BlkOk X.N X.env.scope scope own := by rw [g.N, g.scp]; exact blkOk_by ok
  have hcb : ∀ {s : Shared} {H : Hp} {ce : Env} {fp : List Addr}, L2H.HotC (blkH X s H scope ce fp) := fun {s H ce fp} => hc
  refine ps_imp (ps_setLcH (i := i) hc (by rw [g.N]; exact g.nd) (by rw [g.N]; exact hN) (by rw [g.scp]; exact hx) (sw_true (by rw [g.scp]; exact hk) (by rw [g.scp]; exact hx) hl ha) hit okb (g := gComp Γ t) (tt := ttComp Γ tt) (te := teComp Γ el)
    (fun s H C cl fp => pg_ex fun z => hg _ _ _ ⟨gd_apart (gd_blkH g) z.1 z.2, takesN0⟩ hcb) (fun s H C cl fp => pts_ex fun z => ht _ _ _ ⟨gd_apart (gd_blkH g) z.1 z.2, takesN0⟩ hcb) (fun s H C cl fp => pe_ex fun z => he _ _ _ ⟨gd_apart (gd_blkH g) z.1 z.2, takesN0⟩ hcb) hs) (asg_imp (fun σ H Q q => ?_) hi)
  exact ilst_imp g _ _ _ (comp_imp (fun i hi => by
      have := List.all_eq_true.mp hsl i hi
      simpa using this) σ H Q q)
/-- isinstance(e, x), e what is handled, b whether it is so -/
theorem de_isexc {i : Nat} {e x : Str} {a D C : Addr} {b : Bool} {p p1 p2 : Pos} (g : Gd Γ X sc st k) (hci : CallR X (.builtin "isinstance") (rIsE X.K D a)) (hxa : Γ.xa = some a) (hg : sc.names.lookup ("isinstance" : Str) = some .globalImplicit) (hm : Γ.mg ("isinstance" : Str) = none)
    (hN : Γ.N[i]? = some e) (hv : Vis sc e) (hd : (e == ("__debug__" : Str)) = false) (hcd : (e == ("__classdict__" : Str)) = false) (hgx : sc.names.lookup x = some .globalImplicit) (hmx : Γ.mg x = some (.ref C)) (hdx : (x == ("__debug__" : Str)) = false) (hk : PySem.W.kitOne Γ.K (.ref D) (.ref C) = some b)
    (hs1 : starEach (.Name e p1 :: [.Name x p2]) X.env = (false, eval (.Name e p1) X.env) :: starEach [.Name x p2] X.env) (hs2 : starEach (.Name x p2 :: []) X.env = (false, eval (.Name x p2) X.env) :: starEach [] X.env) (hpl : (backTo pos (starEach [.Name x p2] X.env)).any (·.1) = false) :
    PE X (.Call (.Name "isinstance" p) [.Name e p1, .Name x p2] [] pos) (tD Γ W (eIsX i b)) := by
  have G1 : ∀ {x : Str}, sc.names.lookup x = some .globalImplicit → Gl X x := fun {x} h => by show X.env.scope.names.lookup x = _; rw [g.scp]; exact h
  refine pe_imp (pe_callB hci (G1 hg) (by rw [g.mg]; exact hm) (by decide +kernel) (pa_cons (pe_var (i := i) (by rw [g.N]; exact hN) (by rw [g.scp]; exact hv) hd hcd) (pa_cons (pe_glob (v := .ref C) (G1 hgx) (by rw [g.mg]; exact hmx) rfl hdx) pa_nil hs2) hs1) (by decide) (by decide) hs1 hpl) fun σ H Q ⟨F, ρ, G, S, O⟩ => ?_
  simp only [eIsX] at O
  split at O
  · rename_i hs
    obtain ⟨a', ea, es⟩ := S.exn i hs
    rw [hxa] at ea
    cases ea
    exact ⟨.ref a, es, .ref C, .ref C, b, rfl, fun u r => r, by rw [g.K]; exact hk, O F H Fk.refl G S _ (resOk_plain (by simp only [RepV]))⟩
  · exact O.elim
end

/-! ### a lambda called in the def that got it -/
/-- the lambda's view (its error's context is told) -/
abbrev lamN (X : Cx) (A : Around) (outer : List Env) (s : Shared) (H : Hp) (E : XK) (scope : Scope) (f c' : Addr) : Cx :=
  { lamCx X A outer s H E scope f c' with xe := fun e s' => wpAny (model X.prog X.w) (A.deeper (lamEnv X scope s.heap.objs.size f c')) (leaving (lamEnv X scope s.heap.objs.size f c') e) (fun _ s'' => L2N.CX X.prog X.w outer H s E e s'') (fun e' s'' => L2N.CX X.prog X.w outer H s E e' s'') s' }
theorem inv_xe {X : Cx} {pins : List (Addr × Obj)} {σ : L2.St} {H : Hp} {s : Shared} {xe : Value → Shared → Prop} (I : Inv X pins σ H s) : Inv { X with xe := xe } pins σ H s :=
  ⟨⟨I.ok.mod, I.ok.kind, I.ok.glob, I.ok.blt, I.ok.above, I.ok.inj, I.ok.has, I.ok.cab, I.ok.hd, I.ok.frames, I.ok.stk, I.ok.exf, I.ok.bs, I.ok.bsz, I.ok.noex, I.ok.exfs, I.ok.funs, I.ok.frf⟩, I.os, I.bare, I.base, I.loc, I.cell, I.free, I.freeC, I.pin, I.hok, I.len⟩
section
variable {X : Cx} {pins : List (Addr × Obj)} {σ : L2.St} {H HZ : Hp} {s : Shared}
theorem pe_actN {Eg : XK} {Ng : List Str} {qg : Str} {sg : Scope} {g f c' : Addr} {cdg pm ctv : Value} {pars : Arguments} {bdy : Expr} {sco : Scope} {k i : Nat} {a : Str} {pn : List (Addr × Obj)} {xe : Value → Shared → Prop} {W : WX} {E : XK} {tb : TE} {p1 p2 : Pos}
    (I : Inv X pins σ H s) (L : LamS X.env.scope sco) (gf : s.heap.get? f = some (PySem.W.kla_obj "<lambda>" (X.env.qual ++ "<lambda>") pars bdy sco (cloFrom X.env.cells sco.names []) pm c' ctv)) (gfn : H f = none) (gfr : f ∉ frs X.stack)
    (hbind : bindArgs (PySem.W.kla_fn "<lambda>" (X.env.qual ++ "<lambda>") pars bdy sco (cloFrom X.env.cells sco.names []) pm (.ref c') ctv) ⟨[], []⟩ = pure [])
    (tk : L2N.Takes ((cxOf (L2N.CX X.prog X.w) X.prog X.w X.K X.mg X.base Ng qg sg g cdg X.A X.stack s H Eg).tr pn xe) W) (hr : Room (k + 1) (X.A.deeper (envOfC qg sg s.heap.objs.size g cdg)))
    (hbody : ∀ (A : Around) (outer : List Env) (s : Shared) (H : Hp), Room k (A.deeper (lamEnv X sco s.heap.objs.size f c')) → PE (lamN X A outer s H E sco f c') bdy tb)
    (hN : Ng[i]? = some a) (hv : Vis sg a) (hd : (a == ("__debug__" : Str)) = false) (hcd : (a == ("__classdict__" : Str)) = false) :
    PE ((cxOf (L2N.CX X.prog X.w) X.prog X.w X.K X.mg X.base Ng qg sg g cdg X.A X.stack s H Eg).tr pn xe) (.Call (.Name a p1) [] [] p2)
      (fun σZ HZ Q => (∀ cls d H', E cls d H' → W cls d σZ H') ∧ σZ[i]? = some (some (.ref f)) ∧ HZ c' = some (CodeO c' (X.env.qual ++ "<lambda>")) ∧ tb σ HZ Q) := by
  refine ⟨fun pinsZ sZ σZ HZ Q IZ ⟨hW, hs, gc, ht⟩ => ?_⟩
  refine wpAny_Call_Name_kw (thn ((pe_var (pos := p1) (i := i) hN hv hd hcd).run pinsZ sZ σZ HZ (fun v H1 => v = .ref f ∧ H1 = HZ) IZ ⟨.ref f, hs, rfl, rfl⟩) fun u s1 ⟨v, H1, I1, rel1, ev, eH⟩ => ?_)
  subst ev
  rw [eH] at I1
  have eu : u = Value.ref f := rel1
  subst eu
  have lamf := I1.base.keep f _ gf gfn gfr (fun z => nomatch (show f ∈ ([] : List Addr) from z))
  refine PySem.W.callWith_F0 ⟨_, _, _, _, lamf⟩ ?_
  obtain ⟨⟨ob, vls, t, goc, gdc, gvc⟩, _, _⟩ := I1.hok c' _ gc
  have kept : Un (frs X.stack) [] H HZ s.heap s1.heap := I1.base
  have runs : codeAny (model X.prog X.w) (X.A.deeper (envOfC qg sg s.heap.objs.size g cdg)) (.call (.ref f) ⟨[], []⟩) (CR (L2N.CX X.prog X.w) (envOfC qg sg s.heap.objs.size g cdg :: X.stack) X.prog X.w HZ s1 Q E) s1 := by
    refine PySem.W.kla_callFunE hr.depth lamf rfl L.co L.gen rfl ⟨c', ob, vls, t, rfl, goc, gdc, gvc⟩ ?_
    rw [hbind]
    refine wpAny_pure (wpAny_newFunctionEnv (fun y hy => (L.own y hy).2) (fun y hy => absurd hy (by simp)) (fun h₁ gns gsb => ⟨I1.nolimit.fresh _ gsb, ?_⟩) L.kind)
    show codeAny _ _ (.expr bdy (lamEnv X sco s1.heap.objs.size f c')) _ _
    have old : ∀ b o, s1.heap.get? b = some o → h₁.get? b = some o := fun b o e => gsb.extBut b o (Nat.ne_of_lt (Heap.lt_size e)) (Heap.get?_push_of_some _ e)
    have J := lam_start2 (E := E) (f := f) (c' := c') (tk := s1.toks + ([] : List (Str × Value)).length) I L I1.env0 hr.hd kept gns old
    refine PySem.W.kla_codeExpr (wpAny_mono ((hbody _ _ s1 HZ (hr.deeper _)).run [] _ _ HZ Q (inv_xe J) ht) (fun v s' ⟨w', H', J', rv, q⟩ => ⟨w', H', J'.os, J'.bare, J'.base, J'.hok, rv, q⟩) fun e s' hq => hq)
  refine wpAny_call (codeAny_mono runs ?_); intro r s' hq
  cases r with
  | error e => exact tk e s' (L2N.XE.of_call I1 hW hq)
  | ok fl =>
    cases fl with
    | ret u => exact I1.after hq
    | next => exact False.elim hq
    | brk => exact False.elim hq
    | cont => exact False.elim hq
end
end Ow

namespace Ow
open PySem PyProof.Rows PySem.Spec L2 LamX

section
variable {Γ : Ctx} {F F1 F2 : Addr → Prop} {H H1 H2 : Hp} {σ : L2.St} {ρ : AE}
theorem noIno {a : Addr} : ¬ inoA [] [] a := fun ⟨_, h, _⟩ => by simp at h
theorem Past.trans (a : Past Γ F H [] [] F1 H1) (b : Past Γ F1 H1 [] [] F2 H2) : Past Γ F H [] [] F2 H2 where
  fk := a.fk.trans b.fk
  tr := b.tr
  tb := b.tb
  fn := fun x f => (b.fn x f).elim (a.fn x) fun n => .inr fun z => n (a.th x z)
  kp := fun x o h _ n => b.kp x o (a.kp x o h noIno n) noIno n
  th := fun x h => b.th x (a.th x h)
theorem Past.ext (a : Past Γ F H [] [] F1 H1) (e : Ext H1 H2) : Past Γ F H [] [] F1 H2 where
  fk := a.fk.trans (Fk.ext a.tr e)
  tr := fun x f => (a.tr x f).ext e
  tb := a.tb.ext e
  fn := a.fn
  kp := fun x o h n1 n => e x o (a.kp x o h n1 n)
  th := fun x h => (a.th x h).ext e
theorem Past.froze {p : Addr} (a : Past Γ F H [] [] F1 H1) (h1 : ¬ NTo H p) (h2 : NTo H1 p) : Past Γ F H [] [] (fun b => F1 b ∨ b = p) H1 where
  fk := a.fk.trans (Fk.grow fun _ h => .inl h)
  tr := fun x f => f.elim (a.tr x) fun e => e ▸ h2
  tb := a.tb
  fn := fun x f => f.elim (a.fn x) fun e => .inr (e ▸ h1)
  kp := a.kp
  th := a.th
theorem past_extN (tr : ∀ a, F a → NTo H a) (e : ExtN H H1) (tb : Tabs Γ.T H1) : Past Γ F H [] [] F H1 where
  fk := ⟨fun _ h => h, fun a f => by
    obtain ⟨o, q, n⟩ := tr a f
    rw [q]; exact e a o q n, fun a xs h => e a _ h (fun _ z => HO.noConfusion z), fun a o u h => e a _ h (fun _ z => HO.noConfusion z)⟩
  tr := fun a f => let ⟨o, q, n⟩ := tr a f; ⟨o, e a o q n, n⟩
  tb := tb
  fn := fun _ f => .inl f
  kp := fun a o h _ n => e a o h n
  th := fun a ⟨o, q, n⟩ => ⟨o, e a o q n, n⟩
theorem putOuts_nil : putOuts [] [] ρ = ρ := by
  unfold putOuts
  apply List.ext_getElem?
  intro i
  rw [List.getElem?_mapIdx]
  cases ρ[i]? <;> rfl
theorem past_keep (G : GInv Γ F H) (S : RepS Γ F H σ ρ) (P : Past Γ F H [] [] F1 H1) : GInv Γ F1 H1 ∧ RepS Γ F1 H1 σ ρ := by
  obtain ⟨a, b⟩ := call_past (modes := []) (ps := []) (vs := []) G S rfl rfl rfl P
  refine ⟨a, ?_⟩
  have := b [] (fun i a h => by simp at h)
  rwa [putOuts_nil] at this
theorem args_nil : ArgsOk Γ F H [] [] [] := ⟨rfl, rfl, fun i d v h => by simp at h, fun i d v h => by simp at h, fun i j a h => by simp at h⟩
end
def maskA (ρ : AE) : AE := ρ.map fun s => match s with
  | .val d => .val d
  | _ => .non
theorem mask_rep {Γ : Ctx} {F : Addr → Prop} {H : Hp} {σ : L2.St} {ρ : AE} {N : List Str} {gb : Bool} (S : RepS Γ F H σ ρ) : RepS (Γ.enter N F (noT H) (inoAt [] []) gb) F H σ (maskA ρ) := by
  have key : ∀ (i : Nat) s, (maskA ρ)[i]? = some s → (∃ d, s = .val d ∧ ρ[i]? = some (.val d)) ∨ s = .non := fun i s h => by
    unfold maskA at h
    rw [List.getElem?_map] at h
    cases q : ρ[i]? with
    | none => rw [q] at h; cases h
    | some s0 =>
      rw [q] at h
      cases s0 with
      | val d => cases h; exact .inl ⟨d, rfl, rfl⟩
      | _ => cases h; exact .inr rfl
  refine ⟨by unfold maskA; rw [List.length_map]; exact S.len, fun i d h => ?_, fun i d h => ?_, fun i d h => ?_, fun i j a ⟨_, d, o⟩ _ => ?_, fun i h => ?_⟩
  · rcases key i _ h with ⟨d', e, h'⟩ | e
    · cases e; exact S.val i d h'
    · cases e
  · rcases key i _ h with ⟨d', e, h'⟩ | e <;> cases e
  · rcases key i _ h with ⟨d', e, h'⟩ | e <;> cases e
  · rcases o with o | o
    · rcases key i _ o with ⟨d', e, h'⟩ | e <;> cases e
    · rcases key i _ o with ⟨d', e, h'⟩ | e <;> cases e
  · rcases key i _ h with ⟨d', e, h'⟩ | e <;> cases e
def eTold (readD : D → Option D) (wordOf : Str → Option Str) (f : EvE) : EvE := fun ρ => match f (maskA ρ) with
  | .ok p _ => (match readD p.1 with
    | some r => .ok (.tuple [.int 0, r], false) ρ
    | none => .stuck)
  | .exc c => (match wordOf c with
    | some x => .ok (.tuple [.int 1, .str x], false) ρ
    | none => .stuck)
  | .stuck => .stuck
def readSem (readD : D → Option D) : Fun := fun ds => match ds with
  | [d] => (readD d).map fun r => .ret r (isMut r) [.none]
  | _ => none
def Ctx.inHot (Γ : Ctx) (N : List Str) (F0 : Addr → Prop) (H0 : Hp) (a : Addr) : Ctx := { Γ with N := N, F0 := F0, H0 := H0, ino := inoAt [] [], gb := false, hot := true, xa := some a }
/-- told(lambda: body) -/
theorem pe_told {Γ : Ctx} {X : Cx} {sc : Scope} {st : Str → Bool} {k kk kr : Nat} {W : WX} {f : EvE} {readD : D → Option D} {wordOf : Str → Option Str} {x a rd top e pr : Str} {fa fr c P : Addr} {fd fdr : FuncData} {pt : Arguments} {bt : List Stmt} {sct : Scope} {Ng : List Str}
    {params : Arguments} {body : Expr} {scope : Scope} {p lpos pos p1 p2 p3 p4 p5 p7 p8 p9 p10 p11 : Pos} {j0 k6 : Nat} {b₀ : Stmt} {suite : List Stmt} {ctop : Value} {as : List Nat} {hF : Str → StF}
    (g : GdT Γ X sc st k W) (hh : Γ.hot = false) (hkk : kk + 2 ≤ k) (Fd : FunD Γ.K x x pt bt sct [] [] fa fd) (Sg : FnScope Ng [a] sct) (hNg : Ng[0]? = some a) (hva : Vis sct a) (hg : sc.names.lookup x = some .globalImplicit) (hm : Γ.mg x = some (.ref fa)) (hb : Binds Γ.K fd [a] [])
    (TB : TabB Γ.base Γ.mg c P) (hcode : X.env.code = .ref c) (hmT : (P, X.env.qual ++ "<lambda>") ∈ Γ.T) (hu : ∀ p ∈ Γ.T, p.1 = P → p.2 = X.env.qual ++ "<lambda>") (L : LamS sc scope) (hdef : defaultsOf params X.env = ([], []))
    (hbind : ∀ (qn : Str) (cells : List (Str × Addr)) (v1 v2 v3 : Value), bindArgs (PySem.W.kla_fn "<lambda>" qn params body scope cells v1 v2 v3) ⟨[], []⟩ = pure [])
    (hbody : ∀ (F0 : Addr → Prop) (H0 : Hp) (ino : Nat → Option Addr) (X' : Cx) (W' : WX), GdT (Γ.enter Γ.N F0 H0 ino false) X' scope (fun _ => false) kk W' → PE X' body (tD (Γ.enter Γ.N F0 H0 ino false) W' f))
    (htext : bt = [.Try [.Return (some (.Tuple [.Constant (.int 0) j0 p1, .Call (.Name rd p2) [.Call (.Name a p3) [] [] p4] [] p5] k6 p7)) p8] [.ExceptHandler (some (.Name top p9)) (some e) (b₀ :: suite) p10] [] [] p11])
    (hread : FnG Γ false kr fr fdr [pr] [false] (readSem readD)) (hkr : kr ≤ kk + 1) (hgr : sct.names.lookup rd = some .globalImplicit) (hmr : Γ.mg rd = some (.ref fr)) (hkpr : PySem.W.keepIn Γ.K (.ref fr) = true) (hbr : Binds Γ.K fdr [pr] [])
    (he : Ng[1]? = some e) (hle : sct.names.lookup e = some .local) (htop : sct.names.lookup top = some .globalImplicit) (hmtop : Γ.mg top = some ctop) (hdtop : (top == ("__debug__" : Str)) = false) (hdr : (rd == ("__debug__" : Str)) = false) (hda : (a == ("__debug__" : Str)) = false) (hca : (a == ("__classdict__" : Str)) = false) (hdx : (x == ("__debug__" : Str)) = false)
    (hexm : ∀ c w, wordOf c = some w → PySem.W.exmOne Γ.K (Γ.cls c) ctop = some true) (hD : ∀ c w, wordOf c = some w → ∃ D, Γ.cls c = .ref D ∧ ExcC Γ.K D)
    (hsu : ∀ c w, wordOf c = some w → ∀ (F0 : Addr → Prop) (H0 : Hp) (X' : Cx) (aE D : Addr), Γ.cls c = .ref D → GdT (Γ.inHot Ng F0 H0 aE) X' sct (stD sct) (kk + 1) W0 → L2H.HotC X' → CallR X' (.builtin "isinstance") (rIsE X'.K D aE) → PSs X' (b₀ :: suite) (tS (Γ.inHot Ng F0 H0 aE) W0 as (hF c)))
    (hres : ∀ c w, wordOf c = some w → ∃ ρ', hF c ((List.replicate Ng.length Slot.non).set 1 .exn) = .ret (.tuple [.int 1, .str w]) false ρ') :
    PE X (.Call (.Name x p) [.Lambda params body scope lpos] [] pos) (tD Γ W (eTold readD wordOf f)) := by
  refine ⟨fun pins s σ H Q I ⟨F, ρ, G, S, O⟩ => ?_⟩
  have hkp := Fd.kp
  obtain ⟨oc, od, dV, kV, doc, pm, an, cdv, ct, osl, rfl, lk, hcd, _, _⟩ := Fd.ex
  have hgl : Gl X x := by show X.env.scope.names.lookup x = _; rw [g.scp]; exact hg
  have hr : Room (kk + 2) X.A := (g.rm hh).mono hkk
  refine wpAny_Call_Name_kw (ld_glob I hgl (by rw [g.mg]; exact hm) ?_ hdx)
  refine PySem.W.callWith_K (h₀ := X.base) I.ok.mod.kin (by rw [g.K]; exact hkp) ?_ (by rfl) (by rfl)
  change wpAny _ _ (spliced ((false, eval (.Lambda params body scope lpos) X.env) :: backTo pos (starEach [] X.env))) _ _ s
  have L' : LamS X.env.scope scope := by rw [g.scp]; exact L
  refine Calls.spliced_cons (lam_make2 I (by rw [g.base, g.mg]; exact TB) hcode hmT hu G.tb hdef (L'.has I.ok) fun fl c' pm' ctv H1 s' I1 eN T1 hf hfn hfr hco => ?_)
  apply Calls.spliced_nil
  refine ⟨I1.kIn, ?_⟩
  -- the end, from any state that the call may leave
  have PN := past_extN (Γ := Γ) G.tr eN T1
  have done : ∀ (d : D) F' H' v, Out Γ W (.ok (d, false) ρ) F H σ (fun p ρ' F' H' => ∀ v, ResOk Γ F' H' σ ρ' p v → Q v H') → Past Γ F H1 [] [] F' H' → Γ.RV F' H' d v → Q v H' := fun d F' H' v O' P r => by
    have PP := PN.trans P
    obtain ⟨G', S'⟩ := past_keep G S PP
    exact O' F' H' PP.fk G' S' v (resOk_plain r)
  have e0 := I1.env0
  have rc : codeAny (model X.prog X.w) X.A (.call (.ref fa) ⟨[.ref fl], []⟩) (CR (L2N.CX X.prog X.w) X.stack X.prog X.w H1 s' Q (fun _ _ _ => False)) s' := by
    refine run_ofS (N := Ng) (ps := [a]) (us := [.ref fl]) (vs := [.ref fl]) (by rw [g.K]; exact lk) (by rw [g.K]; exact hcd) Sg hr e0 (hb s' [.ref fl] (by rw [← g.K]; exact I1.kIn) rfl) (.cons rfl .nil) rfl fun hr' => ?_
    have G1 : GInv (Γ.enter Γ.N F (noT H1) (inoAt [] []) false) F H1 := start_inv args_nil PN.tr T1
    have S1 : RepS (Γ.enter Γ.N F (noT H1) (inoAt [] []) false) F H1 σ (maskA ρ) := mask_rep (past_keep G S PN).2
    have gt : ∀ (pn : List (Addr × Obj)) (xe : Value → Shared → Prop) (W2 : WX), L2N.Takes ((cxOf (L2N.CX X.prog X.w) X.prog X.w X.K X.mg X.base Ng x sct fa cdv X.A X.stack s' H1 (fun _ _ _ => False)).tr pn xe) W2 →
        GdT (Γ.enter Ng (fun _ => False) (fun _ => none) (inoAt [] []) false) ((cxOf (L2N.CX X.prog X.w) X.prog X.w X.K X.mg X.base Ng x sct fa cdv X.A X.stack s' H1 (fun _ _ _ => False)).tr pn xe) sct (stD sct) (kk + 1) W2 := fun pn xe W2 tk => {
      prog := g.prog
      w := g.w
      K := g.K
      mg := g.mg
      base := g.base
      N := rfl
      nd := Sg.nd
      scp := rfl
      calm := fun _ => rfl
      room := ⟨hr'.dp, hr'.un⟩
      hd := fun _ => hr'.hd
      gd := fun h => by cases h
      st := fun y hy => by
        unfold stD at hy
        simp only [Bool.or_eq_true, decide_eq_true_eq] at hy
        exact ⟨hy, .inl rfl⟩
      tk := tk }
    have gh : ∀ (aE : Addr) (pn : List (Addr × Obj)) (F0 : Addr → Prop) (H0 : Hp), GdT (Γ.inHot Ng F0 H0 aE) ((cxOf (L2N.CX X.prog X.w) X.prog X.w X.K X.mg X.base Ng x sct fa cdv X.A X.stack s' H1 (fun _ _ _ => False)).suite aE pn) sct (stD sct) (kk + 1) W0 := fun aE pn F0 H0 => {
      prog := g.prog
      w := g.w
      K := g.K
      mg := g.mg
      base := g.base
      N := rfl
      nd := Sg.nd
      scp := rfl
      calm := fun h => by cases h
      room := ⟨hr'.dp, hr'.un⟩
      hd := fun h => by cases h
      gd := fun h => by cases h
      st := fun y hy => by
        unfold stD at hy
        simp only [Bool.or_eq_true, decide_eq_true_eq] at hy
        exact ⟨hy, .inl rfl⟩
      tk := takesN0 }
    rw [htext]
    refine ⟨_, pss_one (L2N.ps_try_as (X := cxOf (L2N.CX X.prog X.w) X.prog X.w X.K X.mg X.base Ng x sct fa cdv X.A X.stack s' H1 (fun _ _ _ => False)) (c := ctop) (i := 1) (Wout := W0)
      (tb := fun W2 => tRet (tTup (tCons (tC (.int 0)) (tCons (tCallG (Γ.enter Ng (fun _ => False) (fun _ => none) (inoAt [] []) false) [false] (readSem readD) (WE W2) (tCons (fun σZ HZ Q => (∀ cls d H', W2 cls d (L2.start Ng [V.ref fl]) H' → W2 cls d σZ H') ∧ σZ[0]? = some (some (.ref fl)) ∧ HZ c' = some (CodeO c' (X.env.qual ++ "<lambda>")) ∧ tD (Γ.enter Γ.N F (noT H1) (inoAt [] []) false) (fun cls d _ H => W2 cls d (L2.start Ng [V.ref fl]) H) f σ HZ Q) tNil)) tNil))))
      (ts := fun aE cls d D σ' H' => ∃ z : Str × Str × (Addr → Prop) × Hp, wordOf z.1 = some z.2.1 ∧ cls = Γ.cls z.1 ∧ d = none ∧ tS (Γ.inHot Ng z.2.2.1 z.2.2.2 aE) W0 as (hF z.1) D σ' H')
      rfl rfl Sg.nd he hle ⟨htop, hdtop, .inl (by show X.mg top = _; rw [g.mg]; exact hmtop)⟩ takesN0 (fun W2 pn xe tk hp => ?tr) (fun aE oe cls d pn hz hfo => ?su)), ?go⟩
    case tr =>
      have act := pe_actN (k := kk) (E := fun cls d H => W2 cls d (L2.start Ng [V.ref fl]) H) (p1 := p3) (p2 := p4) I1 L' hf hfn hfr (hbind _ _ _ _ _) tk hr' (fun A outer s H hr2 => hbody F (noT H1) (inoAt [] []) _ _ {
          prog := g.prog
          w := g.w
          K := g.K
          mg := g.mg
          base := g.base
          N := g.N
          nd := g.nd
          scp := rfl
          calm := fun _ => rfl
          room := ⟨hr2.dp, hr2.un⟩
          hd := fun _ => hr2.hd
          gd := fun h => by cases h
          st := fun y hy => by cases hy
          tk := L2N.takes_of rfl rfl rfl rfl }) hNg hva hda hca
      exact pss_one (ps_ret (pe_tup (pa_cons pe_int (pa_cons (pe_callG (gt pn xe W2 tk) rfl ((hread.mono hkr).to (Γ' := Γ.enter Ng (fun _ => False) (fun _ => none) (inoAt [] []) false) ⟨rfl, rfl, rfl, rfl, rfl, rfl, rfl⟩) (fun h => by cases h) hgr hmr hkpr hbr (pa_cons act pa_nil) hdr rfl rfl) pa_nil))))
    case su =>
      refine ⟨fun pins s σ H D I ⟨z, h1, h2, h3, q⟩ => ?_⟩
      obtain ⟨Dc, hDc, hE⟩ := hD _ _ h1
      rw [h2, hDc, h3] at hz
      refine (hsu z.1 z.2.1 h1 z.2.2.1 z.2.2.2 _ aE Dc hDc (gh aE _ _ _) ?_ (call_isE (by show ExcC X.K Dc; rw [g.K]; exact hE) hz.zc hfo)).run pins s σ H D I q
      obtain ⟨vs, hv⟩ := hfo
      exact ⟨(aE, oe), ⟨rfl, vs, hv, hz.2.2 vs hv⟩, List.mem_cons_self⟩
    case go =>
      refine ⟨fun cls d H' h => h, start_at (by rfl), hco, F, maskA ρ, G1, S1, ?_⟩
      simp only [eTold] at O
      cases hfr' : f (maskA ρ) with
      | stuck => rw [hfr'] at O; exact O.elim
      | ok q ρ1 =>
        rw [hfr'] at O
        simp only at O
        cases hrd : readD q.1 with
        | none => rw [hrd] at O; exact O.elim
        | some r =>
          rw [hrd] at O
          simp only at O
          intro F2 H2 k2 G2 S2 v rv
          obtain ⟨F3, k3, G3, S3, r3⟩ := rv.froze G2 S2
          have P3 : Past Γ F H1 [] [] F3 H2 := past_of (modes := []) (vs := []) (k2.trans k3) G3
          refine ⟨F3, [q.1], .ret r (isMut r) [.none], G3.tr, G3.tb, ⟨rfl, rfl, fun i d w h1 h2 h3 => ?_, fun i d w h1 => ?_, fun i j b h1 => ?_⟩, by simp only [readSem, hrd]; rfl, ?_⟩
          · cases i with
            | zero => simp at h2 h3; subst h2; subst h3; exact r3
            | succ i => simp at h2
          · cases i <;> simp at h1
          · cases i <;> simp at h1
          · intro F4 H4 u P4 gv _
            have P4' : Past Γ F3 H2 [] [] F4 H4 := ⟨P4.fk, P4.tr, P4.tb, P4.fn, fun a o h _ n => P4.kp a o h (fun ⟨i, z, _⟩ => by cases i <;> simp at z) n, P4.th⟩
            refine ⟨by show 2 ≤ sizeLine; decide, fun pp hpp => ?_⟩
            obtain ⟨F5, P5, r5⟩ : ∃ F5, Past Γ F H1 [] [] F5 H4 ∧ Γ.RV F5 H4 r u := by
              unfold GaveOk at gv
              split at gv
              · obtain ⟨b, rfl, nf, nn, t⟩ := gv
                have P := P3.trans P4'
                exact ⟨_, P.froze (fun z => nn (P3.th b z)) t.some, (t.mono (Fk.grow fun _ h => .inl h) rfl).rep (.inr rfl)⟩
              · exact ⟨F4, P3.trans P4', gv⟩
            have ex : Ext H4 (upd H4 pp (.tup [.int 0, u])) := Ext.upd hpp
            refine done _ F5 _ _ O (P5.ext ex) ?_
            simp only [RepV]
            refine ⟨pp, _, rfl, .of upd_same, by show 2 ≤ sizeLine; decide, RepL.cons (by simp only [RepV]) (RepL.cons (RepV.mono (Fk.ext P5.tr ex) _ _ r5) RepL.nil)⟩
      | exc cc =>
        rw [hfr'] at O
        simp only at O
        cases hw : wordOf cc with
        | none => rw [hw] at O; exact O.elim
        | some wd =>
          rw [hw] at O
          simp only at O
          intro F2 H2 k2 G2
          have P2 : Past Γ F H1 [] [] F2 H2 := past_of (modes := []) (vs := []) k2 G2
          refine ⟨true, by show PySem.W.exmOne X.K _ _ = _; rw [g.K]; exact hexm _ _ hw, fun _ aE hn => ⟨(cc, wd, F2, noT H2), hw, rfl, rfl, F2, (List.replicate Ng.length Slot.non).set 1 .exn, ?_, ?_, ?_⟩, fun z => by cases z⟩
          · have G0 : GInv (Γ.enter Ng F2 (noT H2) (inoAt [] []) false) F2 H2 := start_inv args_nil P2.tr P2.tb
            exact ⟨G0.tr, G0.fn, G0.f0, G0.kp, G0.th, G0.io, G0.ni, G0.tb⟩
          · have hl1 : 1 < Ng.length := (List.getElem?_eq_some_iff.mp he).1
            have slen : (L2.start Ng [V.ref fl]).length = Ng.length := by
              unfold L2.start
              simp only [List.length_append, List.length_map, List.length_replicate, List.length_cons, List.length_nil]
              omega
            have at_ : ∀ (i : Nat) s, ((List.replicate Ng.length Slot.non).set 1 .exn)[i]? = some s → (i = 1 ∧ s = .exn) ∨ s = .non := fun i s h => by
              by_cases hi : i = 1
              · subst hi
                rw [List.getElem?_set_self (by rw [List.length_replicate]; exact hl1)] at h
                cases h; exact .inl ⟨rfl, rfl⟩
              · rw [List.getElem?_set_ne (Ne.symm hi), List.getElem?_replicate] at h
                split at h
                · cases h; exact .inr rfl
                · cases h
            refine ⟨by rw [List.length_set, List.length_set, List.length_replicate, slen], fun i d h => ?_, fun i d h => ?_, fun i d h => ?_, fun i j b ⟨_, d, o⟩ _ => ?_, fun i h => ?_⟩
            · rcases at_ i _ h with ⟨_, e⟩ | e <;> cases e
            · rcases at_ i _ h with ⟨_, e⟩ | e <;> cases e
            · rcases at_ i _ h with ⟨_, e⟩ | e <;> cases e
            · rcases o with o | o
              · rcases at_ i _ o with ⟨_, e⟩ | e <;> cases e
              · rcases at_ i _ o with ⟨_, e⟩ | e <;> cases e
            · rcases at_ i _ h with ⟨e, _⟩ | e
              · subst e
                exact ⟨aE, rfl, List.getElem?_set_self (by rw [slen]; exact hl1)⟩
              · cases e
          · obtain ⟨ρ', hρ⟩ := hres cc wd hw
            rw [hρ]
            intro F3 H3 σ3 v k3 G3 S3 rv
            have P3 : Past Γ F2 H2 [] [] F3 H3 := ⟨k3, G3.tr, G3.tb, fun a f => (G3.fn a f).imp id noT_none.mp, fun a o h hn ht => G3.kp a o (noT_of h ht) (fun i e => by
                have e' : inoAt [] [] i = some a := e
                have z := (inoAt_some e').1
                simp at z) ht, fun a h => G3.th a fun z => noT_none.mp z h⟩
            refine done _ F3 H3 v O (P2.trans P3) ?_
            unfold ResOk at rv
            rw [if_neg (by simp)] at rv
            exact rv
  refine wpAny_call (codeAny_mono rc ?_)
  intro r s2 hq
  cases r with
  | error e =>
    obtain ⟨_, _, _, _, _, _, _, _, _, _, _, _, z⟩ := hq
    exact z.elim
  | ok fl =>
    cases fl with
    | ret u => exact I1.after hq
    | next => exact False.elim hq
    | brk => exact False.elim hq
    | cont => exact False.elim hq
end Ow

namespace Ow
open PySem PyProof.Rows PySem.Spec L2 LamX

/-- the fixed part of a law's walk -/
def Ctx.top (P : Program) (w : World) (K : PySem.W.Frag) (mg : Str → Option Value) (base : Heap) (T : List (Addr × Str)) (cls : Str → Value) : Ctx :=
  { prog := P, w := w, K := K, mg := mg, base := base, N := [], F0 := fun _ => False, H0 := fun _ => none, ino := fun _ => none, T := T, cls := cls, gb := true, hot := false, xa := none }
section
variable {P : Program} {w : World} {K : PySem.W.Frag} {mg mb : Str → Option Value} {s₁ : Shared} {a : Addr} {vs : List Value} {ns : List Int} {ts : List Addr}
/-- the script, the tables -/
def lawH (K : PySem.W.Frag) (a : Addr) (vs : List Value) (ns : List Int) (ts : List Addr) : Hp := fun b =>
  if b ∈ ts then some (.tbl #[]) else if b = a ∧ (K.lookup a).isNone = true then some (.frz { cls := .type "list", data := .seq vs.toArray } (.lst (ns.map V.int))) else none
theorem lawH_cases {b : Addr} {u : HO} (h : lawH K a vs ns ts b = some u) : (b ∈ ts ∧ u = .tbl #[]) ∨ (b ∉ ts ∧ b = a ∧ K.lookup a = none ∧ u = .frz { cls := .type "list", data := .seq vs.toArray } (.lst (ns.map V.int))) := by
  unfold lawH at h
  split at h
  · rename_i hb
    cases h; exact .inl ⟨hb, rfl⟩
  · rename_i hb
    split at h
    · rename_i hq
      cases h
      exact .inr ⟨hb, hq.1, Option.isNone_iff_eq_none.mp hq.2, rfl⟩
    · cases h
theorem lawH_tab {b : Addr} (h : b ∈ ts) : lawH K a vs ns ts b = some (.tbl #[]) := by unfold lawH; rw [if_pos h]
theorem law_G {k : Nat} {fa : Addr} {cs : List (Addr × Addr)} {fd : FuncData} {x : Str} {T : List (Addr × Str)} {cls : Str → Value} {sem : Fun} {fl : Bool} {outs : List D}
    (kin : K.In s₁.heap) (nsg : s₁.heap.Ns mainGlobals mg) (nsb : s₁.heap.Ns builtinsNs mb) (nsm : ∀ x : Str, x ≠ "__name__" → mb x = bootBuiltins x) (lim : s₁.heap.NoLimit) (hg : s₁.gens = #[])
    (tabE : ∀ p ∈ cs, s₁.heap.get? p.2 = some { cls := .none, data := .fields #[] }) (nT : ∀ p ∈ cs, K.lookup p.2 = none) (CH : ∀ p ∈ cs, PySem.W.CodeHd s₁.heap p.1 p.2) (tabsT : ∀ p ∈ T, p.1 ∈ cs.map (·.2))
    (main : ∃ (bm : Addr) (ob : Obj), mg "__builtins__" = some (.ref bm) ∧ bm ≠ builtinsNs ∧ s₁.heap.get? bm = some ob ∧ ob.cls = .type "module" ∧ ob.dict = some builtinsNs ∧ ob.data = .plain)
    (lista : s₁.heap.get? a = some { cls := .type "list", data := .seq vs.toArray }) (whole : IntsAre vs ns) (few : ns.length ≤ sizeLine) (room : Room k callerA)
    (F : ∀ base : Heap, K.In base → base.Ns mainGlobals mg → (∀ p ∈ cs, TabB base mg p.1 p.2) → FnG (Ctx.top P w K mg base T cls) true k fa fd [x] [false] sem) (hbind : ∀ (s : Shared) (u : Value), BindsTo s fd ⟨[u], []⟩ [(x, u)])
    (hsem : sem [.list (ns.map PyData.int)] = some (.ret (.bool true) fl outs)) :
    codeAny (model P w) callerA (.call (.ref fa) ⟨[.ref a], []⟩) (fun fin z => fin = .ok (.ret (.bool true)) ∧ OldK s₁.heap z.heap ∧ z.os = s₁.os ∧ AllBare z.gens) s₁ := by
  have rel := vals_ints whole
  have lenV := whole.length
  generalize hts : cs.map (·.2) = ts at tabsT
  have mem : ∀ p ∈ cs, p.2 ∈ ts := fun p hp => by rw [← hts]; exact List.mem_map.mpr ⟨p, hp, rfl⟩
  have isT : ∀ b ∈ ts, s₁.heap.get? b = some { cls := .none, data := .fields #[] } := fun b nsb => by
    rw [← hts] at nsb
    obtain ⟨p, hp, e⟩ := List.mem_map.mp nsb
    rw [← e]; exact tabE p hp
  have aT : a ∉ ts := fun z => by
    have q := isT a z
    rw [lista] at q
    cases q
  generalize hH : lawH K a vs ns ts = H
  have casesH : ∀ {b u}, H b = some u → _ := fun {b u} h => lawH_cases (by rw [hH]; exact h : lawH K a vs ns ts b = some u)
  have nonT : ∀ {b : Addr} {o : Obj}, s₁.heap.get? b = some o → (∀ vs n, o.data ≠ .seq vs n) → o.data ≠ .fields #[] → H b = none := fun {b o} e h1 h2 => by
    cases q : H b with
    | none => rfl
    | some u =>
      rcases casesH q with ⟨z, _⟩ | ⟨_, z, _⟩
      · rw [isT b z] at e; cases e; exact absurd rfl h2
      · rw [z, lista] at e; cases e; exact absurd rfl (h1 _ _)
  have inB : ∀ {b : Addr} {o : Obj}, s₁.heap.get? b = some o → (∀ vs n, o.data ≠ .seq vs n) → o.data ≠ .fields #[] → (hidT s₁.heap H).get? b = some o := fun {b o} e h1 h2 => hidT_get e (nonT e h1 h2)
  have nsB : ∀ {b : Addr} {m : Str → Option Value}, s₁.heap.Ns b m → (hidT s₁.heap H).Ns b m := fun {b m} ⟨o, es, ep, e, d, r⟩ => ⟨o, es, ep, inB e (fun vs n z => by rw [d] at z; cases z) (fun z => by rw [d] at z; cases z), d, r⟩
  have KB : K.In (hidT s₁.heap H) := fun b o e => hidT_get (kin b o e) (by
    cases q : H b with
    | none => rfl
    | some u =>
      rcases casesH q with ⟨z, _⟩ | ⟨_, z, n, _⟩
      · rw [← hts] at z
        obtain ⟨p, hp, ep⟩ := List.mem_map.mp z
        rw [← ep, nT p hp] at e; cases e
      · rw [z, n] at e; cases e)
  have tabs0 : ∀ p ∈ cs, TabB (hidT s₁.heap H) mg p.1 p.2 := fun p hp => by
    refine ⟨?_, ?_, fun z => ?_⟩
    · obtain ⟨o, u5, file, tf, flags, tg, inn, text, t4, e1, r1, r2, r3, r4, r5, r6, r7, r8, hne⟩ := CH p hp
      refine ⟨o, u5, file, tf, flags, tg, inn, text, t4, inB e1 (fun vs n z => ?_) (fun z => ?_), r1, r2, r3, r4, r5, r6, r7, r8, hne⟩
      · rw [r2] at z; cases z
      · rw [r2] at z
        cases z
        simp at r3
    · obtain ⟨bm, ob, b1, b2, b3, b4, b5, b6⟩ := main
      refine ⟨bm, ob, b1, b2, fun q => ?_, fun q => ?_, inB b3 (fun vs n z => ?_) (fun z => ?_), b4, b5, b6⟩
      · obtain ⟨o, es, ep, e, hd, _⟩ := nsg
        rw [q, e] at b3
        cases b3
        rw [hd] at b6; cases b6
      · rw [q, tabE p hp] at b3
        cases b3
        cases b6
      · rw [b6] at z; cases z
      · rw [b6] at z; cases z
    · obtain ⟨o, es, ep, e, hd, _⟩ := nsg
      rw [z, tabE p hp] at e
      cases e
      cases hd
  have hok : HOk P w H s₁.heap := fun b u q => by
    rcases casesH q with ⟨z, e⟩ | ⟨_, z, n, e⟩
    · subst e; exact isT b z
    · subst e; subst z
      exact ⟨lista, by rw [List.length_map]; exact few, vs, _, rel, lista⟩
  have e0 : Env0 P w K mg (hidT s₁.heap H) callerA [] s₁ H := ⟨rfl, ⟨KB, nsB nsg, ⟨mb, nsB nsb, nsm⟩, let ⟨mc, h1, h2⟩ := lim; ⟨mc, nsB h1, h2⟩⟩, fun b o e => of_hidT e, Nat.le_of_eq (hidT_size _ _), trivial, fun b nsb => absurd (show b ∈ ([] : List Addr) from nsb) (by simp), hok, .of_eq hg⟩
  have tabs : Tabs T H := fun p hp => TabS.nil (by rw [← hH]; exact lawH_tab (tabsT p hp))
  have lst : LstR K (fun _ => False) H a (ns.map V.int) := by
    cases hk : K.lookup a with
    | some o =>
      have e := kin a o hk
      rw [lista] at e
      cases e
      exact .inr (.inr ⟨_, vs.toArray, _, hk, rfl, rfl, rfl, by rw [List.size_toArray, lenV]; exact few, by simpa using rel⟩)
    | none =>
      refine .inr (.inl ⟨{ cls := .type "list", data := .seq vs.toArray }, ?_⟩)
      rw [← hH]
      unfold lawH
      rw [if_neg aT, if_pos ⟨rfl, by rw [hk]; rfl⟩]
  have repI : ∀ l : List Int, RepL P w K (fun _ => False) H (l.map PyData.int) (l.map V.int) := fun l => by
    induction l with
    | nil => exact RepL.nil
    | cons i l ih => exact RepL.cons (by simp only [RepV]) ih
  have sp : SpG (Ctx.top P w K mg (hidT s₁.heap H) T cls) [false] sem [.ref a] H (fun v _ => v = .bl true) (fun _ _ _ => False) := by
    refine ⟨fun _ => False, [.list (ns.map PyData.int)], _, fun _ h => h.elim, tabs, ⟨rfl, rfl, fun i d v h1 h2 h3 => ?_, fun i d v h1 => ?_, fun i j b h1 => ?_⟩, hsem, ?_⟩
    · cases i with
      | zero =>
        simp at h2 h3
        subst h2; subst h3
        simp only [RepV]
        exact ⟨a, _, rfl, lst, by rw [List.length_map]; exact few, repI ns⟩
      | succ i => simp at h2
    · cases i <;> simp at h1
    · cases i <;> simp at h1
    · intro F' H' v _ gv _
      unfold GaveOk at gv
      rw [if_neg (by simp [isMut])] at gv
      simpa only [RepV] using gv
  refine codeAny_mono ((F _ KB (nsB nsg) tabs0).run callerA [] s₁ H ⟨[.ref a], []⟩ [.ref a] [.ref a] _ _ room (fun _ => rfl) e0 (hbind s₁ (.ref a)) (.cons rfl .nil) sp) fun r s' h => ?_
  cases r with
  | error e =>
    rcases h with ⟨_, _, _, _, _, _, _, _, _, _, _, _, z⟩
    exact z.elim
  | ok f =>
    cases f with
    | next => exact False.elim h
    | brk => exact False.elim h
    | cont => exact False.elim h
    | ret u =>
      obtain ⟨v, H', oss, bar, grew, kept, rr, q⟩ := h
      have q' : v = .bl true := q
      subst q'
      have eu : u = Value.bool true := rr
      subst eu
      have grown : ∀ b ∈ ts, ∃ more : Array Value, s'.heap.get? b = some { cls := .none, data := .fields more } := fun b nsb => by
        obtain ⟨more, z⟩ := grew.tbls b #[] (by rw [← hH]; exact lawH_tab nsb)
        exact ⟨_, kept b _ z⟩
      have old : ∀ b o, b ∉ ts → s₁.heap.get? b = some o → s'.heap.get? b = some o := fun b o nb e => by
        cases q : H b with
        | none => exact grew.keep b o e q (fun z => absurd (show b ∈ ([] : List Addr) from z) List.not_mem_nil) (by simp)
        | some u =>
          rcases casesH q with ⟨z, _⟩ | ⟨_, z, n, eu⟩
          · exact absurd z nb
          · subst eu
            obtain ⟨e2, _⟩ := kept b _ (grew.frzs b _ _ q)
            rw [z, lista] at e
            cases e
            exact e2
      refine ⟨rfl, ⟨fun b o e => ?_, fun b o e => ?_⟩, oss, bar⟩
      · by_cases nsb : b ∈ ts
        · obtain ⟨more, more_⟩ := grown b nsb
          have hb2 := nsb
          rw [← hts] at hb2
          obtain ⟨p, hp, ep⟩ := List.mem_map.mp hb2
          subst ep
          rw [tabE p hp] at e
          cases e
          exact .inr (.inl ⟨((CH p hp).tab (tabE p hp)).isCodeTable, rfl, #[], more, rfl, by rw [Array.empty_append]; exact more_⟩)
        · exact .inl (old b o nsb e)
      · by_cases nsb : b ∈ ts
        · obtain ⟨more, more_⟩ := grown b nsb
          exact ⟨_, more_⟩
        · exact ⟨o, old b o nsb e⟩
end
/-- what a law's walk is to give -/
def LawG (l : PySem.W.OpenLaw) (w : World) (K : PySem.W.Frag) (k n : Nat) (x : Str) (mg : Str → Option Value) (fa : Addr) (h : Heap) : Prop :=
  ∃ (fd : FuncData) (cs : List (Addr × Addr)) (T : List (Addr × Str)) (cls : Str → Value) (sem : Fun), (∀ p ∈ cs, h.get? p.2 = some { cls := .none, data := .fields #[] }) ∧ (∀ p ∈ cs, K.lookup p.2 = none) ∧ (∀ p ∈ cs, PySem.W.CodeHd h p.1 p.2) ∧ (∀ p ∈ T, p.1 ∈ cs.map (·.2)) ∧ (∀ (s : Shared) (u : Value), BindsTo s fd ⟨[u], []⟩ [(x, u)]) ∧
    (∀ ns : List Int, ns.length ≤ n → (∀ z ∈ ns, Builtin.Int.intBits z ≤ 1048576) → ∃ fl outs, sem [.list (ns.map PyData.int)] = some (.ret (.bool true) fl outs)) ∧
    ∀ base : Heap, K.In base → base.Ns mainGlobals mg → (∀ p ∈ cs, TabB base mg p.1 p.2) → FnG (Ctx.top l.prog w K mg base T cls) true k fa fd [x] [false] sem
theorem walk_G {l : PySem.W.OpenLaw} {n k : Nat} {q : Program} {loose : List Str} {XP : (Str → Option Value) → Heap → Prop} {YP : World → Heap → Prop} {d : DefRec} {x : Str} (hn : l.most = some n) (hn2 : n ≤ sizeLine) (hdf : d.params.defaults = []) (hr : Room k callerA)
    (F : ∀ (w : World) (mg : Str → Option Value) (fa : Addr) (h : Heap), YP w h → h.Ns mainGlobals mg → mg d.name = some (.ref fa) → ∃ K : PySem.W.Frag, K.In h ∧ LawG l w K k n x mg fa h) : PySem.W.WalkO q loose XP YP l.row.toRowW d [] (fun f vs => PySem.call f vs) := by
  refine Att.attach_callB hn hdf ?_
  intro w s₀ s₁ mg mb fa o pm cd doc a vs ns G Y ho hd hcd hmg hobj hints hlen hbits hg
  obtain ⟨K, KX, fd, cs, T, cls, sem, hT, nT, C, hTT, hb, hs, hF⟩ := F w mg fa _ Y G.T.g hmg
  obtain ⟨fl, outs, hsem⟩ := hs ns hlen hbits
  exact law_G KX G.T.g G.T.b G.T.builtins G.T.nolimit hg hT nT C hTT G.T.bmain hobj hints (Nat.le_trans hlen hn2) hr hF hb hsem
end Ow

namespace Ow
open PySem PyProof.Rows PySem.Spec L2 LamX

/-- a def of the text, by its name -/
structure FnAt (Γ : Ctx) (gb : Bool) (k : Nat) (x : Str) (ps : List Str) (modes : List Bool) (sem : Fun) : Prop where
  ex : ∃ (fa : Addr) (fd : FuncData), FnG Γ gb k fa fd ps modes sem ∧ Γ.mg x = some (.ref fa) ∧ PySem.W.keepIn Γ.K (.ref fa) = true ∧ Binds Γ.K fd ps []
theorem FnAt.to {Γ Γ' : Ctx} {gb : Bool} {k : Nat} {x : Str} {ps : List Str} {modes : List Bool} {sem : Fun} (h : FnAt Γ gb k x ps modes sem) (l : Like Γ Γ') : FnAt Γ' gb k x ps modes sem := by
  obtain ⟨fa, fd, a, b, c, d⟩ := h.ex
  exact ⟨fa, fd, a.to l, by rw [l.mg]; exact b, by rw [l.K]; exact c, by rw [l.K]; exact d⟩
theorem FnAt.mono {Γ : Ctx} {gb : Bool} {j k : Nat} {x : Str} {ps : List Str} {modes : List Bool} {sem : Fun} (h : FnAt Γ gb j x ps modes sem) (hk : j ≤ k) : FnAt Γ gb k x ps modes sem := by
  obtain ⟨fa, fd, a, b⟩ := h.ex
  exact ⟨fa, fd, a.mono hk, b⟩
theorem FnAt.imp {Γ : Ctx} {gb : Bool} {k : Nat} {x : Str} {ps : List Str} {modes : List Bool} {sem sem' : Fun} (h : FnAt Γ gb k x ps modes sem) (hs : ∀ ds r, sem' ds = some r → sem ds = some r) : FnAt Γ gb k x ps modes sem' := by
  obtain ⟨fa, fd, a, b⟩ := h.ex
  exact ⟨fa, fd, a.imp hs, b⟩
/-- a class of errors, by its name -/
structure ErrAt (Γ : Ctx) (x : Str) : Prop where
  ex : ∃ C : Addr, Γ.cls x = .ref C ∧ Γ.mg x = some (.ref C) ∧ PySem.W.excIn Γ.K C He.veBase "ValueError.__new__" = true ∧ PySem.W.keepIn Γ.K (.ref C) = true ∧ PySem.W.subIn Γ.K (.ref C) (.type "BaseException") = some true ∧ PySem.W.typeIn Γ.K (.ref C) = some (.type "type")
theorem ErrAt.to {Γ Γ' : Ctx} {x : Str} (h : ErrAt Γ x) (l : Like Γ Γ') : ErrAt Γ' x := by
  obtain ⟨C, h1, h2, h3, h4, h5, h6⟩ := h.ex
  exact ⟨C, by rw [l.cls]; exact h1, by rw [l.mg]; exact h2, by rw [l.K]; exact h3, by rw [l.K]; exact h4, by rw [l.K]; exact h5, by rw [l.K]; exact h6⟩
section
variable {Γ : Ctx} {X : Cx} {sc : Scope} {st : Str → Bool} {k : Nat} {W : WX} {as : List Nat}
theorem de_callA {gb : Bool} {pn : List Str} {modes : List Bool} {sem : Fun} {x : Str} {p pos : Pos} {e : Expr} {es : List Expr} {as : List EvA} (g : GdT Γ X sc st k W) (hh : Γ.hot = false) (Fn : FnAt Γ gb k x pn modes sem) (hgb : gb = true → Γ.gb = true) (hg : sc.names.lookup x = some .globalImplicit)
    (hmo : as.map EvA.mode = modes) (ha : PA X (e :: es) (tAs Γ W as)) (hdb : (x == ("__debug__" : Str)) = false) (he : starEach (e :: es) X.env = (false, eval e X.env) :: starEach es X.env) (hpl : (backTo pos (starEach es X.env)).any (·.1) = false) :
    PE X (.Call (.Name x p) (e :: es) [] pos) (tD Γ W (eCall sem as)) := by
  obtain ⟨fa, fd, a, b, c, d⟩ := Fn.ex
  exact de_call g hh a hgb hg b c d hmo ha hdb he hpl
theorem de_blt {id : String} {x : Str} {op : List D → Option (D × Bool)} {e : Expr} {es : List Expr} {p pos : Pos} {fs : List EvO} (g : Gd Γ X sc st k) (hc : CallR X (.builtin id) (rOfN Γ op)) (hg : sc.names.lookup x = some .globalImplicit) (hm : Γ.mg x = none) (hv : bootBuiltins x = some (.builtin id)) (ha : PA X (e :: es) (tOs Γ W fs))
    (hn : x ≠ "__name__") (hdb : (x == ("__debug__" : Str)) = false) (he : starEach (e :: es) X.env = (false, eval e X.env) :: starEach es X.env) (hpl : (backTo pos (starEach es X.env)).any (·.1) = false) : PE X (.Call (.Name x p) (e :: es) [] pos) (tD Γ W (eOps op fs)) :=
  pe_imp (pe_callB hc (by show X.env.scope.names.lookup x = _; rw [g.scp]; exact hg) (by rw [g.mg]; exact hm) hv ha hn hdb he hpl) (de_ops opN_of)
theorem de_bty {T : String} {x : Str} {op : List D → Option (D × Bool)} {e : Expr} {es : List Expr} {p pos : Pos} {fs : List EvO} (g : Gd Γ X sc st k) (hc : CallR X (.type T) (rOfN Γ op)) (hg : sc.names.lookup x = some .globalImplicit) (hm : Γ.mg x = none) (hv : bootBuiltins x = some (.type T)) (ha : PA X (e :: es) (tOs Γ W fs))
    (hn : x ≠ "__name__") (hdb : (x == ("__debug__" : Str)) = false) (he : starEach (e :: es) X.env = (false, eval e X.env) :: starEach es X.env) (hpl : (backTo pos (starEach es X.env)).any (·.1) = false) : PE X (.Call (.Name x p) (e :: es) [] pos) (tD Γ W (eOps op fs)) :=
  pe_imp (pe_callTy hc (by show X.env.scope.names.lookup x = _; rw [g.scp]; exact hg) (by rw [g.mg]; exact hm) hv ha hn hdb he hpl) (de_ops opN_of)
/-- a global whole number -/
theorem de_gint {x : Str} {i : Int} {pos : Pos} (g : Gd Γ X sc st k) (hg : sc.names.lookup x = some .globalImplicit) (hm : ∃ t, Γ.mg x = some (.int i t)) (hd : (x == ("__debug__" : Str)) = false) : PE X (.Name x pos) (tD Γ W (eCon (.int i))) := by
  obtain ⟨t, h⟩ := hm
  exact de_glob (u := .int i) g hg h ⟨t, rfl⟩ (fun F H => by simp only [RepV]) hd
theorem ds_raiseA {x m : Str} {j : Nat} {p p2 pos rpos : Pos} (g : GdS Γ X sc st k W) (hh : Γ.hot = false) (Er : ErrAt Γ x) (hg : sc.names.lookup x = some .globalImplicit) (hdb : (x == ("__debug__" : Str)) = false) : PS X (.Raise (some (.Call (.Name x p) [.Constant (.str m) j p2] [] pos)) none rpos) (tS Γ W as (sRaise x)) := by
  obtain ⟨C, h1, h2, h3, h4, h5, h6⟩ := Er.ex
  refine ds_raise g hh (L2N.pmk_own PySem.F.excBase_ValueError (by rw [g.K]; exact h3) (by rw [g.mg]; exact h2) (by rw [g.K]; exact h4) (raises_own (by rw [g.K]; exact h5) (by rw [g.K]; exact h6)) (by show X.env.scope.names.lookup x = _; rw [g.scp]; exact hg) hdb) fun σ H Q q => ?_
  rw [h1] at q
  exact q
theorem dw_and1 {a : Expr} {pos : Pos} {f : EvT} (h : PT X a (tT Γ W f)) : PW X (.BoolOp .And [a] pos) (tT Γ W f) := pw_and1 h
theorem dw_or1 {a : Expr} {pos : Pos} {f : EvT} (h : PT X a (tT Γ W f)) : PW X (.BoolOp .Or [a] pos) (tT Γ W f) := pw_or1 h
theorem de_and1 {a : Expr} {pos : Pos} {f : EvE} (h : PE X a (tD Γ W f)) (he : eval (.BoolOp .And [a] pos) X.env = eval a X.env) : PE X (.BoolOp .And [a] pos) (tD Γ W f) := ⟨fun pins s σ H Q I q => by rw [he]; exact h.run pins s σ H Q I q⟩
theorem de_or1 {a : Expr} {pos : Pos} {f : EvE} (h : PE X a (tD Γ W f)) (he : eval (.BoolOp .Or [a] pos) X.env = eval a X.env) : PE X (.BoolOp .Or [a] pos) (tD Γ W f) := ⟨fun pins s σ H Q I q => by rw [he]; exact h.run pins s σ H Q I q⟩
/-- the test of no clause, of one -/
theorem dts_nil : PTs X [] (tT Γ W tTrue) := ⟨fun pins s σ H Q I ⟨F, ρ, G, S, O⟩ => pts_nil.run pins s σ H Q I (O F H Fk.refl G S)⟩
/-- the def, once and for all -/
theorem fnAt_of {Γ : Ctx} {x : Str} {stm : Stmt} {fa : Addr} {fd : FuncData} {N ps : List Str} {k n : Nat} {gb : Bool} {modes : List Bool} {f : StF} {as : List Nat} (Fd : FunD Γ.K x x (defArgs stm) (defBody stm) (defScope stm) [] [] fa fd) (S : FnScope N ps (defScope stm)) (hm : Γ.mg x = some (.ref fa)) (hb : Binds Γ.K fd ps []) (hn : N.length = n)
    (hmo : modes.length = ps.length)
    (hbody : ∀ (F0 : Addr → Prop) (H0 : Hp) (ino : Nat → Option Addr) (X : Cx) (W : WX), GdS (Γ.enter N F0 H0 ino gb) X (defScope stm) (stD (defScope stm)) k W → X.env.qual = x ++ ".<locals>." → X.env.code = fd.code → PSs X (defBody stm) (tS (Γ.enter N F0 H0 ino gb) W as f)) : FnAt Γ gb (k + 1) x ps modes (runF f n modes) := by
  subst hn
  exact ⟨fa, fd, FnG.of Fd S hmo hbody, hm, Fd.kp, hb⟩
end
end Ow

namespace Ow
open PySem PyProof.Rows PySem.Spec L2
/-! ### a tuple, backwards -/
section
variable {prog : Program} {w : World} {A : Around} {E : Value → Shared → Prop} {s : Shared}
theorem back_places (n : Nat) : Builtin.Slice.slicePlaces ((n : Int) - 1) (-1) (-1) = n := by
  simp only [Builtin.Slice.slicePlaces]
  rw [if_neg (by decide)]
  split
  · rw [show (-(-1) : Int) = 1 by decide, Int.ediv_one]; omega
  · omega
theorem fm_congr {α β : Type} {f g : α → Option β} : ∀ {l : List α}, (∀ a ∈ l, f a = g a) → l.filterMap f = l.filterMap g
  | [], _ => rfl
  | a :: l, h => by
    rw [List.filterMap_cons, List.filterMap_cons, h a (by simp), fm_congr fun b hb => h b (List.mem_cons_of_mem _ hb)]
theorem back_pick (xs : Array Value) : ((List.range xs.size).filterMap fun (k : Nat) => xs[((xs.size : Int) - 1 + (k : Int) * (-1)).toNat]?) = xs.toList.reverse := by
  have e : ∀ k ∈ List.range xs.size, xs[((xs.size : Int) - 1 + (k : Int) * (-1)).toNat]? = xs[xs.size - 1 - k]? := fun k hk => by
    have := List.mem_range.mp hk
    congr 1
    omega
  have e2 : ((List.range xs.size).filterMap fun (k : Nat) => xs[((xs.size : Int) - 1 + (k : Int) * (-1)).toNat]?) = ((List.range xs.size).map fun k => xs.size - 1 - k).filterMap fun i => xs[i]? := by
    rw [List.filterMap_map]
    exact fm_congr e
  rw [e2, PySem.W.krv_range, List.filterMap_reverse, PySem.W.krv_all]
theorem back_applied {sl : Addr} {u : Tok} {n : Nat} (ss : s.heap.IsSliceOf sl .none .none (.int (-1) u)) {R : Int × Int × Nat → Shared → Prop} (hR : R ((n : Int) - 1, -1, n) s) : wpAny (model prog w) A (Builtin.Slice.sliceApplied (.ref sl) (pure (n : Int))) R E s := by
  obtain ⟨o, g, gc, gd⟩ := ss
  unfold Builtin.Slice.sliceApplied; unfold Builtin.Slice.sliceFields
  refine wpAny_bind (wpAny_bind (wpAny_field g gd (x := .none) rfl (wpAny_bind (wpAny_field g gd (x := .none) rfl (wpAny_bind (wpAny_field g gd (x := .int (-1) u) rfl (wpAny_pure ?_)))))))
  refine wpAny_bind (slicePart_int ?_)
  show wpAny _ _ (if ((-1 : Int) == 0) = true then _ else _) _ _ s
  rw [if_neg (by decide)]
  refine wpAny_bind (slicePart_none (wpAny_bind (slicePart_none (wpAny_bind (wpAny_pure ?_)))))
  show wpAny _ _ (pure ((n : Int) - 1, (-1 : Int), Builtin.Slice.slicePlaces ((n : Int) - 1) (-1) (-1))) _ _ s
  rw [back_places]
  exact wpAny_pure hR
theorem back_item {t sl : Addr} {xs : Array Value} {d : Value} {Q : Value → Shared → Prop} (tt : IsTup s.heap t xs) (ss : s.heap.IsSliceOf sl .none .none d) (pd : IsPart d (some (-1))) (hz : xs.size ≤ sizeLine)
    (h : Q (.ref s.heap.objs.size) { s with heap := s.heap.push { cls := .type "tuple", data := .seq xs.toList.reverse.toArray } }) : wpAny (model prog w) A (getItem (.ref t) (.ref sl)) Q E s := by
  obtain ⟨o, g, gc, gd⟩ := id ss
  have k : s.TypeIs (.ref sl) "slice" := ⟨o, g, gc⟩
  have fit : sizeOk (.seq xs.toList.reverse.toArray) := by
    show xs.toList.reverse.toArray.size ≤ sizeLine
    simpa using hz
  cases pd with
  | int i u =>
    unfold getItem
    try with_reducible refine wpAny_holding ?_
    first | refine wpAny_bind (wpAny_pure ?_) | skip
    refine wpAny_bind (wpAny_sequenceKey tt.typeIs (by decide) (wpAny_bind (wpAny_callSpecial?_slot (name := Str.ofString "__getitem__") tt.typeIs slot_tuple_getitem (wpAny_call_entry slot_tuple_getitem tt.typeIs PyProof.Rows.entry_tuple_getitem ?_ (PyProof.Rows.args_tuple_getitem _ _)))))
    show wpAny _ _ (Builtin.Tuple.tupleItemsOf (.ref t) >>= _) _ _ s
    refine wpAny_bind (tupleItemsOf_ tt (wpAny_bind (wpAny_typeOf k ?_)))
    rw [if_pos (by decide)]
    refine wpAny_bind (back_applied ss ?_)
    show wpAny _ _ (if ((((xs.size : Int) - 1) == 0 && (-1 : Int) == 1 && xs.size == xs.size) = true) then _ else _) _ _ s
    rw [if_neg (by simp), back_pick]
    first
      | exact wpAny_bind (m := Builtin.Tuple.tupleExact _) (wpAny_newObj_type (wpAny_pure ⟨_, rfl, wpAny_pure h⟩) fit)
      | exact wpAny_bind (m := Builtin.Tuple.tupleExact _) (wpAny_newObj_type (wpAny_bind (wpAny_pure (wpAny_pure ⟨_, rfl, wpAny_pure h⟩))) fit)
      | exact wpAny_bind (wpAny_bind (m := Builtin.Tuple.tupleExact _) (wpAny_newObj_type (wpAny_pure (wpAny_pure ⟨_, rfl, wpAny_pure h⟩)) fit))
      | exact wpAny_bind (wpAny_bind (m := Builtin.Tuple.tupleExact _) (wpAny_newObj_type (wpAny_pure ⟨_, rfl, wpAny_pure h⟩) fit))
end
section
variable {X : Cx}
def tRevT (K : PySem.W.Frag) (te : TE) : TE := fun σ H Q => te σ H fun x H1 => ∃ b xs, x = .ref b ∧ SqT K H1 b xs ∧ ∀ p, H1 p = none → Q (.ref p) (upd H1 p (.tup xs.reverse))
theorem pe_revT {c : Expr} {te : TE} {m : Nat} {q1 q2 q3 q4 : Pos} (hc : PE X c te) : PE X (.Subscript c (.Slice none none (some (.UnaryOp .USub (.Constant (.int 1) m q1) q2)) q3) q4) (tRevT X.K te) := ⟨fun pins s σ H Q I h => by
  refine Subscript_ (thn (hc.run pins s σ H _ I h) fun v sa ⟨x, Ha, Ia, ra, b, xs, ex, hx, q⟩ => ?_)
  subst ex
  cases ra
  have minus : PO X (some (.UnaryOp .USub (.Constant (.int 1) m q1) q2)) (tPart (tUn (rU fun i => .int (-i)) (tC (.int 1)))) := po_some (pe_un un_neg pe_int)
  refine wpAny_Slice (thn (po_none.run pins sa σ Ha (fun o Hb => o = none ∧ Hb = Ha) Ia ⟨rfl, rfl⟩) fun vl sb ⟨l, Hb, Ib, pl, el, eb⟩ => thn (po_none.run pins sb σ Hb (fun o Hc => o = none ∧ Hc = Hb) Ib ⟨rfl, rfl⟩) fun vu sc ⟨u, Hc, Ic, pu, eu, ec⟩ =>
    thn (minus.run pins sc σ Hc (fun o Hd => o = some (-1) ∧ Hd = Hc) Ic ⟨1, rfl, -1, rfl, rfl, rfl⟩) fun vd sd ⟨o, Hd, Id, pd, eo, ed⟩ => ?_)
  subst el eb eu ec eo ed
  cases pl
  cases pu
  have Ie : Inv X pins σ Hd { sd with heap := sd.heap.push { cls := .type "slice", data := .fields #[.none, .none, vd] } } := Id.kept (t' := sd.toks) fun _ _ z => Heap.get?_push_of_some _ z
  obtain ⟨its, r, tt, hz⟩ := Ie.tuple hx
  show wpAny (model X.prog X.w) X.A (subscriptTail c (.Slice none none (some (.UnaryOp .USub (.Constant (.int 1) m q1) q2)) q3) (.ref b) (.ref sd.heap.objs.size)) (EP X pins σ Q) X.xe { sd with heap := sd.heap.push { cls := .type "slice", data := .fields #[.none, .none, vd] } }
  refine tail_any (ops := [.ref b, .ref sd.heap.objs.size]) tt.typeIs slot_tuple_getitem.lookup ?_ (by with_unfolding_all rfl)
  refine back_item tt (Heap.IsSliceOf.new _ .none .none vd) pd (by rw [List.size_toArray, ← r.length]; exact hz) ⟨.ref _, _, Ie.laid (t' := sd.toks) (o := .tup xs.reverse) (fun _ _ z => Heap.get?_push_of_some _ z) (Nat.le_refl _) ?_, rfl, q _ (Ie.hok.fresh (Nat.le_refl _))⟩
  exact ⟨by rw [List.length_reverse]; exact hz, _, r.reverse, IsTup.new _ _⟩⟩
end
end Ow

namespace Ow
open PySem PyProof.Rows PySem.Spec L2 LamX

/-! ### slices -/
def cutD {α : Type} (xs : List α) (lo hi : Option Int) : List α := (xs.drop (HT.sIx xs.length 0 lo)).take (HT.sIx xs.length xs.length hi - HT.sIx xs.length 0 lo)
def evPart : Option EvO → AE → Res (Option Int)
  | none, ρ => .ok none ρ
  | some f, ρ => (f ρ).bind fun q ρ' => match q.1 with
    | .int i => .ok (some i) ρ'
    | _ => .stuck
def eSlice (f : EvO) (lo hi : Option EvO) : EvE := fun ρ => (f ρ).bind fun p ρ1 => (evPart lo ρ1).bind fun l ρ2 => (evPart hi ρ2).bind fun h ρ3 => if still p.2 p.1 ρ3 then (match p.1 with
  | .list ds => .ok (.list (cutD ds l h), true) ρ3
  | .tuple ds => .ok (.tuple (cutD ds l h), false) ρ3
  | _ => .stuck) else .stuck
def dRev : D → Option (D × Bool)
  | .list ds => some (.list ds.reverse, true)
  | .tuple ds => some (.tuple ds.reverse, false)
  | _ => none
def strsOf : List D → Option (List Str)
  | [] => some []
  | .str x :: ds => (strsOf ds).map (x :: ·)
  | _ :: _ => none
def dJoin (a : Str) (d : D) : Option (D × Bool) := match d with
  | .list ds => (strsOf ds).bind fun ys => if (ys.map (·.length)).sum + ys.length * a.length ≤ 16777216 then some (.str (Txt.join a ys), false) else none
  | .tuple ds => (strsOf ds).bind fun ys => if (ys.map (·.length)).sum + ys.length * a.length ≤ 16777216 then some (.str (Txt.join a ys), false) else none
  | _ => none
@[irreducible] def rgOk (a b : Int) : Bool := decide (-(2 ^ 62) ≤ a) && decide (a < 2 ^ 62) && decide (-(2 ^ 62) ≤ b) && decide (b < 2 ^ 62) && decide ((b - a).toNat ≤ 2 ^ 24)
def rgD (a b : Int) : List D := (List.range (b - a).toNat).map fun i => .int (a + (i : Nat))
def eRg (mk : List D → D) (fl : Bool) (f f2 : EvO) : EvE := fun ρ => (f ρ).bind fun p ρ1 => (f2 ρ1).bind fun q ρ2 => match p.1, q.1 with
  | .int a, .int b => if rgOk a b then .ok (mk (rgD a b), fl) ρ2 else .stuck
  | _, _ => .stuck
def eRg1 (mk : List D → D) (fl : Bool) (f : EvO) : EvE := fun ρ => (f ρ).bind fun q ρ2 => match q.1 with
  | .int b => if rgOk 0 b then .ok (mk (rgD 0 b), fl) ρ2 else .stuck
  | _ => .stuck
section
variable {Γ : Ctx} {X : Cx} {sc : Scope} {st : Str → Bool} {k : Nat} {W : WX} {F F' : Addr → Prop} {H H' : Hp} {σ : L2.St} {ρ : AE} {e : Expr} {pos : Pos}
theorem RepL.reverse {P : Program} {w : World} {K : PySem.W.Frag} : ∀ {ds : List D} {vs : List V}, RepL P w K F H ds vs → RepL P w K F H ds.reverse vs.reverse
  | [], vs, h => by simp only [RepL] at h; subst h; exact RepL.nil
  | d :: ds, vs, h => by
    simp only [RepL] at h
    obtain ⟨v, vs', e, r1, r⟩ := h
    subst e
    rw [List.reverse_cons, List.reverse_cons]
    exact RepL.append (RepL.reverse r) (RepL.cons r1 RepL.nil)
theorem RepL.cut {ds : List D} {vs : List V} {lo hi : Option Int} (h : Γ.RL F H ds vs) : Γ.RL F H (cutD ds lo hi) (cutV vs lo hi) := by
  unfold cutD cutV
  rw [h.length]
  exact RepL.take _ (RepL.drop _ h)
def tPs (Γ : Ctx) (W : WX) (f : Option EvO) : TO := fun σ H Q => ∃ F ρ, GInv Γ F H ∧ RepS Γ F H σ ρ ∧ Out Γ W (evPart f ρ) F H σ fun o ρ' F' H' => Q o H'
theorem dp_none : PO X none (tPs Γ W none) := ⟨fun pins s σ H Q I ⟨F, ρ, G, S, O⟩ => po_none.run pins s σ H Q I (O F H Fk.refl G S)⟩
theorem dp_some {f : EvO} (h : PE X e (tO Γ W f)) : PO X (some e) (tPs Γ W (some f)) := ⟨fun pins s σ H Q I ⟨F, ρ, G, S, O⟩ => (po_some h).run pins s σ H Q I (by
  refine ⟨F, ρ, G, S, (Out.bind O).imp fun p ρ1 F1 H1 k1 G1 S1 O1 v rv sv => ?_⟩
  have rd := S1.read rv sv
  split at O1
  · rename_i i hi
    rw [hi] at rd
    exact ⟨i, rInt rd, O1 F1 H1 Fk.refl G1 S1⟩
  · exact O1.elim)⟩
theorem de_slice {f : EvO} {lo hi : Option Expr} {flo fhi : Option EvO} {p2 : Pos} (g : Gd Γ X sc st k) (he : PE X e (tO Γ W f)) (hl : PO X lo (tPs Γ W flo)) (hu : PO X hi (tPs Γ W fhi)) : PE X (.Subscript e (.Slice lo hi none p2) pos) (tD Γ W (eSlice f flo fhi)) := by
  refine pe_imp (pe_slice (SlR.or sl_list sl_tupA) he hl hu) fun σ H Q ⟨F, ρ, G, S, O⟩ => ?_
  refine ⟨F, ρ, G, S, (Out.bind O).imp fun p ρ1 F1 H1 k1 G1 S1 O1 x hx sx => ?_⟩
  refine ⟨F1, ρ1, G1, S1, (Out.bind O1).imp fun l ρ2 F2 H2 k2 G2 S2 O2 => ?_⟩
  refine ⟨F2, ρ2, G2, S2, (Out.bind O2).imp fun h ρ3 F3 H3 k3 G3 S3 O3 => ?_⟩
  by_cases hs : still p.2 p.1 ρ3 = true
  · rw [if_pos hs] at O3
    have rd := S3.read ((hx.mono k2).mono k3) hs
    split at O3
    · rename_i ds hp
      rw [hp] at rd
      obtain ⟨a, xs, rfl, l1, z, r⟩ := rList rd
      refine .inl ⟨a, xs, rfl, by rw [g.K]; exact l1, fun p hpn => ?_⟩
      obtain ⟨q1, q2, q3, q4⟩ := (Alc.newList G3.tr hpn (Nat.le_trans (cutV_length xs l h) z) r.cut).res G3 S3
      exact O3 F3 _ q1 q2 q3 _ q4
    · rename_i ds hp
      rw [hp] at rd
      obtain ⟨a, xs, rfl, l1, z, r⟩ := rTup rd
      refine .inr ⟨a, xs, rfl, by rw [g.K]; exact l1, fun hw => ?_, fun _ p hpn => ?_⟩
      · have ec : cutV xs l h = xs := by
          unfold cutV
          rw [hw.1, hw.2, List.drop_zero, Nat.sub_zero, List.take_length]
        refine O3 F3 H3 Fk.refl G3 S3 _ (resOk_plain ?_)
        have rc := r.cut (lo := l) (hi := h)
        rw [ec] at rc
        simp only [RepV]
        exact ⟨a, xs, rfl, l1, z, rc⟩
      · obtain ⟨q1, q2, q3, q4⟩ := (Alc.newTup (b := false) G3.tr hpn (Nat.le_trans (cutV_length xs l h) z) r.cut).res G3 S3
        exact O3 F3 _ q1 q2 q3 _ q4
    · exact O3.elim
  · rw [if_neg hs] at O3
    exact O3.elim
theorem Out.imp' {α : Type} {r : Res α} {k k' : α → AE → (Addr → Prop) → Hp → Prop} (h : Out Γ W r F H σ k) (i : ∀ a ρ' F' H', r = .ok a ρ' → Fk F H F' H' → GInv Γ F' H' → RepS Γ F' H' σ ρ' → k a ρ' F' H' → k' a ρ' F' H') : Out Γ W r F H σ k' := by
  cases r with
  | ok a ρ' => exact fun F' H' q1 q2 q3 => i a ρ' F' H' rfl q1 q2 q3 (h F' H' q1 q2 q3)
  | _ => exact h
theorem de_rev {f : EvO} {kk : Nat} {p1 p2 p3 : Pos} (g : Gd Γ X sc st k) (he : PE X e (tO Γ W f)) : PE X (.Subscript e (.Slice none none (some (.UnaryOp .USub (.Constant (.int 1) kk p1) p2)) p3) pos) (tD Γ W (eUn dRev f)) := by
  refine ⟨fun pins s σ H Q I ⟨F, ρ, G, S, O⟩ => ?_⟩
  have tup : (∃ ds b ρ1, f ρ = .ok (.tuple ds, b) ρ1) ∨ ¬ ∃ ds b ρ1, f ρ = .ok (.tuple ds, b) ρ1 := Classical.em _
  rcases tup with ⟨ds0, b0, ρ0, e0⟩ | no
  · refine (pe_revT he).run pins s σ H Q I ⟨F, ρ, G, S, (Out.bind O).imp' fun p ρ1 F1 H1 ep k1 G1 S1 O1 x hx sx => ?_⟩
    have rd := S1.read hx sx
    rw [e0] at ep
    cases ep
    obtain ⟨a, xs, rfl, l1, z, r⟩ := rTup rd
    refine ⟨a, xs, rfl, by rw [g.K]; exact l1, fun p hpn => ?_⟩
    obtain ⟨q1, q2, q3, q4⟩ := (Alc.newTup (b := false) G1.tr hpn (by rw [List.length_reverse]; exact z) (RepL.reverse r)).res G1 S1
    exact O1 F1 _ q1 q2 q3 _ q4
  · refine (pe_revL he).run pins s σ H Q I ⟨F, ρ, G, S, (Out.bind O).imp' fun p ρ1 F1 H1 ep k1 G1 S1 O1 x hx sx => ?_⟩
    have rd := S1.read hx sx
    obtain ⟨d, b⟩ := p
    cases d with
    | list ds =>
      obtain ⟨a, xs, rfl, l1, z, r⟩ := rList rd
      refine ⟨a, xs, rfl, by rw [g.K]; exact l1, fun p hpn => ?_⟩
      obtain ⟨q1, q2, q3, q4⟩ := (Alc.newList G1.tr hpn (by rw [List.length_reverse]; exact z) (RepL.reverse r)).res G1 S1
      exact O1 F1 _ q1 q2 q3 _ q4
    | tuple ds => exact absurd ⟨ds, b, ρ1, ep⟩ no
    | _ => exact O1.elim
/-! ### texts joined -/
theorem strs_rep {P : Program} {w : World} {K : PySem.W.Frag} : ∀ {ds : List D} {vs : List V} {ys : List Str}, RepL P w K F H ds vs → strsOf ds = some ys → vs = ys.map V.str
  | [], vs, ys, h, e => by simp only [RepL] at h; simp only [strsOf] at e; cases e; subst h; rfl
  | d :: ds, vs, ys, h, e => by
    simp only [RepL] at h
    obtain ⟨v, vs', ev, r1, r⟩ := h
    subst ev
    cases d with
    | str x =>
      simp only [strsOf] at e
      obtain ⟨zs, ez, rfl⟩ := Option.map_eq_some_iff.mp e
      simp only [RepV] at r1
      rw [r1, strs_rep r ez]; rfl
    | _ => simp [strsOf] at e
theorem de_join {e : Expr} {h : EvO} {a : Str} {j : Nat} {ap p1 : Pos} (g : Gd Γ X sc st k) (he : PE X e (tO Γ W h)) (hs : starEach [e] X.env = [(false, eval e X.env)]) (hbase : attributeBase (.Constant (.str a) j p1) "join" X.env (eval (.Constant (.str a) j p1) X.env) = eval (.Constant (.str a) j p1) X.env) (hline : (ap.endLine == pos.line) = true) :
    PE X (.Call (.Attribute (.Constant (.str a) j p1) "join" ap) [e] [] pos) (tD Γ W (eUn (dJoin a) h)) := by
  refine pe_imp (pe_join (pe_str (x := a)) he hs hbase hline) fun σ H Q ⟨F, ρ, G, S, O⟩ => ⟨⟨a, rfl⟩, F, ρ, G, S, (Out.bind O).imp fun p ρ1 F1 H1 k1 G1 S1 O1 x hx sx => ?_⟩
  have rd := S1.read hx sx
  obtain ⟨d, b⟩ := p
  cases d with
  | list ds =>
    obtain ⟨q, xs, rfl, l1, z, r⟩ := rList rd
    simp only [dJoin] at O1
    cases hy : strsOf ds with
    | none => rw [hy] at O1; exact O1.elim
    | some ys =>
      rw [hy] at O1
      simp only [Option.bind_some] at O1
      by_cases hz : (ys.map (·.length)).sum + ys.length * a.length ≤ 16777216
      · rw [if_pos hz] at O1
        exact ⟨a, q, ys, rfl, rfl, .inl (by rw [g.K, ← strs_rep r hy]; exact l1), hz, O1 F1 H1 Fk.refl G1 S1 _ (resOk_plain (by simp only [RepV]))⟩
      · rw [if_neg hz] at O1; exact O1.elim
  | tuple ds =>
    obtain ⟨q, xs, rfl, l1, z, r⟩ := rTup rd
    simp only [dJoin] at O1
    cases hy : strsOf ds with
    | none => rw [hy] at O1; exact O1.elim
    | some ys =>
      rw [hy] at O1
      simp only [Option.bind_some] at O1
      by_cases hz : (ys.map (·.length)).sum + ys.length * a.length ≤ 16777216
      · rw [if_pos hz] at O1
        exact ⟨a, q, ys, rfl, rfl, .inr (by rw [g.K, ← strs_rep r hy]; exact l1), hz, O1 F1 H1 Fk.refl G1 S1 _ (resOk_plain (by simp only [RepV]))⟩
      · rw [if_neg hz] at O1; exact O1.elim
  | _ => exact O1.elim
/-! ### list(range(..)), tuple(range(..)) -/
theorem rgD_rep {a b : Int} : Γ.RL F H (rgD a b) (rgV a b) := by
  unfold rgD rgV
  generalize List.range (b - a).toNat = l
  induction l with
  | nil => exact RepL.nil
  | cons i l ih => exact RepL.cons (by simp only [RepV]) ih
theorem rgOk_iff {a b : Int} (h : rgOk a b = true) : RgOk a b ∧ (rgV a b).length ≤ sizeLine := by
  unfold rgOk at h
  simp only [Bool.and_eq_true, decide_eq_true_eq] at h
  obtain ⟨⟨⟨⟨h1, h2⟩, h3⟩, h4⟩, h5⟩ := h
  refine ⟨⟨h1, h2, h3, h4, h5⟩, ?_⟩
  rw [rgV_length, sizeLine_eq]
  omega
theorem de_lstRg1 {e : Expr} {f : EvO} {p p2 pos2 : Pos} (g : Gd Γ X sc st k) (hh : Γ.hot = false) (hg : sc.names.lookup ("list" : Str) = some .globalImplicit) (hm : Γ.mg ("list" : Str) = none) (hg2 : sc.names.lookup ("range" : Str) = some .globalImplicit) (hm2 : Γ.mg ("range" : Str) = none) (he : PE X e (tO Γ W f))
    (na : starEach [e] X.env = (false, eval e X.env) :: starEach [] X.env) (nb : starEach [.Call (.Name "range" p2) [e] [] pos2] X.env = (false, eval (.Call (.Name "range" p2) [e] [] pos2) X.env) :: starEach [] X.env) : PE X (.Call (.Name "list" p) [.Call (.Name "range" p2) [e] [] pos2] [] pos) (tD Γ W (eRg1 .list true f)) := by
  have G1 : ∀ {x : Str}, sc.names.lookup x = some .globalImplicit → Gl X x := fun {x} h => by show X.env.scope.names.lookup x = _; rw [g.scp]; exact h
  refine pe_imp (pe_listRg (g.calm hh) (G1 hg) (by rw [g.mg]; exact hm) (prg_1 (G1 hg2) (by rw [g.mg]; exact hm2) he na) nb) fun σ H Q ⟨F, ρ, G, S, O⟩ => ⟨F, ρ, G, S, (Out.bind O).imp fun q ρ1 F1 H1 k1 G1 S1 O1 x hx sx => ?_⟩
  have rd := S1.read hx sx
  split at O1
  · rename_i b hb
    rw [hb] at rd
    split at O1
    · rename_i hk
      obtain ⟨r1, r2⟩ := rgOk_iff hk
      refine ⟨b, rInt rd, r1, fun p hp => ?_⟩
      obtain ⟨q1, q2, q3, q4⟩ := (Alc.newList G1.tr hp r2 rgD_rep).res G1 S1
      exact O1 F1 _ q1 q2 q3 _ q4
    · exact O1.elim
  · exact O1.elim
theorem de_tupRg1 {e : Expr} {f : EvO} {p p2 pos2 : Pos} (g : Gd Γ X sc st k) (hh : Γ.hot = false) (hg : sc.names.lookup ("tuple" : Str) = some .globalImplicit) (hm : Γ.mg ("tuple" : Str) = none) (hg2 : sc.names.lookup ("range" : Str) = some .globalImplicit) (hm2 : Γ.mg ("range" : Str) = none) (he : PE X e (tO Γ W f))
    (na : starEach [e] X.env = (false, eval e X.env) :: starEach [] X.env) (nb : starEach [.Call (.Name "range" p2) [e] [] pos2] X.env = (false, eval (.Call (.Name "range" p2) [e] [] pos2) X.env) :: starEach [] X.env) : PE X (.Call (.Name "tuple" p) [.Call (.Name "range" p2) [e] [] pos2] [] pos) (tD Γ W (eRg1 .tuple false f)) := by
  have G1 : ∀ {x : Str}, sc.names.lookup x = some .globalImplicit → Gl X x := fun {x} h => by show X.env.scope.names.lookup x = _; rw [g.scp]; exact h
  refine pe_imp (pe_tupRg (g.calm hh) (G1 hg) (by rw [g.mg]; exact hm) (prg_1 (G1 hg2) (by rw [g.mg]; exact hm2) he na) nb) fun σ H Q ⟨F, ρ, G, S, O⟩ => ⟨F, ρ, G, S, (Out.bind O).imp fun q ρ1 F1 H1 k1 G1 S1 O1 x hx sx => ?_⟩
  have rd := S1.read hx sx
  split at O1
  · rename_i b hb
    rw [hb] at rd
    split at O1
    · rename_i hk
      obtain ⟨r1, r2⟩ := rgOk_iff hk
      refine ⟨b, rInt rd, r1, fun p hp => ?_⟩
      obtain ⟨q1, q2, q3, q4⟩ := (Alc.newTup (b := false) G1.tr hp r2 rgD_rep).res G1 S1
      exact O1 F1 _ q1 q2 q3 _ q4
    · exact O1.elim
  · exact O1.elim
theorem de_lstRg2 {e e2 : Expr} {f f2 : EvO} {p p2 pos2 : Pos} (g : Gd Γ X sc st k) (hh : Γ.hot = false) (hg : sc.names.lookup ("list" : Str) = some .globalImplicit) (hm : Γ.mg ("list" : Str) = none) (hg2 : sc.names.lookup ("range" : Str) = some .globalImplicit) (hm2 : Γ.mg ("range" : Str) = none) (he : PE X e (tO Γ W f)) (he2 : PE X e2 (tO Γ W f2))
    (na : starEach [e, e2] X.env = (false, eval e X.env) :: starEach [e2] X.env) (na2 : starEach [e2] X.env = (false, eval e2 X.env) :: starEach [] X.env) (np : (backTo pos2 (starEach [e2] X.env)).any (·.1) = false) (nb : starEach [.Call (.Name "range" p2) [e, e2] [] pos2] X.env = (false, eval (.Call (.Name "range" p2) [e, e2] [] pos2) X.env) :: starEach [] X.env) : PE X (.Call (.Name "list" p) [.Call (.Name "range" p2) [e, e2] [] pos2] [] pos) (tD Γ W (eRg .list true f f2)) := by
  have G1 : ∀ {x : Str}, sc.names.lookup x = some .globalImplicit → Gl X x := fun {x} h => by show X.env.scope.names.lookup x = _; rw [g.scp]; exact h
  refine pe_imp (pe_listRg (g.calm hh) (G1 hg) (by rw [g.mg]; exact hm) (prg_2 (G1 hg2) (by rw [g.mg]; exact hm2) he he2 na na2 np) nb) fun σ H Q ⟨F, ρ, G, S, O⟩ => ⟨F, ρ, G, S, (Out.bind O).imp fun q ρ1 F1 H1 k1 G1 S1 O1 x hx sx => ⟨F1, ρ1, G1, S1, (Out.bind O1).imp fun q2 ρ2 F2 H2 k2 G2 S2 O2 y hy sy => ?_⟩⟩
  have ry := S2.read hy sy
  split at O2
  · rename_i a b ha hb
    have rx : x = .int a := by
      obtain ⟨d, bb⟩ := q
      dsimp only at ha
      subst ha
      cases bb with
      | none => exact rInt (RepR.of (show Γ.RV F1 H1 (.int a) x from hx))
      | some i => exact rInt (S1.read hx sx)
    rw [hb] at ry
    split at O2
    · rename_i hk
      obtain ⟨r1, r2⟩ := rgOk_iff hk
      refine ⟨a, b, rx, rInt ry, r1, fun p hp => ?_⟩
      obtain ⟨q1, q2, q3, q4⟩ := (Alc.newList G2.tr hp r2 rgD_rep).res G2 S2
      exact O2 F2 _ q1 q2 q3 _ q4
    · exact O2.elim
  · exact O2.elim
end
end Ow

namespace Ow
open PySem PyProof.Rows PySem.Spec L2 LamX

/-- x, y = [..], e: the list is x's own -/
def sParO (i j : Nat) (f g : EvE) : StF := fun ρ => (f ρ).sb fun p ρ1 => match p with
  | (.list ds, true) => (g ρ1).sb fun q ρ2 => if isNoIno ρ2[i]? && isNoIno ρ2[j]? then .nx ((ρ2.set i (.own (.list ds))).set j (.val q.1)) else .stuck
  | _ => .stuck
section
variable {Γ : Ctx} {X : Cx} {sc : Scope} {st : Str → Bool} {k : Nat} {W : WX} {as : List Nat} {pos : Pos}
theorem ds_parO {i j : Nat} {x y : Str} {a b : Expr} {px py pt : Pos} {kt k2 pt2} {f f2 : EvE} (g : Gd Γ X sc st k) (hh : Γ.hot = false) (hi : Γ.N[i]? = some x) (hj : Γ.N[j]? = some y) (hij : i ≠ j) (hx : sc.names.lookup x = some .local) (hy : sc.names.lookup y = some .local) (hia : as.contains i = true) (hja : as.contains j = true)
    (ha : PE X a (tD Γ W f)) (hb : ∀ p o, Gd (Γ.apart p o) X sc st k → PE X b (tD (Γ.apart p o) W f2)) (hs1 : starEach [a, b] X.env = [(false, eval a X.env), (false, eval b X.env)]) (hs2 : starEach [b] X.env = [(false, eval b X.env)])
    (hw : swappedStores [.Tuple [.Name x px, .Name y py] kt pt] (.Tuple [a, b] k2 pt2) X.env = pure (some [x, y])) (hs : swapsWithSole [.Tuple [.Name x px, .Name y py] kt pt] (.Tuple [a, b] k2 pt2) pos.line X.env = pure false) :
    PS X (.Assign [.Tuple [.Name x px, .Name y py] kt pt] (.Tuple [a, b] k2 pt2) pos) (tS Γ W as (sParO i j f f2)) := by
  refine ps_imp (ps_par (i := i) (j := j) (g.calm hh) (by rw [g.N]; exact g.nd) (by rw [g.N]; exact hi) (by rw [g.N]; exact hj) hij (by rw [g.scp]; exact hx) (by rw [g.scp]; exact hy) (pa_cons ha (pa_cons (pe_ex fun (z : Addr × HO) => hb z.1 z.2 (gd_apart g z.1 z.2)) pa_nil hs2) (by rw [hs1, hs2])) hw hs) fun E σ H ⟨F, ρ, G, S, O⟩ => ?_
  refine ⟨F, ρ, G, S, (OutS.sb O).imp fun p ρ1 F1 H1 k1 G1 S1 O1 v r => ?_⟩
  obtain ⟨d, fl⟩ := p
  cases d with
  | list ds =>
    cases fl with
    | false => exact O1.elim
    | true =>
      unfold ResOk at r
      rw [if_pos (by rfl)] at r
      obtain ⟨c, rfl, nf, h0, no, xs, hc, hz, rl⟩ := r
      have hnt : ∀ ps, (HO.lst xs) ≠ .tbl ps := fun ps e => HO.noConfusion e
      have nf0 : ¬ Γ.F0 c := fun f => nf (G1.f0 c f)
      have hic : ∀ i, Γ.ino i ≠ some c := fun i e => G1.io i c e h0
      refine ⟨(c, .lst xs), F1, ρ1, G1.into hc h0 nf hnt, S1.into no, ?_⟩
      have O1 : OutS Γ W as ((f2 ρ1).sb fun q ρ2 => if isNoIno ρ2[i]? && isNoIno ρ2[j]? then .nx ((ρ2.set i (.own (.list ds))).set j (.val q.1)) else .stuck) F1 H1 σ E := O1
      cases hf : f2 ρ1 with
      | stuck => rw [hf] at O1; exact O1.elim
      | exc e =>
        rw [hf] at O1
        intro F2 H2 k2 G2
        exact O1 F2 H2 σ k2 (G2.outof h0 nf0 hic hnt).1
      | ok q ρ2 =>
        rw [hf] at O1
        intro F2 H2 k2 G2 S2 u ru
        obtain ⟨F3, k3, G3, S3, r3⟩ := ru.froze G2 S2
        obtain ⟨G4, nf4, hc4⟩ := G3.outof h0 nf0 hic hnt
        obtain ⟨S4, no4⟩ := S3.outof hic
        refine ⟨_, _, rfl, ?_⟩
        have O1 : OutS Γ W as (if isNoIno ρ2[i]? && isNoIno ρ2[j]? then .nx ((ρ2.set i (.own (.list ds))).set j (.val q.1)) else .stuck) F1 H1 σ E := O1
        by_cases hn : (isNoIno ρ2[i]? && isNoIno ρ2[j]?) = true
        · rw [if_pos hn] at O1
          simp only [Bool.and_eq_true] at hn
          have rp : ResOk Γ F3 H2 σ ρ2 (.list ds, true) (.ref c) := by
            unfold ResOk
            rw [if_pos (by rfl)]
            exact ⟨c, rfl, nf4, h0, no4, xs, hc4, hz, RepL.mono (k2.trans k3) _ _ rl⟩
          have T1 := S4.storeRes hn.1 rp
          have hn2 : isNoIno (ρ2.set i (slotOf (.list ds, true)))[j]? = true := by rw [get_set_ne (Ne.symm hij)]; exact hn.2
          have T2 := T1.storeRes (p := (q.1, false)) hn2 (resOk_plain r3)
          refine O1 F3 H2 _ (k2.trans k3) G4 T2 fun l hl => ?_
          rw [List.getElem?_set_ne (fun e => hl (by rw [← e]; simpa using hja)), List.getElem?_set_ne (fun e => hl (by rw [← e]; simpa using hia))]
        · rw [if_neg hn] at O1
          exact O1.elim
  | _ => exact O1.elim
theorem sp_two {x y : Str} {a b : Expr} {px py pt : Pos} {kt k2 : Nat} {pt2 : Pos} (g : Gd Γ X sc st k) (hk : sc.kind = .function) (hx : sc.names.lookup x = some .local) (hy : sc.names.lookup y = some .local) (hne : (x == y) = false) (hl : (py.line == px.line) = true) (h1 : ([a, b].any fun | .Starred .. => true | _ => false) = false)
    (h2 : ([a, b].all (foldedForSure 8)) = false) (h3 : ([a, b].all (constantsAlone 8)) = false) : swappedStores [.Tuple [.Name x px, .Name y py] kt pt] (.Tuple [a, b] k2 pt2) X.env = pure (some [x, y]) := by
  have hb : X.env.blockKind = .function := by unfold Env.blockKind; rw [g.scp, hk]; rfl
  have kx : X.env.kindOf x = some .local := by show X.env.scope.names.lookup x = _; rw [g.scp]; exact hx
  have ky : X.env.kindOf y = some .local := by show X.env.scope.names.lookup y = _; rw [g.scp]; exact hy
  have hl' : py.line = px.line := by simpa using hl
  have hne' : x ≠ y := fun e => by rw [e] at hne; simp at hne
  unfold swappedStores
  simp only [hb, h1, h2, h3]
  have he : List.eraseDups [x, y] = [x, y] := by
    have hyx : (y == x) = false := beq_eq_false_iff_ne.mpr (Ne.symm hne')
    simp [List.eraseDups, List.eraseDupsBy, List.eraseDupsBy.loop, hyx]
  simp [kx, ky, Expr.pos, hl', List.filterMap, he]
  intro h
  simp only [List.any_cons, List.any_nil, Bool.or_false, Bool.or_eq_false_iff] at h1
  rcases h with h | h
  · exact absurd (h.symm.trans h1.1) (by decide)
  · exact absurd (h.symm.trans h1.2) (by decide)
theorem sp_sub2 {o i o2 i2 : Expr} {p1 p2 pt pt2 : Pos} {kt k2 : Nat} {a b : Expr} {env : Env} : swappedStores [.Tuple [.Subscript o i p1, .Subscript o2 i2 p2] kt pt] (.Tuple [a, b] k2 pt2) env = pure none := by
  unfold swappedStores
  by_cases hb : (env.blockKind != .function) = true
  · simp [hb]
  · simp [hb]
end
end Ow

namespace Ow
open PySem PyProof.Rows PySem.Spec L2 LamX

/-! ### the order of the data: the same list, whatever stood first -/
def dedupe : List D → List D
  | [] => []
  | x :: xs => if x ∈ dedupe xs then dedupe xs else x :: dedupe xs
theorem dedupe_mem {x : D} : ∀ {l : List D}, x ∈ dedupe l ↔ x ∈ l
  | [] => by simp [dedupe]
  | y :: l => by
    simp only [dedupe]
    split
    · rename_i h
      rw [dedupe_mem (l := l), List.mem_cons]
      constructor
      · exact .inr
      · rintro (e | e)
        · subst e; exact dedupe_mem.mp h
        · exact e
    · rw [List.mem_cons, List.mem_cons, dedupe_mem (l := l)]
theorem dedupe_nodup : ∀ l : List D, (dedupe l).Nodup
  | [] => by simp [dedupe]
  | y :: l => by
    simp only [dedupe]
    split
    · exact dedupe_nodup l
    · rename_i h
      exact List.nodup_cons.mpr ⟨h, dedupe_nodup l⟩
theorem sortD_pw (l : List D) : (sortD l).Pairwise fun a b => PySem.W.dataLe false id a b = true := by
  unfold sortD
  have T := PySem.W.sortLe_total (PyProof.Rows.listOrd PyProof.Rows.itemOrd) false (fun d : D => PySem.W.keyToks (id d))
  exact List.pairwise_mergeSort (fun a b c h1 h2 => T.trans a b c h1 h2) (fun a b => by rw [Bool.or_eq_true]; exact T.total a b) l
/-- two of these of one rank are one -/
def Anti (l : List D) : Prop := ∀ a ∈ l, ∀ b ∈ l, PySem.W.dataLe false id a b = true → PySem.W.dataLe false id b a = true → a = b
theorem sortD_of {l m : List D} (ha : Anti l) (p : m.Perm l) (s : m.Pairwise fun a b => PySem.W.dataLe false id a b = true) : m = sortD l := by
  have pl : (sortD l).Perm l := by unfold sortD; exact List.mergeSort_perm _ _
  exact List.Perm.eq_of_pairwise (fun a b h1 h2 => ha a (p.mem_iff.mp h1) b (pl.mem_iff.mp h2)) s (sortD_pw l) (p.trans pl.symm)
theorem le_toks {a b : D} (h1 : PySem.W.dataLe false id a b = true) (h2 : PySem.W.dataLe false id b a = true) : PySem.W.keyToks a = PySem.W.keyToks b := by
  have e1 : (PyProof.Rows.listOrd PyProof.Rows.itemOrd).blt (PySem.W.keyToks b) (PySem.W.keyToks a) = false := by simpa [PySem.W.dataLe, PySem.W.sortLe] using h1
  have e2 : (PyProof.Rows.listOrd PyProof.Rows.itemOrd).blt (PySem.W.keyToks a) (PySem.W.keyToks b) = false := by simpa [PySem.W.dataLe, PySem.W.sortLe] using h2
  exact (PyProof.Rows.listOrd PyProof.Rows.itemOrd).total _ _ e2 e1
theorem toks_ints : ∀ {k l : List Int}, PySem.W.keyToksAll (k.map PyData.int) = PySem.W.keyToksAll (l.map PyData.int) → k = l
  | [], [], _ => rfl
  | [], i :: l, h => by simp [PySem.W.keyToksAll] at h
  | i :: k, [], h => by simp [PySem.W.keyToksAll] at h
  | i :: k, j :: l, h => by
    simp only [List.map_cons, PySem.W.keyToksAll, PySem.W.keyToks, List.cons_append, List.nil_append, List.cons.injEq, Sum.inl.injEq, true_and] at h
    rw [h.1, toks_ints h.2]
def encT (k : List Int) : D := .tuple (k.map PyData.int)
theorem encT_inj {k l : List Int} (h : encT k = encT l) : k = l := by
  unfold encT at h
  have e : k.map PyData.int = l.map PyData.int := PyData.tuple.inj h
  exact toks_ints (by rw [e])
theorem anti_tups (ks : List (List Int)) : Anti (ks.map encT) := fun a ha b hb h1 h2 => by
  obtain ⟨k, _, rfl⟩ := List.mem_map.mp ha
  obtain ⟨l, _, rfl⟩ := List.mem_map.mp hb
  have e := le_toks h1 h2
  unfold encT at e ⊢
  simp only [PySem.W.keyToks] at e
  rw [toks_ints e]
theorem anti_ints (ns : List Int) : Anti (ns.map PyData.int) := fun a ha b hb h1 h2 => by
  obtain ⟨k, _, rfl⟩ := List.mem_map.mp ha
  obtain ⟨l, _, rfl⟩ := List.mem_map.mp hb
  have e := le_toks h1 h2
  simp only [PySem.W.keyToks, List.cons.injEq, Sum.inl.injEq, and_true] at e
  rw [e]
/-! ### sorted(set(..)) -/
def itsOf : List D → Option (List (List Int))
  | [] => some []
  | .tuple xs :: ds => (intsOf xs).bind fun k => (itsOf ds).map (k :: ·)
  | _ :: _ => none
theorem itsOf_eq : ∀ {ds : List D} {ks : List (List Int)}, itsOf ds = some ks → ds = ks.map encT
  | [], ks, h => by simp only [itsOf] at h; cases h; rfl
  | d :: ds, ks, h => by
    cases d with
    | tuple xs =>
      simp only [itsOf] at h
      obtain ⟨k, hk, h⟩ := Option.bind_eq_some_iff.mp h
      obtain ⟨ls, hl, rfl⟩ := Option.map_eq_some_iff.mp h
      rw [List.map_cons, ← itsOf_eq hl, intsOf_eq hk]; rfl
    | _ => simp [itsOf] at h
def dSortSet : D → Option (D × Bool)
  | .list ds => match itsOf ds with
    | some ks => if ds.length < 64 ∧ ks.all (fun k => !k.isEmpty) = true then some (.list (sortD (dedupe ds)), true) else none
    | none => none
  | .tuple ds => match intsOf ds with
    | some ns => if ds.length < 64 then some (.list (sortD (dedupe ds)), true) else none
    | none => match itsOf ds with
      | some ks => if ds.length < 64 ∧ ks.all (fun k => !k.isEmpty) = true then some (.list (sortD (dedupe ds)), true) else none
      | none => none
  | _ => none
section
variable {α β : Type} {f : α → β}
theorem perm_map {vs us : List β} (p : vs.Perm us) : ∀ L : List α, us = L.map f → ∃ L1 : List α, L1.Perm L ∧ vs = L1.map f := by
  induction p with
  | nil => intro L h; exact ⟨L, .refl _, h⟩
  | cons x p ih =>
    intro L h
    cases L with
    | nil => cases h
    | cons y L =>
      obtain ⟨e1, e2⟩ := List.cons.inj h
      obtain ⟨L1, q1, q2⟩ := ih L e2
      exact ⟨y :: L1, q1.cons y, by rw [List.map_cons, q2, e1]⟩
  | swap x y l =>
    intro L h
    cases L with
    | nil => cases h
    | cons a L =>
      cases L with
      | nil => cases h
      | cons b L =>
        obtain ⟨e1, e2⟩ := List.cons.inj h
        obtain ⟨e3, e4⟩ := List.cons.inj e2
        exact ⟨b :: a :: L, .swap a b L, by rw [List.map_cons, List.map_cons, e1, e3, e4]⟩
  | trans p q ih1 ih2 =>
    intro L h
    obtain ⟨L1, a1, a2⟩ := ih2 L h
    obtain ⟨L2, b1, b2⟩ := ih1 L1 a2
    exact ⟨L2, b1.trans a1, b2⟩
end
theorem nodup_inj {α β : Type} {f : α → β} (inj : ∀ a b, f a = f b → a = b) {l : List α} (h : l.Nodup) : (l.map f).Nodup := List.pairwise_map.mpr (List.Pairwise.imp (fun ne e => ne (inj _ _ e)) h)
theorem each_ref : ∀ L : List (Addr × List Int), PySem.W.EachIs (fun v (p : Addr × List Int) => v = Value.ref p.1) (L.map fun p => Value.ref p.1) L
  | [] => .nil
  | _ :: L => .cons rfl (each_ref L)
theorem each_ref_of : ∀ {out : List Value} {L : List (Addr × List Int)}, PySem.W.EachIs (fun v (p : Addr × List Int) => v = Value.ref p.1) out L → out = L.map fun p => Value.ref p.1
  | _, _, .nil => rfl
  | _, _, .cons h t => by rw [h, each_ref_of t]; rfl
theorem reads_isT {P : Program} {w : World} {h : Heap} {k : List Int} {b : Addr} (x : L2.IsT P w h k b) : Reads h (.ref b) (encT k) [] := by
  obtain ⟨o, items, n, h1, h2, h3, it⟩ := x
  refine .tuple h1 h2 h3 ?_
  have i := L2.ints_of_items it
  have go : ∀ {vs : List Value} {k : List Int}, IntsAre vs k → ReadsAll h vs (k.map PyData.int) [] := fun {vs k} i => by
    induction i with
    | nil => exact .nil
    | cons n t _ ih => exact .cons (.int _ _) ih
  exact go i
theorem alike_tups (ks : List (List Int)) : PySem.W.AllAlike (ks.map encT) := fun a ha b hb => by
  obtain ⟨k, _, rfl⟩ := List.mem_map.mp ha
  obtain ⟨l, _, rfl⟩ := List.mem_map.mp hb
  have key : ∀ k l : List Int, PySem.W.alikeAll (k.map PyData.int) (l.map PyData.int) = true := by
    intro k
    induction k with
    | nil => intro l; cases l <;> rfl
    | cons i k ih =>
      intro l
      cases l with
      | nil => rfl
      | cons j l =>
        show (PySem.W.alike (.int i) (.int j) && PySem.W.alikeAll (k.map PyData.int) (l.map PyData.int)) = true
        rw [ih l]; rfl
  exact key k l
section
variable {P : Program} {w : World} {A : Around} {E : Value → Shared → Prop} {s : Shared}
/-- sorted of a set of tuples of ints -/
theorem sorted_tups {a : Addr} {L : List (Addr × List Int)} {es : Array (Int × Value)} {ep : Nat} {t : SetTable} {Q : Value → Shared → Prop} (R : SetTR P w s.heap a L es ep t) (calm0 : A.handled = none) (hne : ∀ p ∈ L, p.2 ≠ []) (hu : A.units + 8 < cLine)
    (hQ : ∀ s' p (c : Nat) (L' : List (Addr × List Int)), (∀ b so, s.heap.get? b = some so → s'.heap.get? b = some so) → s'.gens = s.gens → s'.os = s.os → s.heap.objs.size ≤ p →
      s'.heap.get? p = some (seqObj "list" (L'.map fun qq => Value.ref qq.1).toArray c) → L'.Perm L → L'.Pairwise (fun qq r => PySem.W.dataLe false id (encT qq.2) (encT r.2) = true) → Q (.ref p) s') :
    wpAny (model P w) A (call (.builtin ("sorted")) [.ref a]) Q E s := by
  obtain ⟨so, sg, sx, sd⟩ := R.ob
  have sz := R.size
  have few := R.few
  refine Calls.call_function_entry kind_sorted plain_sorted entry_sorted (args_sorted1 _) ?_
  unfold Builtin.«sorted»
  refine wpAny_bind (m := checkCount "sorted" 1 1 _) (wpAny_pure ?_)
  refine wpAny_bind (collect_set (A := A.in1) calm0 ⟨so, sg, sx.1, sd⟩ R.fits (by unfold scanBound; omega) R.tab.ris R.led fun s1 vs k1 hz g1 o1 pm => ?_)
  have rowsE : es.toList.map (·.2) = L.map fun qq => Value.ref qq.1 := by
    rw [R.rows]
    unfold rowsOf
    rw [List.map_map] <;> rfl
  obtain ⟨L1, p1, rfl⟩ := perm_map pm L rowsE
  have hvl : L1.length < 64 := by rw [p1.length_eq]; exact few
  refine wpAny_bind (wpAny_newList ?_ (by rw [List.length_map, sizeLine_eq]; omega))
  have hoL : (s1.heap.push (seqObj "list" (L1.map fun qq => Value.ref qq.1).toArray 0)).get? s1.heap.objs.size = some (seqObj "list" (L1.map fun qq => Value.ref qq.1).toArray 0) := Heap.get?_push_size _ rfl
  have er : PySem.W.EachIs (fun v (p : Addr × List Int) => ∃ as, Reads (s1.heap.push (seqObj "list" (L1.map fun qq => Value.ref qq.1).toArray 0)) v (encT p.2) as ∧ s1.heap.objs.size ∉ as) (L1.map fun qq => Value.ref qq.1) L1 := by
    have go : ∀ M : List (Addr × List Int), (∀ p ∈ M, p ∈ L) → PySem.W.EachIs (fun v (p : Addr × List Int) => ∃ as, Reads (s1.heap.push (seqObj "list" (L1.map fun qq => Value.ref qq.1).toArray 0)) v (encT p.2) as ∧ s1.heap.objs.size ∉ as) (M.map fun qq => Value.ref qq.1) M := fun M => by
      induction M with
      | nil => intro _; exact .nil
      | cons p M ih =>
        intro hM
        exact .cons ⟨[], reads_isT (P := P) (w := w) (isT_keep (R.tup p (hM p List.mem_cons_self)) fun b u e => Heap.get?_push_of_some _ (k1 b u e)), by simp⟩ (ih fun qq hq => hM qq (List.mem_cons_of_mem _ hq))
    exact go L1 fun p hp => p1.mem_iff.mp hp
  refine wpAny_bind (wpAny_holding (PySem.W.list_sort_data (enc := fun p : Addr × List Int => encT p.2) (s := { s1 with heap := s1.heap.push (seqObj "list" (L1.map fun qq => Value.ref qq.1).toArray 0) }) hoL (each_ref L1) er (by
      have := alike_tups (L1.map (·.2)); rw [List.map_map] at this; exact this) (.inl fun d sd => ?_) (by rw [sizeLine_eq]; omega) (fun b hb => ?_) fun out hl eo => ?_))
  · obtain ⟨p, hp, rfl⟩ := List.mem_map.mp sd
    have h0 := hne p (p1.mem_iff.mp hp)
    cases hk : p.2 with
    | nil => exact absurd hk h0
    | cons i k => exact ⟨_, _, rfl⟩
  · show A.in1.units + 1 + (encT b.2).depth < cLine
    have sd : (encT b.2).depth ≤ 2 := by
      unfold encT
      simp only [PyData.depth]
      have go : ∀ k : List Int, PyData.depthAll (k.map PyData.int) ≤ 1 := fun k => by
        induction k with
        | nil => simp [PyData.depthAll]
        | cons i k ih => simp only [List.map_cons, PyData.depthAll, PyData.depth]; omega
      have := go b.2
      omega
    have e1 : A.in1.units = A.units + 1 := rfl
    omega
  · obtain ⟨c, hc⟩ := sortedHeap_at (vs := L1.map fun qq => Value.ref qq.1) (out := out.toArray) hoL
    have eo' := each_ref_of eo
    have pL : (L1.mergeSort (PySem.W.dataLe false fun p : Addr × List Int => encT p.2)).Perm L := (List.mergeSort_perm _ _).trans p1
    have T := PySem.W.sortLe_total (PyProof.Rows.listOrd PyProof.Rows.itemOrd) false (fun p : Addr × List Int => PySem.W.keyToks (encT p.2))
    have pw : (L1.mergeSort (PySem.W.dataLe false fun p : Addr × List Int => encT p.2)).Pairwise fun a b => PySem.W.dataLe false (fun p : Addr × List Int => encT p.2) a b = true := List.pairwise_mergeSort (fun a b c h1 h2 => T.trans a b c h1 h2) (fun a b => by rw [Bool.or_eq_true]; exact T.total a b) L1
    rw [eo'] at hc
    refine wpAny_pure ⟨_, rfl, hQ _ s1.heap.objs.size c _ (fun b u e => ?_) g1 o1 hz (by rw [eo']; exact hc) pL pw⟩
    have qq := k1 b u e
    have below := Heap.lt_size qq
    show (sortedHeap (s1.heap.push (seqObj "list" (L1.map fun qq => Value.ref qq.1).toArray 0)) s1.heap.objs.size (L1.map fun qq => Value.ref qq.1) out.toArray).get? b = some u
    rw [sortedHeap_old (Nat.ne_of_lt below) (by rw [size_push']; exact Nat.lt_succ_of_lt below)]
    exact Heap.get?_push_of_some _ qq
end
/-- a set as it is made -/
abbrev newSetO (w : World) : Obj := { cls := .type "set", dict := none, data := .set #[] 0 (.fresh 0 0 (!w.params.followText "set-order")) }
section
variable {P : Program} {w : World} {A : Around} {E : Value → Shared → Prop} {s : Shared}
/-- set(t), t a tuple of tuples of ints -/
theorem call_set_tupT {tu : Addr} {els : Array Value} (ks : List (Addr × List Int)) {Q : Value → Shared → Prop} (calm0 : A.handled = none) (gl : s.heap.IsTuple tu els) (gits : els.toList = ks.map fun p => Value.ref p.1) (hk : ∀ p ∈ ks, L2.IsT P w s.heap p.2 p.1) (hfew : ks.length < 64) (hu : A.units + 3 < cLine)
    (h : ∀ (hp2 : Heap) (tk : Nat) L es ep t, SetTR P w hp2 s.heap.objs.size L es ep t → Got ks ks.length L → (∀ b o, s.heap.get? b = some o → hp2.get? b = some o) → Q (.ref s.heap.objs.size) { s with heap := hp2, toks := tk }) : wpAny (model P w) A (call (.type "set") [.ref tu]) Q E s := by
  have isz : els.size = ks.length := by rw [← Array.length_toList, gits, List.length_map]
  obtain ⟨mc, mt, mro⟩ := PySem.F.called_set.mro
  have mk1 := PySem.F.called_set.made
  have sb1 := PySem.F.called_set.sub
  refine wpAny_call (codeAny_of_tree ?_)
  show wpAny _ _ (callAny (.type "set") _) _ _ _
  refine wpAny_pure ⟨Code.quiet_builtin _ (by decide +kernel), ?_⟩
  refine codeAny_builtin PySem.F.entry_type_call ?_
  rw [Around.under_plain (weight_type_call_type "set" [.ref tu] []) rfl]
  have n1 := PySem.F.called_set.notType
  have n2 := PySem.F.called_set.canCreate
  have n3 := PySem.F.typeCall_set_1 (.ref tu)
  repeat (any_goals (first | assumption | wp_step))

  refine codeAny_mono (code_set_led1 (.ref tu) (E := E) (Q₁ := fun obj s₁ => obj = .ref s.heap.objs.size ∧ s₁ = { s with heap := s.heap.push (newSetO w) }) ⟨rfl, rfl⟩) fun r s₁ hr => ?_
  cases r with
  | error e => exact hr
  | ok fl =>
    cases fl with
    | ret obj =>
      obtain ⟨rfl, rfl⟩ := hr
      have gS : (s.heap.push (newSetO w)).get? s.heap.objs.size = some (newSetO w) := Heap.get?_push_size _ rfl
      have tS : Shared.TypeIs { s with heap := s.heap.push (newSetO w) } (.ref s.heap.objs.size) "set" := ⟨_, gS, rfl⟩
      have i1 := PySem.F.called_set.init.lookup
      have i2 := PySem.F.called_set.init.bind (.ref s.heap.objs.size)
      repeat (any_goals (first | assumption | wp_step))

      refine codeAny_mono (codeAny_call_builtin (R := wants (fun r s₂ => r = .none ∧ ∃ hp2 tk L es ep t, s₂ = { s with heap := hp2, toks := tk } ∧ SetTR P w hp2 s.heap.objs.size L es ep t ∧ Got ks ks.length L ∧ (∀ b o, s.heap.get? b = some o → hp2.get? b = some o)) E) PySem.F.called_set.init.plain PySem.F.entry_set_init (check_set_init_1 tS ?_)) fun r₂ s₂ hr₂ => ?_
      · obtain ⟨ow, ew, cw, nw, dw⟩ := gl
        obtain ⟨wc, wd, wa, ws⟩ := ow
        simp only at cw dw
        subst cw; subst dw
        have hol' : (s.heap.push (newSetO w)).get? tu = some { cls := .type "tuple", dict := wd, data := .seq els nw, slots := ws } := Heap.get?_push_of_some _ ew
        have f1 := PySem.F.sub_tuple_set
        have f2 := PySem.F.sub_tuple_frozenset
        have f3 : (Value.type "tuple" == Value.type "dict") = false := by decide
        have tl1 : (s.heap.push (newSetO w)).IsTuple tu els := ⟨_, hol', rfl, nw, rfl⟩
        unfold Builtin.«set.__init__»; unfold noKeywords Builtin.Frozenset.updateFrom
        generalize hPI : pyIter = PI
        wp_walk
        subst hPI

        refine wpAny_pyIter_tuple tl1 (wpAny_bind (wpAny_runValue ?_))
        have lt1 : tu < s.heap.objs.size := Heap.lt_size ew
        have calm3 : A.in1.in1.in1.handled = none := by simp [calm0]
        have z1 : (s.heap.push (newSetO w)).objs.size = s.heap.objs.size + 1 := Heap.size_push ..
        have ne1 : tu ≠ (s.heap.push (newSetO w)).objs.size := by rw [z1]; exact Nat.ne_of_lt (Nat.lt_succ_of_lt lt1)
        have ne2 : s.heap.objs.size ∉ [(s.heap.push (newSetO w)).objs.size, tu] := by
          rw [z1]
          intro q
          rcases List.mem_cons.mp q with q | q
          · exact absurd q (Nat.ne_of_lt (Nat.lt_succ_self _))
          · exact absurd (List.mem_singleton.mp q) (Nat.ne_of_gt lt1)
        have at_ : ∀ (i : Nat) (v : Value), els[i]? = some v → ∃ p, ks[i]? = some p ∧ v = .ref p.1 := fun i v gv => by
          have q : els.toList[i]? = some v := by rw [Array.getElem?_toList]; exact gv
          rw [gits, List.getElem?_map] at q
          obtain ⟨p, e1, e2⟩ := Option.map_eq_some_iff.mp q
          exact ⟨p, e1, e2.symm⟩
        have gone : ∀ b, s.heap.objs.size ≤ b → s.heap.get? b = none := fun b hb => by
          cases q : s.heap.get? b with
          | none => rfl
          | some o => exact absurd (Heap.lt_size q) (Nat.not_lt.mpr hb)
        refine set_update_tups ((Walks.tuple calm3 _ tu ne1 els).toS) s.heap.objs.size ne2 ks isz hfew at_ s.heap hk (gone _ (Nat.le_refl _)) (fun b hb => gone b (by rw [List.mem_singleton.mp hb, z1]; exact Nat.le_succ _)) hu (els.size - 0) 0 _ (by omega) (Nat.zero_le _)
          ⟨⟨_, Heap.get?_push_size _ rfl, rfl, rfl⟩, (tl1.push _)⟩ (fun b o e => Heap.get?_push_of_some _ (Heap.get?_push_of_some _ e)) ⟨[], #[], 0, _, setTR_fresh (Heap.get?_push_of_some _ gS), Got.zero ks⟩ fun s' L es ep t hm hS' g' kp' => ?_
        obtain ⟨hp2, gg2, dr2, tk2, os2⟩ := s'
        obtain rfl : gg2 = s.gens := hm.gens
        obtain rfl : dr2 = s.drawn := hm.drawn
        obtain rfl : os2 = s.os := hm.os
        show wpAny _ _ _ _ _ _
        refine wpAny_pure ?_
        show wpAny _ _ (ret Value.none) _ _ _
        rw [isz] at g'
        exact wpAny_pure ⟨rfl, hp2, tk2, L, es, ep, t, rfl, hS', g', kp'⟩

      · cases r₂ with
        | error e => exact hr₂
        | ok fl₂ =>
          cases fl₂ with
          | ret r =>
            obtain ⟨rfl, hp2, tk, L, es, ep, t, rfl, hS', g', kp'⟩ := hr₂
            repeat (any_goals (first | assumption | wp_step))
            exact h _ _ _ _ _ _ hS' g' kp'
          | _ => exact hr₂.elim
    | _ => exact hr.elim
end
section
variable {Γ : Ctx} {X : Cx} {sc : Scope} {st : Str → Bool} {k : Nat} {W : WX} {F : Addr → Prop} {H : Hp}
/-- the tuples of a list, told apart -/
theorem its_rep {ds : List D} {ks : List (List Int)} {xs : List V} (h : Γ.RL F H ds xs) (e : itsOf ds = some ks) : ∃ L : List (Addr × List Int), xs = L.map (fun p => V.ref p.1) ∧ L.map (·.2) = ks ∧ ∀ p ∈ L, SqT Γ.K H p.1 (p.2.map V.int) ∧ p.2.length ≤ sizeLine := by
  induction ds generalizing ks xs with
  | nil =>
    simp only [RepL] at h
    simp only [itsOf] at e
    cases e; subst h
    exact ⟨[], rfl, rfl, fun p hp => absurd hp (by simp)⟩
  | cons d ds ih =>
    simp only [RepL] at h
    obtain ⟨v, vs, rfl, r1, r⟩ := h
    cases d with
    | tuple ys =>
      simp only [itsOf] at e
      obtain ⟨k, hk, e⟩ := Option.bind_eq_some_iff.mp e
      obtain ⟨ls, hl, rfl⟩ := Option.map_eq_some_iff.mp e
      obtain ⟨L, q1, q2, q3⟩ := ih r hl
      simp only [RepV] at r1
      obtain ⟨a, zs, rfl, l1, z, rz⟩ := r1
      rw [intsOf_eq hk] at rz
      rw [rep_ints rz] at l1
      have zk : k.length ≤ sizeLine := by rw [rep_ints rz, List.length_map] at z; exact z
      refine ⟨(a, k) :: L, by rw [List.map_cons, q1], by rw [List.map_cons, q2], fun p hp => ?_⟩
      rcases List.mem_cons.mp hp with (e | e)
      · subst e; exact ⟨l1, zk⟩
      · exact q3 p e
    | _ => simp [itsOf] at e
def tSortSet (Γ : Ctx) (te : TE) : TE := fun σ H Q => te σ H fun x H1 => ∃ F d p, (∀ a, F a → NTo H1 a) ∧ RepR Γ F H1 d x ∧ dSortSet d = some p ∧ ∀ v H', Alc Γ F H1 p v H' → Q v H'
theorem pe_sortSet {a : Expr} {ta : TE} {p p2 q pos : Pos} (g : Gd Γ X sc st k) (hh : Γ.hot = false) (hg : sc.names.lookup ("sorted" : Str) = some .globalImplicit) (hm : Γ.mg ("sorted" : Str) = none) (hg2 : sc.names.lookup ("set" : Str) = some .globalImplicit) (hm2 : Γ.mg ("set" : Str) = none) (ha : PE X a ta)
    (na : starEach [a] X.env = (false, eval a X.env) :: starEach [] X.env) (nb : starEach [.Call (.Name "set" p2) [a] [] q] X.env = (false, eval (.Call (.Name "set" p2) [a] [] q) X.env) :: starEach [] X.env) : PE X (.Call (.Name "sorted" p) [.Call (.Name "set" p2) [a] [] q] [] pos) (tSortSet Γ ta) := by
  have G1 : ∀ {x : Str}, sc.names.lookup x = some .globalImplicit → Gl X x := fun {x} h => by show X.env.scope.names.lookup x = _; rw [g.scp]; exact h
  refine ⟨fun pins s σ H Q I h => ?_⟩
  refine Call_ (ld_blt I (G1 hg) (by rw [g.mg]; exact hm) (show bootBuiltins ("sorted" : Str) = some (.builtin "sorted") by decide +kernel) ?_)
  refine PyProof.Rows.callWith_builtin1 (PyProof.Rows.args_cons ?_ nb) nb rfl
  refine Call_ (ld_blt I (G1 hg2) (by rw [g.mg]; exact hm2) PyProof.Rows.boot_set ?_)
  refine PyProof.Rows.callWith_type1 (PyProof.Rows.args_cons (thn (ha.run pins s σ H _ I h) fun v s1 ⟨x, H1, I1, r1, F, d, pp, tr, rd, hd, hQ⟩ => PyProof.Rows.args_nil ?_) na) na rfl
  have hun := g.room.un
  have hcalm := I1.ok.hd (g.calm hh)
  cases d with
  | list ds =>
    simp only [dSortSet] at hd
    split at hd
    · rename_i ks hks
      split at hd
      · rename_i hc
        cases hd
        obtain ⟨l, xs, rfl, l1, z, rl⟩ := rList rd
        obtain ⟨L, q1, q2, q3⟩ := its_rep rl hks
        rw [← g.K] at l1
        cases r1
        obtain ⟨its, rv, pl, hz⟩ := I1.list l1
        have hlen : L.length < 64 := by rw [← List.length_map (f := fun p : Addr × List Int => V.ref p.1), ← q1, ← rl.length]; exact hc.1
        refine call_set_tups (P := X.prog) (w := X.w) L hcalm pl.isList (by rw [q1] at rv; simpa using refs_of_vals rv) (fun p hp => I1.isT (by rw [g.K]; exact (q3 p hp).1)) hlen (by omega) fun h' tk M es ep t R gt kp => ?_
        refine PyProof.Rows.args_nil ?_; have I2 : Inv X pins σ H1 { s1 with heap := h', toks := tk } := I1.kept kp
        have subM : ∀ p ∈ M, p ∈ L := fun p hp => List.mem_of_mem_take (gt.sub p hp)
        have neM : ∀ p ∈ M, p.2 ≠ [] := fun p hp e => by
          have h1 : p.2 ∈ ks := by rw [← q2]; exact List.mem_map.mpr ⟨p, subM p hp, rfl⟩
          have := List.all_eq_true.mp hc.2 _ h1
          rw [e] at this
          simp at this
        refine sorted_tups (P := X.prog) (w := X.w) R (I2.ok.hd (g.calm hh)) neM (by omega) fun s' a' c L' k2 gg oo hp hget pL pw => ?_
        have hn : H1 a' = none := I2.hok.fresh hp
        have hfew : L'.length < 64 := by rw [pL.length_eq]; exact R.few
        have hl2 : (L'.map fun q => V.ref q.1).length ≤ sizeLine := by rw [List.length_map, sizeLine_eq]; omega
        have J : Inv X pins σ (upd H1 a' (.lst (L'.map fun q => V.ref q.1))) { s1 with heap := s'.heap, gens := s'.gens, drawn := s'.drawn, toks := s'.toks } :=
          Inv.call (s := { s1 with heap := h', toks := tk }) I2 (ch := []) (Un.laid k2 hp hn) (I2.hok.laid k2 hp ⟨hl2, _, c, vals_of_refs L', hget⟩) (by rw [gg]; exact I2.bare) (fun _ z => nomatch z)
        have e : s' = { s1 with heap := s'.heap, gens := s'.gens, drawn := s'.drawn, toks := s'.toks } := by
          cases s'
          cases s1
          cases oo
          rfl
        rw [e]
        refine ⟨.ref a', _, J, rfl, hQ _ _ ?_⟩
        -- the data
        have memM : ∀ p ∈ L', p ∈ L := fun p hp => subM p (pL.mem_iff.mp hp)
        have eD : L'.map (fun p => encT p.2) = sortD (dedupe ds) := by
          have dse : ds = ks.map encT := itsOf_eq hks
          refine sortD_of (fun a ha b hb h1 h2 => ?_) ?_ ?_
          · rw [dedupe_mem, dse] at ha hb
            exact anti_tups ks a ha b hb h1 h2
          · have nd1 : (L'.map fun p => encT p.2).Nodup := by
              have := (pL.map (·.2)).nodup_iff.mpr R.nd
              have e2 : (L'.map fun p => encT p.2) = (L'.map (·.2)).map encT := by rw [List.map_map]; rfl
              rw [e2]
              exact nodup_inj (fun _ _ h => encT_inj h) this
            refine (List.perm_ext_iff_of_nodup nd1 (dedupe_nodup ds)).mpr fun a => ?_
            rw [dedupe_mem, dse, ← q2, List.map_map]
            constructor
            · intro h
              obtain ⟨p, hp, rfl⟩ := List.mem_map.mp h
              exact List.mem_map.mpr ⟨p, memM p hp, rfl⟩
            · intro h
              obtain ⟨p, hp, rfl⟩ := List.mem_map.mp h
              have h3 := gt.all p (by rw [List.take_length]; exact hp)
              obtain ⟨p', hp', e'⟩ := List.mem_map.mp h3
              exact List.mem_map.mpr ⟨p', pL.mem_iff.mpr hp', by show encT p'.2 = encT p.2; rw [e']⟩
          · exact List.pairwise_map.mpr pw
        rw [← eD]
        refine .newList tr hn hl2 ?_
        have go : ∀ M : List (Addr × List Int), (∀ p ∈ M, p ∈ L) → Γ.RL F H1 (M.map fun p => encT p.2) (M.map fun q => V.ref q.1) := fun M => by
          induction M with
          | nil => intro _; exact RepL.nil
          | cons p M ih =>
            intro hM
            refine RepL.cons ?_ (ih fun q hq => hM q (List.mem_cons_of_mem _ hq))
            have hp := hM p List.mem_cons_self
            unfold encT
            simp only [RepV]
            refine ⟨p.1, _, rfl, (q3 p hp).1, by rw [List.length_map]; exact (q3 p hp).2, ?_⟩
            · have gi : ∀ k : List Int, RepL Γ.prog Γ.w Γ.K F H1 (k.map PyData.int) (k.map V.int) := fun k => by
                induction k with
                | nil => exact RepL.nil
                | cons i k ih => exact RepL.cons (by simp only [RepV]) ih
              exact gi p.2
        exact go L' memM
      · cases hd
    · cases hd
  | tuple ds =>
    simp only [dSortSet] at hd
    split at hd
    · rename_i ns hns
      split at hd
      · rename_i hc
        cases hd
        obtain ⟨l, xs, rfl, l1, z, rl⟩ := rTup rd
        rw [intsOf_eq hns] at rl
        rw [rep_ints rl, ← g.K] at l1
        have dse := intsOf_eq hns
        have hlen : ns.length < 64 := by rw [dse, List.length_map] at hc; exact hc
        cases r1
        obtain ⟨its, rv, pl, hz⟩ := I1.tuple l1
        refine call_set_tupI (P := X.prog) (w := X.w) ns hcalm (show s1.heap.IsTuple l its.toArray from pl) (by simpa using rv.ints) (by unfold scanBound; omega) fun h' tk c R hcn kp => ?_
        refine PyProof.Rows.args_nil ?_; have I2 : Inv X pins σ H1 { s1 with heap := h', toks := tk } := I1.kept kp
        refine sorted_set (P := X.prog) (w := X.w) R (I2.ok.hd (g.calm hh)) (by omega) fun s' a' out c2 ms k2 gg oo hp hget hints hpw hmem hln => ?_
        have hn : H1 a' = none := I2.hok.fresh hp
        have hl2 : (ms.map V.int).length ≤ sizeLine := by rw [List.length_map, hln, sizeLine_eq]; omega
        have J : Inv X pins σ (upd H1 a' (.lst (ms.map V.int))) { s1 with heap := s'.heap, gens := s'.gens, drawn := s'.drawn, toks := s'.toks } :=
          Inv.call (s := { s1 with heap := h', toks := tk }) I2 (ch := []) (Un.laid k2 hp hn) (I2.hok.laid k2 hp ⟨hl2, out.toList, c2, vals_of_ints hints, hget⟩) (by rw [gg]; exact I2.bare) (fun _ z => nomatch z)
        have e : s' = { s1 with heap := s'.heap, gens := s'.gens, drawn := s'.drawn, toks := s'.toks } := by
          cases s'
          cases s1
          cases oo
          rfl
        rw [e]
        refine ⟨.ref a', _, J, rfl, hQ _ _ ?_⟩
        have eD : ms.map PyData.int = sortD (dedupe ds) := by
          refine sortD_of (fun a ha b hb h1 h2 => ?_) ?_ ?_
          · rw [dedupe_mem, dse] at ha hb
            exact anti_ints ns a ha b hb h1 h2
          · have nd1 : (ms.map PyData.int).Nodup := nodup_inj (fun _ _ h => PyData.int.inj h) (hpw.imp fun h => Int.ne_of_lt h)
            refine (List.perm_ext_iff_of_nodup nd1 (dedupe_nodup ds)).mpr fun a => ?_
            rw [dedupe_mem, dse]
            constructor
            · intro h
              obtain ⟨i, hi, rfl⟩ := List.mem_map.mp h
              exact List.mem_map.mpr ⟨i, by have := (hmem i).mp hi; simpa using this, rfl⟩
            · intro h
              obtain ⟨i, hi, rfl⟩ := List.mem_map.mp h
              exact List.mem_map.mpr ⟨i, (hmem i).mpr (by simpa using hi), rfl⟩
          · refine List.pairwise_map.mpr (hpw.imp fun {i j} h => ?_)
            simp [PySem.W.dataLe, PySem.W.sortLe, PySem.W.keyToks, PyProof.Rows.lexLt, PyProof.Rows.itemOrd, PyProof.Rows.itemLt]
            omega
        rw [← eD]
        refine .newList tr hn hl2 ?_
        have gi : ∀ k : List Int, RepL Γ.prog Γ.w Γ.K F H1 (k.map PyData.int) (k.map V.int) := fun k => by
          induction k with
          | nil => exact RepL.nil
          | cons i k ih => exact RepL.cons (by simp only [RepV]) ih
        exact gi ms
      · cases hd
    · split at hd
      · rename_i ks hks
        split at hd
        · rename_i hc
          cases hd
          obtain ⟨l, xs, rfl, l1, z, rl⟩ := rTup rd
          obtain ⟨L, q1, q2, q3⟩ := its_rep rl hks
          rw [← g.K] at l1
          cases r1
          obtain ⟨its, rv, pl, hz⟩ := I1.tuple l1
          have hlen : L.length < 64 := by rw [← List.length_map (f := fun p : Addr × List Int => V.ref p.1), ← q1, ← rl.length]; exact hc.1
          refine call_set_tupT (P := X.prog) (w := X.w) L hcalm (show s1.heap.IsTuple l its.toArray from pl) (by rw [q1] at rv; simpa using refs_of_vals rv) (fun p hp => I1.isT (by rw [g.K]; exact (q3 p hp).1)) hlen (by omega) fun h' tk M es ep t R gt kp => ?_
          refine PyProof.Rows.args_nil ?_
          have I2 : Inv X pins σ H1 { s1 with heap := h', toks := tk } := I1.kept kp
          have subM : ∀ p ∈ M, p ∈ L := fun p hp => List.mem_of_mem_take (gt.sub p hp)
          have neM : ∀ p ∈ M, p.2 ≠ [] := fun p hp e => by
            have h1 : p.2 ∈ ks := by rw [← q2]; exact List.mem_map.mpr ⟨p, subM p hp, rfl⟩
            have := List.all_eq_true.mp hc.2 _ h1
            rw [e] at this
            simp at this
          refine sorted_tups (P := X.prog) (w := X.w) R (I2.ok.hd (g.calm hh)) neM (by omega) fun s' a' c L' k2 gg oo hp hget pL pw => ?_
          have hn : H1 a' = none := I2.hok.fresh hp
          have hfew : L'.length < 64 := by rw [pL.length_eq]; exact R.few
          have hl2 : (L'.map fun q => V.ref q.1).length ≤ sizeLine := by rw [List.length_map, sizeLine_eq]; omega
          have J : Inv X pins σ (upd H1 a' (.lst (L'.map fun q => V.ref q.1))) { s1 with heap := s'.heap, gens := s'.gens, drawn := s'.drawn, toks := s'.toks } :=
            Inv.call (s := { s1 with heap := h', toks := tk }) I2 (ch := []) (Un.laid k2 hp hn) (I2.hok.laid k2 hp ⟨hl2, _, c, vals_of_refs L', hget⟩) (by rw [gg]; exact I2.bare) (fun _ z => nomatch z)
          have e : s' = { s1 with heap := s'.heap, gens := s'.gens, drawn := s'.drawn, toks := s'.toks } := by
            cases s'
            cases s1
            cases oo
            rfl
          rw [e]
          refine ⟨.ref a', _, J, rfl, hQ _ _ ?_⟩
          -- the data
          have memM : ∀ p ∈ L', p ∈ L := fun p hp => subM p (pL.mem_iff.mp hp)
          have eD : L'.map (fun p => encT p.2) = sortD (dedupe ds) := by
            have dse : ds = ks.map encT := itsOf_eq hks
            refine sortD_of (fun a ha b hb h1 h2 => ?_) ?_ ?_
            · rw [dedupe_mem, dse] at ha hb
              exact anti_tups ks a ha b hb h1 h2
            · have nd1 : (L'.map fun p => encT p.2).Nodup := by
                have := (pL.map (·.2)).nodup_iff.mpr R.nd
                have e2 : (L'.map fun p => encT p.2) = (L'.map (·.2)).map encT := by rw [List.map_map]; rfl
                rw [e2]
                exact nodup_inj (fun _ _ h => encT_inj h) this
              refine (List.perm_ext_iff_of_nodup nd1 (dedupe_nodup ds)).mpr fun a => ?_
              rw [dedupe_mem, dse, ← q2, List.map_map]
              constructor
              · intro h
                obtain ⟨p, hp, rfl⟩ := List.mem_map.mp h
                exact List.mem_map.mpr ⟨p, memM p hp, rfl⟩
              · intro h
                obtain ⟨p, hp, rfl⟩ := List.mem_map.mp h
                have h3 := gt.all p (by rw [List.take_length]; exact hp)
                obtain ⟨p', hp', e'⟩ := List.mem_map.mp h3
                exact List.mem_map.mpr ⟨p', pL.mem_iff.mpr hp', by show encT p'.2 = encT p.2; rw [e']⟩
            · exact List.pairwise_map.mpr pw
          rw [← eD]
          refine .newList tr hn hl2 ?_
          have go : ∀ M : List (Addr × List Int), (∀ p ∈ M, p ∈ L) → Γ.RL F H1 (M.map fun p => encT p.2) (M.map fun q => V.ref q.1) := fun M => by
            induction M with
            | nil => intro _; exact RepL.nil
            | cons p M ih =>
              intro hM
              refine RepL.cons ?_ (ih fun q hq => hM q (List.mem_cons_of_mem _ hq))
              have hp := hM p List.mem_cons_self
              unfold encT
              simp only [RepV]
              refine ⟨p.1, _, rfl, (q3 p hp).1, by rw [List.length_map]; exact (q3 p hp).2, ?_⟩
              · have gi : ∀ k : List Int, RepL Γ.prog Γ.w Γ.K F H1 (k.map PyData.int) (k.map V.int) := fun k => by
                  induction k with
                  | nil => exact RepL.nil
                  | cons i k ih => exact RepL.cons (by simp only [RepV]) ih
                exact gi p.2
          exact go L' memM
        · cases hd
      · cases hd
  | _ => cases hd
theorem de_sortSet {a : Expr} {f : EvO} {p p2 q pos : Pos} (g : Gd Γ X sc st k) (hh : Γ.hot = false) (hg : sc.names.lookup ("sorted" : Str) = some .globalImplicit) (hm : Γ.mg ("sorted" : Str) = none) (hg2 : sc.names.lookup ("set" : Str) = some .globalImplicit) (hm2 : Γ.mg ("set" : Str) = none) (ha : PE X a (tO Γ W f))
    (na : starEach [a] X.env = (false, eval a X.env) :: starEach [] X.env) (nb : starEach [.Call (.Name "set" p2) [a] [] q] X.env = (false, eval (.Call (.Name "set" p2) [a] [] q) X.env) :: starEach [] X.env) : PE X (.Call (.Name "sorted" p) [.Call (.Name "set" p2) [a] [] q] [] pos) (tD Γ W (eUn dSortSet f)) := by
  refine pe_imp (pe_sortSet g hh hg hm hg2 hm2 ha na nb) fun σ H Q ⟨F, ρ, G, S, O⟩ => ⟨F, ρ, G, S, (Out.bind O).imp fun pp ρ1 F1 H1 k1 G1 S1 O1 x hx sx => ?_⟩
  cases hd : dSortSet pp.1 with
  | none => rw [hd] at O1; exact O1.elim
  | some r =>
    rw [hd] at O1
    refine ⟨F1, pp.1, r, G1.tr, S1.read hx sx, hd, fun v H2 A => ?_⟩
    obtain ⟨q1, q2, q3, q4⟩ := A.res G1 S1
    exact O1 F1 H2 q1 q2 q3 v q4
end
end Ow

namespace Ow
open PySem PyProof.Rows PySem.Spec L2 LamX

/-- a def's code object, as the head tells it -/
theorem fund_code {K : PySem.W.Frag} {x qual : Str} {params : Arguments} {body : List Stmt} {scope : Scope} {dvs : List V} {kws : List (Str × V)} {p : Str × Option Str} {fd : FuncData} (Fd : FunD K x qual params body scope dvs kws (He.fAd K p) fd) : fd.code = .ref (He.codeOf K p) := by
  obtain ⟨oc, od, dV, kV, doc, pm, an, cdv, ct, osl, rfl, lk, hcd, _, _⟩ := Fd.ex
  obtain ⟨c, rfl⟩ := He.codeIn_ref hcd
  rw [He.codeOf_eq lk rfl] <;> rfl
/-- name = [..], the name a cell: no swap -/
theorem sw_cell {Γ : Ctx} {X : Cx} {sc : Scope} {st : Str → Bool} {k : Nat} {elt : Expr} {gs : List Comprehension} {scope : Scope} {pos py : Pos} {y : Str} {l : Nat} (g : Gd Γ X sc st k) (hy : sc.names.lookup y = some .cell) : swapsWith (.ListComp elt gs scope pos) (some (.Name y py)) l X.env = pure false := by
  have ky : X.env.kindOf y = some .cell := by show X.env.scope.names.lookup y = _; rw [g.scp]; exact hy
  have e : (X.env.kindOf y == some .local) = false := by rw [ky]; rfl
  unfold swapsWith
  simp only [e, Bool.and_false, Bool.false_and]
/-- a def of which nothing is told -/
theorem FnAt.none {Γ : Ctx} {x : Str} {stm : Stmt} {fa : Addr} {fd : FuncData} {ps : List Str} {k : Nat} {gb : Bool} {modes : List Bool} (Fd : FunD Γ.K x x (defArgs stm) (defBody stm) (defScope stm) [] [] fa fd) (hm : Γ.mg x = some (.ref fa)) (hb : Binds Γ.K fd ps []) (hmo : modes.length = ps.length) : FnAt Γ gb k x ps modes (fun _ => Option.none) :=
  ⟨fa, fd, ⟨hmo, fun A outer s H args us vs Q E _ _ _ _ _ ⟨F, ds, r, _, _, _, h, _⟩ => by cases h⟩, hm, Fd.kp, hb⟩
theorem fnG_of {Γ : Ctx} {x : Str} {stm : Stmt} {fa : Addr} {fd : FuncData} {N ps : List Str} {k n : Nat} {gb : Bool} {modes : List Bool} {f : StF} {as : List Nat} (Fd : FunD Γ.K x x (defArgs stm) (defBody stm) (defScope stm) [] [] fa fd) (S : FnScope N ps (defScope stm)) (hn : N.length = n) (hmo : modes.length = ps.length)
    (hbody : ∀ (F0 : Addr → Prop) (H0 : Hp) (ino : Nat → Option Addr) (X : Cx) (W : WX), GdS (Γ.enter N F0 H0 ino gb) X (defScope stm) (stD (defScope stm)) k W → X.env.qual = x ++ ".<locals>." → X.env.code = fd.code → PSs X (defBody stm) (tS (Γ.enter N F0 H0 ino gb) W as f)) : FnG Γ gb (k + 1) fa fd ps modes (runF f n modes) := by
  subst hn
  exact FnG.of Fd S hmo hbody
/-- what is read of a thing that was told: a plain thing, as it is -/
def readD : D → Option D
  | .none => some .none
  | _ => Option.none
/-- the classes of errors, told apart -/
structure Kinds (Γ : Ctx) (top : Str) (cs : List Str) : Prop where
  top : ∃ C, Γ.mg top = some (.ref C) ∧ ∀ c ∈ cs, PySem.W.exmOne Γ.K (Γ.cls c) (.ref C) = some true
  ex : ∀ c ∈ cs, ∃ C, Γ.cls c = .ref C ∧ Γ.mg c = some (.ref C) ∧ ExcC Γ.K C
  kit : ∀ c ∈ cs, ∀ c' ∈ cs, PySem.W.kitOne Γ.K (Γ.cls c) (Γ.cls c') = some (decide (c = c'))
/-- the facts of the classes, asked of the written part -/
def excCB (K : PySem.W.Frag) (D : Addr) : Bool := He.eqO (PySem.W.findIn K (.ref D) "__getattribute__") (some (some (.builtin "BaseException.__getattribute__"))) && He.eqO (PySem.W.findIn K (.ref D) "__getattr__") (some none) && decide (PySem.W.subIn K (.ref D) (.type "BaseException") = some true) && PySem.W.hasDictIn K D &&
  He.eqO (PySem.W.findIn K (.ref D) "__class__") (some (some (.builtin "object.__class__"))) && He.eqO (PySem.W.specialIn K (.builtin "object.__class__") "__get__") (some (some (.builtin "getset_descriptor.__get__"))) && decide (PySem.W.takesIn K (.builtin "object.__class__") = some true) && decide (PySem.W.mroIn K D (.type "object") = some true)
theorem excCB_ok {K : PySem.W.Frag} {D : Addr} (h : excCB K D = true) : ExcC K D := by
  unfold excCB at h
  simp only [Bool.and_eq_true, decide_eq_true_eq, and_assoc] at h
  obtain ⟨h1, h2, h3, h4, h5, h6, h7, h8⟩ := h
  exact ⟨He.eqO_ok h1, He.eqO_ok h2, h3, h4, He.eqO_ok h5, He.eqO_ok h6, h7, h8⟩
def kindsB (top : Str) (cs : List Str) (K : PySem.W.Frag) : Bool := cs.all fun c => decide (PySem.W.exmOne K (.ref (He.ga K c)) (.ref (He.ga K top)) = some true) && excCB K (He.ga K c) && cs.all fun c' => decide (PySem.W.kitOne K (.ref (He.ga K c)) (.ref (He.ga K c')) = some (decide (c = c')))
theorem kinds_ok {Γ : Ctx} {top : Str} {cs : List Str} (h : kindsB top cs Γ.K = true) (hc : ∀ c, Γ.cls c = .ref (He.ga Γ.K c)) (ht : Γ.mg top = some (.ref (He.ga Γ.K top))) (hm : ∀ c ∈ cs, Γ.mg c = some (.ref (He.ga Γ.K c))) : Kinds Γ top cs := by
  have q : ∀ c ∈ cs, PySem.W.exmOne Γ.K (.ref (He.ga Γ.K c)) (.ref (He.ga Γ.K top)) = some true ∧ excCB Γ.K (He.ga Γ.K c) = true ∧ ∀ c' ∈ cs, PySem.W.kitOne Γ.K (.ref (He.ga Γ.K c)) (.ref (He.ga Γ.K c')) = some (decide (c = c')) := fun c hcs => by
    have z := List.all_eq_true.mp h c hcs
    simp only [Bool.and_eq_true, decide_eq_true_eq] at z
    refine ⟨z.1.1, z.1.2, fun c' h' => ?_⟩
    have y := List.all_eq_true.mp z.2 c' h'
    exact of_decide_eq_true y
  exact ⟨⟨_, ht, fun c hcs => by rw [hc]; exact (q c hcs).1⟩, fun c hcs => ⟨_, hc c, hm c hcs, excCB_ok (q c hcs).2.1⟩, fun c h1 c' h2 => by rw [hc, hc]; exact (q c h1).2.2 c' h2⟩
/-- told(lambda: body), wherever it stands -/
structure ToldAt (Γ : Ctx) (x : Str) (kr : Nat) (readD : D → Option D) (wordOf : Str → Option Str) : Prop where
  rule : ∀ {N : List Str} {F0 : Addr → Prop} {H0 : Hp} {ino : Nat → Option Addr} {gb : Bool} {X : Cx} {sc : Scope} {st : Str → Bool} {k kk : Nat} {W : WX} {f : EvE} {params : Arguments} {body : Expr} {scope : Scope} {p lpos pos : Pos} {c P : Addr}, GdT (Γ.enter N F0 H0 ino gb) X sc st k W → kk + 2 ≤ k → kr ≤ kk + 1 → sc.names.lookup x = some .globalImplicit →
    TabB Γ.base Γ.mg c P → X.env.code = .ref c → (P, X.env.qual ++ "<lambda>") ∈ Γ.T → (∀ p ∈ Γ.T, p.1 = P → p.2 = X.env.qual ++ "<lambda>") → LamS sc scope → defaultsOf params X.env = ([], []) →
    (∀ (q : Str) (cl : List (Str × Addr)) (pm cv ctv : Value), bindArgs (PySem.W.kla_fn "<lambda>" q params body scope cl pm cv ctv) ⟨[], []⟩ = pure []) →
    (∀ (F0 : Addr → Prop) (H0 : Hp) (ino : Nat → Option Addr) (X' : Cx) (W' : WX), GdT (Γ.enter N F0 H0 ino false) X' scope (fun _ => false) kk W' → PE X' body (tD (Γ.enter N F0 H0 ino false) W' f)) →
    PE X (.Call (.Name x p) [.Lambda params body scope lpos] [] pos) (tD (Γ.enter N F0 H0 ino gb) W (eTold readD wordOf f))
/-! ### the words of the told errors -/
def toldCs : List Str := ["BadSchema", "BadKind", "BadTable", "BadPaper", "BadState", "NotAgreeing", "OutOfRange"]
def toldWord (c : Str) : Option Str := [(("BadSchema" : Str), ("schema" : Str)), ("BadKind", "kind"), ("BadTable", "table"), ("BadPaper", "paper"), ("BadState", "state"), ("NotAgreeing", "agree"), ("OutOfRange", "range")].lookup c
def eW (x : Str) (b : Bool) : EvE := eTup [eCon (.str x), eIsX 1 b]
def toldH (c : Str) : StF := sSeq (sAsg 2 (eLst [eW "schema" (decide (c = "BadSchema")), eW "kind" (decide (c = "BadKind")), eW "table" (decide (c = "BadTable")), eW "paper" (decide (c = "BadPaper"))]))
  (sSeq (sAsg 2 (eBin dAdd (oVar 2) (oOf (eLst [eW "state" (decide (c = "BadState")), eW "agree" (decide (c = "NotAgreeing")), eW "range" (decide (c = "OutOfRange"))]))))
  (sSeq (sAsg 3 (eComp [4, 5] (iLst (oVar 2)) (.tup [.name 4, .name 5]) (tVal (eVar 5)) (eVar 4)))
  (sRet (eTup [eCon (.int 1), eIte (tVal (eBin dEq (oOf (eOps dLen [oVar 3])) (oOf (eCon (.int 1))))) (eBin dIx (oVar 3) (oOf (eCon (.int 0)))) (eCon (.str "wrong"))]))))
theorem word_cases {c w : Str} (h : toldWord c = some w) : (c, w) ∈ ([(("BadSchema" : Str), ("schema" : Str)), ("BadKind", "kind"), ("BadTable", "table"), ("BadPaper", "paper"), ("BadState", "state"), ("NotAgreeing", "agree"), ("OutOfRange", "range")] : List (Str × Str)) := PySem.mem_of_lookup h
theorem word_in {c w : Str} (h : toldWord c = some w) : c ∈ toldCs := by
  have q := word_cases h
  simp only [List.mem_cons, Prod.mk.injEq, List.not_mem_nil, or_false] at q
  unfold toldCs
  simp only [List.mem_cons, List.not_mem_nil, or_false]
  rcases q with ⟨rfl, _⟩ | ⟨rfl, _⟩ | ⟨rfl, _⟩ | ⟨rfl, _⟩ | ⟨rfl, _⟩ | ⟨rfl, _⟩ | ⟨rfl, _⟩ <;> simp
theorem toldH_res {c w : Str} (h : toldWord c = some w) : ∃ ρ', toldH c ((List.replicate 6 Slot.non).set 1 .exn) = .ret (.tuple [.int 1, .str w]) false ρ' := by
  have q := word_cases h
  simp only [List.mem_cons, Prod.mk.injEq, List.not_mem_nil, or_false] at q
  rcases q with ⟨rfl, rfl⟩ | ⟨rfl, rfl⟩ | ⟨rfl, rfl⟩ | ⟨rfl, rfl⟩ | ⟨rfl, rfl⟩ | ⟨rfl, rfl⟩ | ⟨rfl, rfl⟩ <;> exact ⟨_, rfl⟩
end Ow

namespace Ow
open PySem PySem.Spec PyProof.Rows
/-! ### what the combinators answer: ends that are wanted -/
def Sat {α : Type} (r : Res α) (P : α → AE → Prop) : Prop := match r with
  | .ok a ρ => P a ρ
  | _ => False
structure Wp where
  nx : AE → Prop
  rt : D → Bool → AE → Prop
  ex : Str → Prop
def Wp.next (P : AE → Prop) (w : Wp) : Wp := ⟨P, w.rt, w.ex⟩
def SSat (r : SR) (w : Wp) : Prop := match r with
  | .nx ρ => w.nx ρ
  | .ret d fl ρ => w.rt d fl ρ
  | .exc c => w.ex c
  | _ => False
def FSat (r : Option FR) (R : D → Bool → List D → Prop) (E : Str → Prop) : Prop := match r with
  | some (.ret d fl outs) => R d fl outs
  | some (.exc c) => E c
  | none => False
section
variable {α β : Type} {P : α → AE → Prop} {w : Wp} {ρ : AE}
theorem Sat.bind {r : Res α} {f : α → AE → Res β} {P : β → AE → Prop} (h : Sat r fun a ρ' => Sat (f a ρ') P) : Sat (r.bind f) P := by
  cases r <;> first | exact h | exact h.elim
theorem Sat.sb {r : Res α} {f : α → AE → SR} (h : Sat r fun a ρ' => SSat (f a ρ') w) : SSat (r.sb f) w := by
  cases r <;> first | exact h | exact h.elim
theorem Sat.imp {r : Res α} {Q : α → AE → Prop} (h : Sat r P) (q : ∀ a ρ', P a ρ' → Q a ρ') : Sat r Q := by
  cases r <;> first | exact q _ _ h | exact h.elim
theorem Sat.nox {r : Res α} (h : Sat r P) : Sat (Ow.nox r) P := by
  cases r <;> first | exact h | exact h.elim
theorem Sat.get {r : Res α} (h : Sat r P) : ∃ a ρ', r = .ok a ρ' ∧ P a ρ' := by
  cases r <;> first | exact ⟨_, _, rfl, h⟩ | exact h.elim
theorem Sat.of {r : Res α} {a : α} {ρ' : AE} (e : r = .ok a ρ') (h : P a ρ') : Sat r P := by subst e; exact h
theorem SSat.imp {r : SR} {w' : Wp} (h : SSat r w) (n : ∀ ρ', w.nx ρ' → w'.nx ρ') (t : ∀ d fl ρ', w.rt d fl ρ' → w'.rt d fl ρ') (x : ∀ c, w.ex c → w'.ex c) : SSat r w' := by
  cases r <;> first | exact n _ h | exact t _ _ _ h | exact x _ h | exact h.elim
theorem FSat.imp {r : Option FR} {R R' : D → Bool → List D → Prop} {E E' : Str → Prop} (h : FSat r R E) (t : ∀ d fl os, R d fl os → R' d fl os) (x : ∀ c, E c → E' c) : FSat r R' E' := by
  cases r with
  | none => exact h.elim
  | some r => cases r <;> first | exact t _ _ _ h | exact x _ h
theorem ssat_seq {f g : StF} (h : SSat (f ρ) (w.next fun ρ' => SSat (g ρ') w)) : SSat (sSeq f g ρ) w := by
  unfold sSeq
  revert h
  cases f ρ <;> intro h <;> first | exact h | exact h.elim
theorem ssat_if {t : EvT} {f g : StF} (h : Sat (t ρ) fun b ρ' => SSat (if b then f ρ' else g ρ') w) : SSat (sIf t f g ρ) w := Sat.sb h
theorem ssat_ret {f : EvE} (h : Sat (f ρ) fun p ρ' => w.rt p.1 p.2 ρ') : SSat (sRet f ρ) w := Sat.sb h
theorem ssat_asg {i : Nat} {f : EvE} (h : Sat (f ρ) fun p ρ' => isNoIno ρ'[i]? = true ∧ w.nx (ρ'.set i (slotOf p))) : SSat (sAsg i f ρ) w := Sat.sb (h.imp fun p ρ' q => by rw [if_pos q.1]; exact q.2)
theorem fsat_run {f : StF} {n : Nat} {modes : List Bool} {ds : List D} {R : D → Bool → List D → Prop} {E : Str → Prop} (hl : ds.length = modes.length)
    (h : SSat (f (startA n modes ds)) ⟨fun ρ => inoStill modes ρ = true ∧ R .none false (outsOf modes ρ), fun d fl ρ => inoStill modes ρ = true ∧ R d fl (outsOf modes ρ), E⟩) : FSat (runF f n modes ds) R E := by
  unfold runF
  rw [if_pos hl]
  revert h
  generalize f (startA n modes ds) = r
  intro h
  cases r with
  | nx ρ => show FSat (if _ then _ else _) _ _; rw [if_pos h.1]; exact h.2
  | ret d fl ρ => show FSat (if _ then _ else _) _ _; rw [if_pos h.1]; exact h.2
  | exc c => exact h
  | _ => exact h.elim
/-! loops -/
theorem ssat_for {bs : Src} {tg : Tg} {f : StF} (inv : List D → AE → Prop) (step : ∀ d ds ρ, inv (d :: ds) ρ → stills bs ρ = true ∧ ∃ ρ1, bindT tg d ρ = some ρ1 ∧ SSat (f ρ1) (w.next (inv ds))) (last : ∀ ρ, inv [] ρ → stills bs ρ = true ∧ w.nx ρ) :
    ∀ (ds : List D) (ρ : AE), inv ds ρ → SSat (forGo bs tg f ds ρ) w
  | [], ρ, h => by
    unfold forGo
    rw [if_pos (last ρ h).1]
    exact (last ρ h).2
  | d :: ds, ρ, h => by
    obtain ⟨h1, ρ1, e, h2⟩ := step d ds ρ h
    unfold forGo
    rw [if_pos h1, e]
    show SSat (match f ρ1 with | .nx ρ2 => _ | .ct ρ2 => _ | .brk ρ2 => _ | r => r) w
    revert h2
    cases f ρ1 with
    | nx ρ2 => exact fun h2 => ssat_for inv step last ds ρ2 h2
    | _ => intro h2; first | exact h2 | exact h2.elim
theorem ssat_wh {t : EvT} {f : StF} (inv : Nat → AE → Prop) (step : ∀ n ρ, inv n ρ → Sat (t ρ) fun b ρ1 => if b then SSat (f ρ1) (w.next fun ρ2 => ∃ m, m < n ∧ inv m ρ2) else w.nx ρ1) :
    ∀ (k n : Nat) (ρ : AE), n < k → inv n ρ → SSat (whGo t f k ρ) w
  | 0, n, ρ, hk, h => absurd hk (Nat.not_lt_zero _)
  | k + 1, n, ρ, hk, h => by
    unfold whGo
    refine Sat.sb ((step n ρ h).imp fun b ρ1 h1 => ?_)
    cases b with
    | false => exact h1
    | true =>
      replace h1 : SSat (f ρ1) (w.next fun ρ2 => ∃ m, m < n ∧ inv m ρ2) := h1
      rw [if_pos rfl]
      revert h1
      cases f ρ1 with
      | nx ρ2 => exact fun ⟨m, hm, h2⟩ => ssat_wh inv step k m ρ2 (by omega) h2
      | _ => intro h1; first | exact h1 | exact h1.elim
theorem ssat_while {t : EvT} {f : StF} (inv : Nat → AE → Prop) (n : Nat) (hn : n < 2 ^ 40) (h : inv n ρ) (step : ∀ n ρ, inv n ρ → Sat (t ρ) fun b ρ1 => if b then SSat (f ρ1) (w.next fun ρ2 => ∃ m, m < n ∧ inv m ρ2) else w.nx ρ1) : SSat (sWhile t f ρ) w :=
  ssat_wh inv step lid n ρ hn h
theorem sat_comp {own : List Nat} {tg : Tg} {tt : EvT} {el : EvE} {bs : Src} {P : List D → AE → Prop} (inv : List D → AE → List D → Prop)
    (step : ∀ d ds ρ acc, inv (d :: ds) ρ acc → stills bs ρ = true ∧ ∃ ρ1, bindT tg d ρ = some ρ1 ∧ Sat (tt ρ1) fun b ρ2 => if b then Sat (el ρ2) fun p ρ3 => inv ds (wipeA own ρ3) (acc ++ [p.1]) else inv ds (wipeA own ρ2) acc)
    (last : ∀ ρ acc, inv [] ρ acc → stills bs ρ = true ∧ P acc ρ) : ∀ (ds : List D) (ρ : AE) (acc : List D), inv ds ρ acc → Sat (compGo own tg tt el bs ds ρ acc) P
  | [], ρ, acc, h => by
    unfold compGo
    rw [if_pos (last ρ acc h).1]
    exact (last ρ acc h).2
  | d :: ds, ρ, acc, h => by
    obtain ⟨h1, ρ1, e, h2⟩ := step d ds ρ acc h
    unfold compGo
    rw [if_pos h1, e]
    refine Sat.bind (h2.nox.imp fun b ρ2 h3 => ?_)
    cases b with
    | true =>
      rw [if_pos rfl]
      exact Sat.bind ((Sat.nox h3).imp fun p ρ3 h4 => sat_comp inv step last ds _ _ h4)
    | false => exact sat_comp inv step last ds _ _ h3
/-! calls -/
theorem putOuts_one {i : Nat} {bx d : D} {outs : List D} {s : Slot} (hs : ρ[i]? = some s) : putOuts [(bx, some i), (d, none)] outs ρ = ρ.set i (s.re (outs.getD 0 .none)) := by
  apply List.ext_getElem?
  intro j
  unfold putOuts
  rw [List.getElem?_mapIdx]
  have hp : posOf [(bx, some i), (d, none)] j = if i = j then some 0 else none := by
    unfold posOf
    by_cases e : i = j
    · subst e; simp [List.findIdx?_cons]
    · simp [List.findIdx?_cons, e]
  rw [hp]
  by_cases e : i = j
  · subst e
    have hl : i < ρ.length := (List.getElem?_eq_some_iff.mp hs).1
    have hg : ρ[i] = s := by
      have := List.getElem?_eq_getElem hl
      rw [hs] at this; exact (Option.some.inj this).symm
    simp [hl, hg]
  · simp only [if_neg e, Option.map_id', List.getElem?_set_ne e]
theorem sat_call2 {sem : Fun} {i : Nat} {f : EvE} {P : D × Bool → AE → Prop} (h : (slotD ρ[i]?).isSome = true) (hf : Sat (f ρ) fun p ρ1 => ∃ s bx, ρ1[i]? = some s ∧ slotD (some s) = some bx ∧ FSat (sem [bx, p.1]) (fun d fl outs => P (d, fl) (ρ1.set i (s.re (outs.getD 0 .none)))) fun _ => False) :
    Sat (eCall sem [.ref i, .val f] ρ) P := by
  unfold eCall
  obtain ⟨b0, e0⟩ := Option.isSome_iff_exists.mp h
  refine Sat.bind ?_
  simp only [evArgs, e0]
  refine Sat.bind (Sat.bind (hf.imp fun p ρ1 ⟨s, bx, e1, e2, h2⟩ => ?_))
  refine Sat.bind ?_
  show Sat (if _ then _ else _) _
  have hp : refsOk [(b0, some i), (p.1, none)] ρ1 = true := by
    simp [refsOk, List.range_succ, posOf, List.findIdx?_cons, e1, e2]
  rw [if_pos hp]
  have hn : nowD [(b0, some i), (p.1, none)] ρ1 = [bx, p.1] := by
    simp [nowD, e1, e2]
  rw [hn]
  revert h2
  cases sem [bx, p.1] with
  | none => exact fun h => h.elim
  | some r => cases r with
    | exc c => exact fun h => h.elim
    | ret d fl outs =>
      intro h
      show P (d, fl) (putOuts [(b0, some i), (p.1, none)] outs ρ1)
      rw [putOuts_one (bx := b0) (d := p.1) e1]
      exact h
theorem evArgs_val {f : EvE} {r : List EvA} {P : List (D × Option Nat) → AE → Prop} (h : Sat (f ρ) fun p ρ1 => Sat (evArgs r ρ1) fun ps ρ2 => P ((p.1, none) :: ps) ρ2) : Sat (evArgs (.val f :: r) ρ) P := by
  unfold evArgs
  exact Sat.bind (h.imp fun p ρ1 h1 => Sat.bind h1)
theorem putOuts_none {ps : List (D × Option Nat)} {outs : List D} (h : ∀ p ∈ ps, p.2 = none) : putOuts ps outs ρ = ρ := by
  apply List.ext_getElem?
  intro j
  unfold putOuts
  rw [List.getElem?_mapIdx]
  have hp : posOf ps j = none := by
    unfold posOf
    rw [List.findIdx?_eq_none_iff]
    intro p hp
    rw [h p hp]; rfl
  rw [hp]
  simp
theorem sat_callV {sem : Fun} {as : List EvA} {P : D × Bool → AE → Prop} (h : Sat (evArgs as ρ) fun ps ρ1 => (∀ p ∈ ps, p.2 = none) ∧ FSat (sem (ps.map (·.1))) (fun d fl _ => P (d, fl) ρ1) fun _ => False) : Sat (eCall sem as ρ) P := by
  unfold eCall
  refine Sat.bind (h.imp fun ps ρ1 ⟨h1, h2⟩ => ?_)
  have hp : refsOk ps ρ1 = true := by
    unfold refsOk
    rw [List.all_eq_true]
    intro j hj
    have hj : j < ps.length := List.mem_range.mp hj
    have : ps[j]? = some ps[j] := List.getElem?_eq_getElem hj
    rw [this]
    have e := h1 ps[j] (List.getElem_mem hj)
    revert e
    cases ps[j] with
    | mk a b => intro e; cases e; rfl
  rw [if_pos hp]
  have hn : nowD ps ρ1 = ps.map (·.1) := by
    unfold nowD
    apply List.map_congr_left; intro p hp
    rw [h1 p hp]
  rw [hn]
  revert h2
  cases sem (ps.map (·.1)) with
  | none => exact fun h => h.elim
  | some r => cases r with
    | exc c => exact fun h => h.elim
    | ret d fl outs => intro h; show P (d, fl) (putOuts ps outs ρ1); rw [putOuts_none h1]; exact h
end
end Ow

namespace Hd
open PySem PyProof.Rows PySem.Spec L2
def top (i : Nat) : Stmt := PySem.Challenge.pw_oncewhole_k01_schemas_checked.main.body.getD i (.Pass ⟨0, 0, 0, 0⟩)
abbrev s_is_rising : Stmt := top 14
abbrev s_are_columns : Stmt := top 15
abbrev s_are_edges : Stmt := top 16
abbrev s_is_schema : Stmt := top 17
abbrev s_how_many : Stmt := top 18
abbrev s_check_schema : Stmt := top 19
abbrev s__law_read : Stmt := top 21
abbrev s__law_cell : Stmt := top 22
abbrev s__law_stream : Stmt := top 23
abbrev s__law_draw : Stmt := top 24
abbrev s__law_told : Stmt := top 25
abbrev s__law_ordered : Stmt := top 26
abbrev s__law_edges : Stmt := top 27
abbrev s__law_schema : Stmt := top 28
abbrev s__law_is_schema : Stmt := top 29
abbrev s__law_spoilt : Stmt := top 30
abbrev s_law : Stmt := top 31
end Hd
namespace Ow
open PySem PyProof.Rows PySem.Spec L2 LamX
def bnames : List Str := ["abs", "all", "any", "int", "isinstance", "len", "list", "min", "range", "repr", "set", "sorted", "str", "tuple"]
abbrev Bare (Γ : Ctx) : Prop := ∀ x : Str, x ∈ bnames → Γ.mg x = none
structure Ints (Γ : Ctx) : Prop where
  c_MOST_COLUMNS : ∃ t, Γ.mg "MOST_COLUMNS" = some (.int 9 t)
  c_MOST_VALUES : ∃ t, Γ.mg "MOST_VALUES" = some (.int 4 t)
  c_MOST_ROWS : ∃ t, Γ.mg "MOST_ROWS" = some (.int 512 t)
  c_MOST_EDGES : ∃ t, Γ.mg "MOST_EDGES" = some (.int 10 t)
structure Errs (Γ : Ctx) : Prop where
  r_WholeError : ErrAt Γ "WholeError"
  r_BadSchema : ErrAt Γ "BadSchema"
  r_BadKind : ErrAt Γ "BadKind"
  r_BadTable : ErrAt Γ "BadTable"
  r_BadPaper : ErrAt Γ "BadPaper"
  r_BadState : ErrAt Γ "BadState"
  r_NotAgreeing : ErrAt Γ "NotAgreeing"
  r_OutOfRange : ErrAt Γ "OutOfRange"
def _law_draw_F : StF := (sSeq (sIf (tVal (eBin dGt (oOf (eBin dIx (oVar 0) (oOf (eCon (.int 0))))) (oOf (eCon (.int 0))))) (sSeq (sAsg 2 (eBin dMod (oOf (eBin dIx (oVar 0) (oOf (eCon (.int 0))))) (oVar 1))) (sSeq (sSub 0 (oOf (eCon (.int 0))) (eBin dDiv (oOf (eBin dIx (oVar 0) (oOf (eCon (.int 0))))) (oVar 1))) (sRet (eOps dInt [(oVar 2)])))) sNx) (sSeq (sSub 0 (oOf (eCon (.int 1))) (eBin dMod (oOf (eOps dInt [(oOf (eBin dAdd (oOf (eBin dMul (oOf (eBin dIx (oVar 0) (oOf (eCon (.int 1))))) (oOf (eCon (.int 48271))))) (oOf (eCon (.int 12345)))))])) (oOf (eCon (.int 2147483647))))) (sRet (eBin dMod (oOf (eOps dInt [(oOf (eBin dDiv (oOf (eBin dIx (oVar 0) (oOf (eCon (.int 1))))) (oOf (eCon (.int 64)))))])) (oVar 1)))))
def _law_draw_S : Fun := runF _law_draw_F 3 [true, false]
theorem f__law_draw {Γ : Ctx} (D0 : ∃ fd, FunD Γ.K "_law_draw" "_law_draw" (defArgs Hd.s__law_draw) (defBody Hd.s__law_draw) (defScope Hd.s__law_draw) [] [] (He.fAd Γ.K ("_law_draw", none)) fd) (m0 : Γ.mg "_law_draw" = some (.ref (He.fAd Γ.K ("_law_draw", none)))) (B : Bare Γ) : FnAt Γ false 1 "_law_draw" ["box", "many"] [true, false] _law_draw_S := by
  obtain ⟨fd, Fd⟩ := D0
  refine fnAt_of (k := 0) (N := ["box", "many", "told"]) Fd ⟨by kernel_rfl, by kernel_rfl, by kernel_rfl, by decide +kernel, by decide +kernel, by decide +kernel, by decide +kernel⟩ m0 (FunD.bindsN Fd fun _ _ _ _ _ _ us hl => match us, hl with | [_, _], _ => rfl) rfl rfl (as := [0, 1, 2]) fun F0 H0 ino X W g hq hc => ?_
  unfold _law_draw_F
  exact (dss_cons (ds_if (dt_cmp (o_gt g.toGdT.toGd) op2_of (do_of (de_ix (o_ix g.toGdT.toGd) op2_of (do_var g.toGdT.toGd rfl (.inl (by kernel_rfl)) (by decide) (by decide)) (do_of de_int) (fun _ _ => rfl))) (do_of de_int) rfl) (dss_cons (ds_asg g.toGdT.toGd rfl (by kernel_rfl) (by decide) (de_binop (o_mod) op2_of (do_of (de_ix (o_ix g.toGdT.toGd) op2_of (do_var g.toGdT.toGd rfl (.inl (by kernel_rfl)) (by decide) (by decide)) (do_of de_int) (fun _ _ => rfl))) (do_var g.toGdT.toGd rfl (.inl (by kernel_rfl)) (by decide) (by decide))) rfl) (dss_cons (ds_sub (de_binop (o_div) op2_of (do_of (de_ix (o_ix g.toGdT.toGd) op2_of (do_var g.toGdT.toGd rfl (.inl (by kernel_rfl)) (by decide) (by decide)) (do_of de_int) (fun _ _ => rfl))) (do_var g.toGdT.toGd rfl (.inl (by kernel_rfl)) (by decide) (by decide))) (dg_sub g.toGdT.toGd rfl (.inl (by kernel_rfl)) (by decide) (by decide) (do_of de_int) (fun _ => rfl)) rfl rfl rfl) (dss_one (ds_ret (de_bty g.toGdT.toGd (c_int) (by kernel_rfl) (B "int" (by decide)) (by decide +kernel) (da_cons (do_var g.toGdT.toGd rfl (.inl (by kernel_rfl)) (by decide) (by decide)) da_nil rfl) (by decide) (by decide) rfl rfl))))) dss_nil) (dss_cons (ds_sub (de_binop (o_mod) op2_of (do_of (de_bty g.toGdT.toGd (c_int) (by kernel_rfl) (B "int" (by decide)) (by decide +kernel) (da_cons (do_of (de_binop (o_add g.toGdT.toGd) op2_of (do_of (de_binop (o_mul g.toGdT.toGd) op2_of (do_of (de_ix (o_ix g.toGdT.toGd) op2_of (do_var g.toGdT.toGd rfl (.inl (by kernel_rfl)) (by decide) (by decide)) (do_of de_int) (fun _ _ => rfl))) (do_of de_int))) (do_of de_int))) da_nil rfl) (by decide) (by decide) rfl rfl)) (do_of de_int)) (dg_sub g.toGdT.toGd rfl (.inl (by kernel_rfl)) (by decide) (by decide) (do_of de_int) (fun _ => rfl)) rfl rfl rfl) (dss_one (ds_ret (de_binop (o_mod) op2_of (do_of (de_bty g.toGdT.toGd (c_int) (by kernel_rfl) (B "int" (by decide)) (by decide +kernel) (da_cons (do_of (de_binop (o_div) op2_of (do_of (de_ix (o_ix g.toGdT.toGd) op2_of (do_var g.toGdT.toGd rfl (.inl (by kernel_rfl)) (by decide) (by decide)) (do_of de_int) (fun _ _ => rfl))) (do_of de_int))) da_nil rfl) (by decide) (by decide) rfl rfl)) (do_var g.toGdT.toGd rfl (.inl (by kernel_rfl)) (by decide) (by decide)))))))
def _law_is_schema_F : StF := (sSeq (sIf (tOr2 (tNot1 (tVal (eUn (dIsi "tuple") (oVar 0)))) (tOr2 (tVal (eBin dNe (oOf (eOps dLen [(oVar 0)])) (oOf (eCon (.int 2))))) (tOr2 (tNot1 (tVal (eUn (dIsi "tuple") (oOf (eBin dIx (oVar 0) (oOf (eCon (.int 0)))))))) (tNot1 (tVal (eUn (dIsi "tuple") (oOf (eBin dIx (oVar 0) (oOf (eCon (.int 1))))))))))) (sRet (eCon (.bool false))) sNx) (sSeq (sAsgT (.tup [(.name 1), (.name 2)]) (eVar 0)) (sSeq (sIf (tOr2 (tNot1 (tVal (eChain dLe dLe (oOf (eCon (.int 1))) (oOf (eOps dLen [(oVar 1)])) (oOf (eCon (.int 9)))))) (tOr2 (tNot1 (tVal (eChain dLe dLe (oOf (eCon (.int 1))) (oOf (eOps dLen [(oVar 2)])) (oOf (eCon (.int 10)))))) (tVal (eBin dGt (oOf (eOps dLen [(oOf (eComp [3] (iSeq (oVar 1)) (.name 3) (tOr2 (tNot1 (tVal (eUn (dIsi "int") (oVar 3)))) (tNot1 (tVal (eChain dLe dLe (oOf (eCon (.int 1))) (oVar 3) (oOf (eCon (.int 4))))))) (eVar 3)))])) (oOf (eCon (.int 0))))))) (sRet (eCon (.bool false))) sNx) (sSeq (sAsg 4 (eCon (.int 1))) (sSeq (sFor [0, 1, 2, 3, 4, 5, 7] (iSeq (oVar 1)) (.name 3) (sAsg 4 (eBin dMul (oVar 4) (oVar 3)))) (sSeq (sFor [0, 1, 2, 3, 4, 5, 7] (iSeq (oVar 2)) (.name 5) (sSeq (sIf (tOr2 (tNot1 (tVal (eUn (dIsi "tuple") (oVar 5)))) (tOr2 (tVal (eBin dEq (oOf (eOps dLen [(oVar 5)])) (oOf (eCon (.int 0))))) (tVal (eBin dGt (oOf (eOps dLen [(oOf (eComp [6] (iSeq (oVar 5)) (.name 6) (tOr2 (tNot1 (tVal (eUn (dIsi "int") (oVar 6)))) (tNot1 (tVal (eChain dLe dLt (oOf (eCon (.int 0))) (oVar 6) (oOf (eOps dLen [(oVar 1)])))))) (eVar 6)))])) (oOf (eCon (.int 0))))))) (sRet (eCon (.bool false))) sNx) (sIf (tVal (eBin dNe (oOf (eUn dSortSet (oVar 5))) (oOf (eOps dList [(oVar 5)])))) (sRet (eCon (.bool false))) sNx))) (sSeq (sAsg 7 (eComp [6] (iRange1 (oOf (eOps dLen [(oVar 1)]))) (.name 6) (tVal (eBin dEq (oOf (eOps dLen [(oOf (eComp [5] (iSeq (oVar 2)) (.name 5) (tVal (eBin dIn (oVar 6) (oVar 5))) (eCon (.int 1))))])) (oOf (eCon (.int 0))))) (eVar 6))) (sRet (eAnd2 (eBin dLe (oVar 4) (oOf (eCon (.int 512)))) (eAnd2 (eBin dEq (oOf (eUn dSortSet (oVar 2))) (oOf (eOps dList [(oVar 2)]))) (eBin dEq (oOf (eOps dLen [(oVar 7)])) (oOf (eCon (.int 0))))))))))))))
def _law_is_schema_S : Fun := runF _law_is_schema_F 8 [false]
theorem f__law_is_schema {Γ : Ctx} (D0 : ∃ fd, FunD Γ.K "_law_is_schema" "_law_is_schema" (defArgs Hd.s__law_is_schema) (defBody Hd.s__law_is_schema) (defScope Hd.s__law_is_schema) [] [] (He.fAd Γ.K ("_law_is_schema", none)) fd) (m0 : Γ.mg "_law_is_schema" = some (.ref (He.fAd Γ.K ("_law_is_schema", none)))) (B : Bare Γ) : FnAt Γ false 1 "_law_is_schema" ["x"] [false] _law_is_schema_S := by
  obtain ⟨fd, Fd⟩ := D0
  refine fnAt_of (k := 0) (N := ["x", "values", "edges", "v", "size", "edge", "c", "lone"]) Fd ⟨by kernel_rfl, by kernel_rfl, by kernel_rfl, by decide +kernel, by decide +kernel, by decide +kernel, by decide +kernel⟩ m0 (FunD.bindsN Fd fun _ _ _ _ _ _ us hl => match us, hl with | [_], _ => rfl) rfl rfl (as := [0, 1, 2, 3, 4, 5, 7]) fun F0 H0 ino X W g hq hc => ?_
  unfold _law_is_schema_F
  exact (dss_cons (ds_if (dw_or (dt_not (dt_val (de_isi g.toGdT.toGd (by kernel_rfl) (B "isinstance" (by decide)) (by kernel_rfl) (B "tuple" (by decide)) (by decide +kernel) (by decide) (by decide) (do_var g.toGdT.toGd rfl (.inl (by kernel_rfl)) (by decide) (by decide)) rfl rfl rfl) (fun _ => rfl))) (dw_or (dt_cmp (o_ne g.toGdT.toGd) op2_of (do_of (de_blt g.toGdT.toGd (c_len g.toGdT.toGd) (by kernel_rfl) (B "len" (by decide)) (by decide +kernel) (da_cons (do_var g.toGdT.toGd rfl (.inl (by kernel_rfl)) (by decide) (by decide)) da_nil rfl) (by decide) (by decide) rfl rfl)) (do_of de_int) rfl) (dw_or (dt_not (dt_val (de_isi g.toGdT.toGd (by kernel_rfl) (B "isinstance" (by decide)) (by kernel_rfl) (B "tuple" (by decide)) (by decide +kernel) (by decide) (by decide) (do_of (de_ix (o_ix g.toGdT.toGd) op2_of (do_var g.toGdT.toGd rfl (.inl (by kernel_rfl)) (by decide) (by decide)) (do_of de_int) (fun _ _ => rfl))) rfl rfl rfl) (fun _ => rfl))) (dw_or1 (dt_not (dt_val (de_isi g.toGdT.toGd (by kernel_rfl) (B "isinstance" (by decide)) (by kernel_rfl) (B "tuple" (by decide)) (by decide +kernel) (by decide) (by decide) (do_of (de_ix (o_ix g.toGdT.toGd) op2_of (do_var g.toGdT.toGd rfl (.inl (by kernel_rfl)) (by decide) (by decide)) (do_of de_int) (fun _ _ => rfl))) rfl rfl rfl) (fun _ => rfl))))))).pt (dss_one (ds_ret de_bool)) dss_nil) (dss_cons (ds_asgT (by decide) (de_var g.toGdT.toGd rfl (.inl (by kernel_rfl)) (by decide) (by decide)) (dg_tup g.toGdT.toGd rfl (dgs_cons (dg_name g.toGdT.toGd rfl (by kernel_rfl)) (dgs_cons (dg_name g.toGdT.toGd rfl (by kernel_rfl)) dgs_nil rfl) rfl) rfl rfl rfl) rfl rfl rfl) (dss_cons (ds_if (dw_or (dt_not (dt_chain (o_le g.toGdT.toGd) (o_le g.toGdT.toGd) op2_of op2_of (do_of de_int) (do_of (de_blt g.toGdT.toGd (c_len g.toGdT.toGd) (by kernel_rfl) (B "len" (by decide)) (by decide +kernel) (da_cons (do_var g.toGdT.toGd rfl (.inr (.inl (by kernel_rfl))) (by decide) (by decide)) da_nil rfl) (by decide) (by decide) rfl rfl)) (do_of de_int) rfl)) (dw_or (dt_not (dt_chain (o_le g.toGdT.toGd) (o_le g.toGdT.toGd) op2_of op2_of (do_of de_int) (do_of (de_blt g.toGdT.toGd (c_len g.toGdT.toGd) (by kernel_rfl) (B "len" (by decide)) (by decide +kernel) (da_cons (do_var g.toGdT.toGd rfl (.inr (.inl (by kernel_rfl))) (by decide) (by decide)) da_nil rfl) (by decide) (by decide) rfl rfl)) (do_of de_int) rfl)) (dw_or1 (dt_cmp (o_gt g.toGdT.toGd) op2_of (do_of (de_blt g.toGdT.toGd (c_len g.toGdT.toGd) (by kernel_rfl) (B "len" (by decide)) (by decide +kernel) (da_cons (do_of (de_comp g.toGdT.toGd rfl (di_seq g.toGdT.toGd (do_var g.toGdT.toGd rfl (.inr (.inl (by kernel_rfl))) (by decide) (by decide))) (own := [("v", 3)]) (by kernel_rfl) (by decide) (fun p1 o1 X1 g1 => (dg_name g1.toGd rfl (by kernel_rfl))) (fun p1 o1 X1 g1 => (pts_one (dw_or (dt_not (dt_val (de_isi g1.toGd (by kernel_rfl) (B "isinstance" (by decide)) (by kernel_rfl) (B "int" (by decide)) (by decide +kernel) (by decide) (by decide) (do_var g1.toGd rfl (by first | exact .inl (by decide +kernel) | exact .inr (.inl (by decide +kernel)) | exact .inr (.inr (by decide +kernel))) (by decide) (by decide)) rfl rfl rfl) (fun _ => rfl))) (dw_or1 (dt_not (dt_chain (o_le g1.toGd) (o_le g1.toGd) op2_of op2_of (do_of de_int) (do_var g1.toGd rfl (by first | exact .inl (by decide +kernel) | exact .inr (.inl (by decide +kernel)) | exact .inr (.inr (by decide +kernel))) (by decide) (by decide)) (do_of de_int) rfl)))).pt)) (fun p1 o1 X1 g1 => (de_var g1.toGd rfl (by first | exact .inl (by decide +kernel) | exact .inr (.inl (by decide +kernel)) | exact .inr (.inr (by decide +kernel))) (by decide) (by decide))) (fun _ => rfl))) da_nil rfl) (by decide) (by decide) rfl rfl)) (do_of de_int) rfl)))).pt (dss_one (ds_ret de_bool)) dss_nil) (dss_cons (ds_asg g.toGdT.toGd rfl (by kernel_rfl) (by decide) de_int rfl) (dss_cons (ds_for g rfl (by decide) (di_seq g.toGdT.toGd (do_var g.toGdT.toGd rfl (.inr (.inl (by kernel_rfl))) (by decide) (by decide))) (dg_name g.toGdT.toGd rfl (by kernel_rfl)) (dss_one (ds_asg g.toGdT.toGd rfl (by kernel_rfl) (by decide) (de_binop (o_mul g.toGdT.toGd) op2_of (do_var g.toGdT.toGd rfl (.inl (by kernel_rfl)) (by decide) (by decide)) (do_var g.toGdT.toGd rfl (.inl (by kernel_rfl)) (by decide) (by decide))) rfl)) (fun _ => rfl)) (dss_cons (ds_for g rfl (by decide) (di_seq g.toGdT.toGd (do_var g.toGdT.toGd rfl (.inr (.inl (by kernel_rfl))) (by decide) (by decide))) (dg_name g.toGdT.toGd rfl (by kernel_rfl)) (dss_cons (ds_if (dw_or (dt_not (dt_val (de_isi g.toGdT.toGd (by kernel_rfl) (B "isinstance" (by decide)) (by kernel_rfl) (B "tuple" (by decide)) (by decide +kernel) (by decide) (by decide) (do_var g.toGdT.toGd rfl (.inl (by kernel_rfl)) (by decide) (by decide)) rfl rfl rfl) (fun _ => rfl))) (dw_or (dt_cmp (o_eq g.toGdT.toGd) op2_of (do_of (de_blt g.toGdT.toGd (c_len g.toGdT.toGd) (by kernel_rfl) (B "len" (by decide)) (by decide +kernel) (da_cons (do_var g.toGdT.toGd rfl (.inl (by kernel_rfl)) (by decide) (by decide)) da_nil rfl) (by decide) (by decide) rfl rfl)) (do_of de_int) rfl) (dw_or1 (dt_cmp (o_gt g.toGdT.toGd) op2_of (do_of (de_blt g.toGdT.toGd (c_len g.toGdT.toGd) (by kernel_rfl) (B "len" (by decide)) (by decide +kernel) (da_cons (do_of (de_comp g.toGdT.toGd rfl (di_seq g.toGdT.toGd (do_var g.toGdT.toGd rfl (.inl (by kernel_rfl)) (by decide) (by decide))) (own := [("c", 6)]) (by kernel_rfl) (by decide) (fun p2 o2 X2 g2 => (dg_name g2.toGd rfl (by kernel_rfl))) (fun p2 o2 X2 g2 => (pts_one (dw_or (dt_not (dt_val (de_isi g2.toGd (by kernel_rfl) (B "isinstance" (by decide)) (by kernel_rfl) (B "int" (by decide)) (by decide +kernel) (by decide) (by decide) (do_var g2.toGd rfl (by first | exact .inl (by decide +kernel) | exact .inr (.inl (by decide +kernel)) | exact .inr (.inr (by decide +kernel))) (by decide) (by decide)) rfl rfl rfl) (fun _ => rfl))) (dw_or1 (dt_not (dt_chain (o_le g2.toGd) (o_lt g2.toGd) op2_of op2_of (do_of de_int) (do_var g2.toGd rfl (by first | exact .inl (by decide +kernel) | exact .inr (.inl (by decide +kernel)) | exact .inr (.inr (by decide +kernel))) (by decide) (by decide)) (do_of (de_blt g2.toGd (c_len g2.toGd) (by kernel_rfl) (B "len" (by decide)) (by decide +kernel) (da_cons (do_var g2.toGd rfl (by first | exact .inl (by decide +kernel) | exact .inr (.inl (by decide +kernel)) | exact .inr (.inr (by decide +kernel))) (by decide) (by decide)) da_nil rfl) (by decide) (by decide) rfl rfl)) rfl)))).pt)) (fun p2 o2 X2 g2 => (de_var g2.toGd rfl (by first | exact .inl (by decide +kernel) | exact .inr (.inl (by decide +kernel)) | exact .inr (.inr (by decide +kernel))) (by decide) (by decide))) (fun _ => rfl))) da_nil rfl) (by decide) (by decide) rfl rfl)) (do_of de_int) rfl)))).pt (dss_one (ds_ret de_bool)) dss_nil) (dss_one (ds_if (dt_cmp (o_ne g.toGdT.toGd) op2_of (do_of (de_sortSet g.toGdT.toGd rfl (by kernel_rfl) (B "sorted" (by decide)) (by kernel_rfl) (B "set" (by decide)) (do_var g.toGdT.toGd rfl (.inl (by kernel_rfl)) (by decide) (by decide)) rfl rfl)) (do_of (de_bty g.toGdT.toGd (c_list g.toGdT.toGd) (by kernel_rfl) (B "list" (by decide)) (by decide +kernel) (da_cons (do_var g.toGdT.toGd rfl (.inl (by kernel_rfl)) (by decide) (by decide)) da_nil rfl) (by decide) (by decide) rfl rfl)) rfl) (dss_one (ds_ret de_bool)) dss_nil))) (fun _ => rfl)) (dss_cons (ds_asgC g.toGdT.toGd rfl rfl (by kernel_rfl) (by kernel_rfl) (by decide) rfl (by decide +kernel) (di_range1 g.toGdT.toGd (by kernel_rfl) (B "range" (by decide)) (do_of (de_blt g.toGdT.toGd (c_len g.toGdT.toGd) (by kernel_rfl) (B "len" (by decide)) (by decide +kernel) (da_cons (do_var g.toGdT.toGd rfl (.inr (.inl (by kernel_rfl))) (by decide) (by decide)) da_nil rfl) (by decide) (by decide) rfl rfl)) rfl) (own := [("c", 6)]) (by kernel_rfl) (by decide) (fun p3 o3 X3 g3 => (dg_name g3.toGd rfl (by kernel_rfl))) (fun p3 o3 X3 g3 => (pts_one (dt_cmp (o_eq g3.toGd) op2_of (do_of (de_blt g3.toGd (c_len g3.toGd) (by kernel_rfl) (B "len" (by decide)) (by decide +kernel) (da_cons (do_of (de_comp g3.toGd rfl (di_seq g3.toGd (do_var g3.toGd rfl (by first | exact .inl (by decide +kernel) | exact .inr (.inl (by decide +kernel)) | exact .inr (.inr (by decide +kernel))) (by decide) (by decide))) (own := [("edge", 5)]) (by kernel_rfl) (by decide) (fun p4 o4 X4 g4 => (dg_name g4.toGd rfl (by kernel_rfl))) (fun p4 o4 X4 g4 => (pts_one (dt_cmp (o_in g4.toGd) op2_of (do_var g4.toGd rfl (by first | exact .inl (by decide +kernel) | exact .inr (.inl (by decide +kernel)) | exact .inr (.inr (by decide +kernel))) (by decide) (by decide)) (do_var g4.toGd rfl (by first | exact .inl (by decide +kernel) | exact .inr (.inl (by decide +kernel)) | exact .inr (.inr (by decide +kernel))) (by decide) (by decide)) rfl))) (fun p4 o4 X4 g4 => de_int) (fun _ => rfl))) da_nil rfl) (by decide) (by decide) rfl rfl)) (do_of de_int) rfl))) (fun p3 o3 X3 g3 => (de_var g3.toGd rfl (by first | exact .inl (by decide +kernel) | exact .inr (.inl (by decide +kernel)) | exact .inr (.inr (by decide +kernel))) (by decide) (by decide))) (fun _ => rfl)) (dss_one (ds_ret (de_and (de_cmp (o_le g.toGdT.toGd) op2_of (do_var g.toGdT.toGd rfl (.inl (by kernel_rfl)) (by decide) (by decide)) (do_of de_int) rfl) (de_and (de_cmp (o_eq g.toGdT.toGd) op2_of (do_of (de_sortSet g.toGdT.toGd rfl (by kernel_rfl) (B "sorted" (by decide)) (by kernel_rfl) (B "set" (by decide)) (do_var g.toGdT.toGd rfl (.inr (.inl (by kernel_rfl))) (by decide) (by decide)) rfl rfl)) (do_of (de_bty g.toGdT.toGd (c_list g.toGdT.toGd) (by kernel_rfl) (B "list" (by decide)) (by decide +kernel) (da_cons (do_var g.toGdT.toGd rfl (.inr (.inl (by kernel_rfl))) (by decide) (by decide)) da_nil rfl) (by decide) (by decide) rfl rfl)) rfl) (de_and1 (de_cmp (o_eq g.toGdT.toGd) op2_of (do_of (de_blt g.toGdT.toGd (c_len g.toGdT.toGd) (by kernel_rfl) (B "len" (by decide)) (by decide +kernel) (da_cons (do_var g.toGdT.toGd rfl (.inl (by kernel_rfl)) (by decide) (by decide)) da_nil rfl) (by decide) (by decide) rfl rfl)) (do_of de_int) rfl) rfl))))))))))))
def _law_ordered_F : StF := (sSeq (sAsg 2 (eComp [3] (iRange1 (oVar 0)) (.name 3) (tVal (eBin dEq (oOf (eOps dLen [(oOf (eComp [4] (iSeq (oVar 1)) (.name 4) (tVal (eBin dIn (oVar 3) (oVar 4))) (eCon (.int 1))))])) (oOf (eCon (.int 0))))) (eVar 3))) (sSeq (sIf (tVal (eBin dGt (oOf (eOps dLen [(oVar 2)])) (oOf (eCon (.int 0))))) (sAsg 1 (eBin dAdd (oVar 1) (oOf (eLst [(eOps dTuple [(oVar 2)])])))) sNx) (sSeq (sAsg 1 (eUn dSortSet (oVar 1))) (sSeq (sWhile (tVal (eBin dGt (oOf (eOps dLen [(oVar 1)])) (oOf (eCon (.int 10))))) (sSeq (sAsg 5 (eComp [4] (iSeq (oVar 1)) (.name 4) (tVal (eBin dEq (oOf (eOps dLen [(oOf (eComp [3] (iSeq (oVar 4)) (.name 3) (tVal (eBin dEq (oOf (eOps dLen [(oOf (eComp [6] (iSeq (oVar 1)) (.name 6) (tVal (eBin dIn (oVar 3) (oVar 6))) (eCon (.int 1))))])) (oOf (eCon (.int 1))))) (eCon (.int 1))))])) (oOf (eCon (.int 0))))) (eVar 4))) (sAsg 1 (eComp [4] (iSeq (oVar 1)) (.name 4) (tVal (eBin dNe (oVar 4) (oOf (eBin dIx (oOf (eBin dAdd (oVar 5) (oVar 1))) (oOf (eCon (.int 0))))))) (eVar 4))))) (sSeq (sAsg 2 (eComp [3] (iRange1 (oVar 0)) (.name 3) (tVal (eBin dEq (oOf (eOps dLen [(oOf (eComp [4] (iSeq (oVar 1)) (.name 4) (tVal (eBin dIn (oVar 3) (oVar 4))) (eCon (.int 1))))])) (oOf (eCon (.int 0))))) (eVar 3))) (sSeq (sIf (tVal (eBin dGt (oOf (eOps dLen [(oVar 2)])) (oOf (eCon (.int 0))))) (sAsg 1 (eUn dSortSet (oOf (eBin dAdd (oOf (eSlice (oVar 1) (some (oOf (eCon (.int 1)))) none)) (oOf (eLst [(eOps dTuple [(oOf (eUn dSortSet (oOf (eBin dAdd (oOf (eBin dIx (oVar 1) (oOf (eCon (.int 0))))) (oOf (eOps dTuple [(oVar 2)]))))))])])))))) sNx) (sRet (eOps dTuple [(oVar 1)]))))))))
def _law_ordered_S : Fun := runF _law_ordered_F 7 [false, false]
theorem f__law_ordered {Γ : Ctx} (D0 : ∃ fd, FunD Γ.K "_law_ordered" "_law_ordered" (defArgs Hd.s__law_ordered) (defBody Hd.s__law_ordered) (defScope Hd.s__law_ordered) [] [] (He.fAd Γ.K ("_law_ordered", none)) fd) (m0 : Γ.mg "_law_ordered" = some (.ref (He.fAd Γ.K ("_law_ordered", none)))) (B : Bare Γ) : FnAt Γ false 1 "_law_ordered" ["many", "edges"] [false, false] _law_ordered_S := by
  obtain ⟨fd, Fd⟩ := D0
  refine fnAt_of (k := 0) (N := ["many", "edges", "lone", "c", "edge", "drop", "other"]) Fd ⟨by kernel_rfl, by kernel_rfl, by kernel_rfl, by decide +kernel, by decide +kernel, by decide +kernel, by decide +kernel⟩ m0 (FunD.bindsN Fd fun _ _ _ _ _ _ us hl => match us, hl with | [_, _], _ => rfl) rfl rfl (as := [0, 1, 2, 5]) fun F0 H0 ino X W g hq hc => ?_
  unfold _law_ordered_F
  exact (dss_cons (ds_asgC g.toGdT.toGd rfl rfl (by kernel_rfl) (by kernel_rfl) (by decide) rfl (by decide +kernel) (di_range1 g.toGdT.toGd (by kernel_rfl) (B "range" (by decide)) (do_var g.toGdT.toGd rfl (.inl (by kernel_rfl)) (by decide) (by decide)) rfl) (own := [("c", 3)]) (by kernel_rfl) (by decide) (fun p1 o1 X1 g1 => (dg_name g1.toGd rfl (by kernel_rfl))) (fun p1 o1 X1 g1 => (pts_one (dt_cmp (o_eq g1.toGd) op2_of (do_of (de_blt g1.toGd (c_len g1.toGd) (by kernel_rfl) (B "len" (by decide)) (by decide +kernel) (da_cons (do_of (de_comp g1.toGd rfl (di_seq g1.toGd (do_var g1.toGd rfl (by first | exact .inl (by decide +kernel) | exact .inr (.inl (by decide +kernel)) | exact .inr (.inr (by decide +kernel))) (by decide) (by decide))) (own := [("edge", 4)]) (by kernel_rfl) (by decide) (fun p2 o2 X2 g2 => (dg_name g2.toGd rfl (by kernel_rfl))) (fun p2 o2 X2 g2 => (pts_one (dt_cmp (o_in g2.toGd) op2_of (do_var g2.toGd rfl (by first | exact .inl (by decide +kernel) | exact .inr (.inl (by decide +kernel)) | exact .inr (.inr (by decide +kernel))) (by decide) (by decide)) (do_var g2.toGd rfl (by first | exact .inl (by decide +kernel) | exact .inr (.inl (by decide +kernel)) | exact .inr (.inr (by decide +kernel))) (by decide) (by decide)) rfl))) (fun p2 o2 X2 g2 => de_int) (fun _ => rfl))) da_nil rfl) (by decide) (by decide) rfl rfl)) (do_of de_int) rfl))) (fun p1 o1 X1 g1 => (de_var g1.toGd rfl (by first | exact .inl (by decide +kernel) | exact .inr (.inl (by decide +kernel)) | exact .inr (.inr (by decide +kernel))) (by decide) (by decide))) (fun _ => rfl)) (dss_cons (ds_if (dt_cmp (o_gt g.toGdT.toGd) op2_of (do_of (de_blt g.toGdT.toGd (c_len g.toGdT.toGd) (by kernel_rfl) (B "len" (by decide)) (by decide +kernel) (da_cons (do_var g.toGdT.toGd rfl (.inl (by kernel_rfl)) (by decide) (by decide)) da_nil rfl) (by decide) (by decide) rfl rfl)) (do_of de_int) rfl) (dss_one (ds_asg g.toGdT.toGd rfl (by kernel_rfl) (by decide) (de_binop (o_add g.toGdT.toGd) op2_of (do_var g.toGdT.toGd rfl (.inr (.inl (by kernel_rfl))) (by decide) (by decide)) (do_of (de_lst (des_cons (de_bty g.toGdT.toGd (c_tuple g.toGdT.toGd) (by kernel_rfl) (B "tuple" (by decide)) (by decide +kernel) (da_cons (do_var g.toGdT.toGd rfl (.inl (by kernel_rfl)) (by decide) (by decide)) da_nil rfl) (by decide) (by decide) rfl rfl) des_nil rfl) (by decide)))) rfl)) dss_nil) (dss_cons (ds_asg g.toGdT.toGd rfl (by kernel_rfl) (by decide) (de_sortSet g.toGdT.toGd rfl (by kernel_rfl) (B "sorted" (by decide)) (by kernel_rfl) (B "set" (by decide)) (do_var g.toGdT.toGd rfl (.inr (.inl (by kernel_rfl))) (by decide) (by decide)) rfl rfl) rfl) (dss_cons (ds_while g (dt_cmp (o_gt g.toGdT.toGd) op2_of (do_of (de_blt g.toGdT.toGd (c_len g.toGdT.toGd) (by kernel_rfl) (B "len" (by decide)) (by decide +kernel) (da_cons (do_var g.toGdT.toGd rfl (.inr (.inl (by kernel_rfl))) (by decide) (by decide)) da_nil rfl) (by decide) (by decide) rfl rfl)) (do_of de_int) rfl) (dss_cons (ds_asg g.toGdT.toGd rfl (by kernel_rfl) (by decide) (de_comp g.toGdT.toGd rfl (di_seq g.toGdT.toGd (do_var g.toGdT.toGd rfl (.inr (.inl (by kernel_rfl))) (by decide) (by decide))) (own := [("edge", 4)]) (by kernel_rfl) (by decide) (fun p3 o3 X3 g3 => (dg_name g3.toGd rfl (by kernel_rfl))) (fun p3 o3 X3 g3 => (pts_one (dt_cmp (o_eq g3.toGd) op2_of (do_of (de_blt g3.toGd (c_len g3.toGd) (by kernel_rfl) (B "len" (by decide)) (by decide +kernel) (da_cons (do_of (de_comp g3.toGd rfl (di_seq g3.toGd (do_var g3.toGd rfl (by first | exact .inl (by decide +kernel) | exact .inr (.inl (by decide +kernel)) | exact .inr (.inr (by decide +kernel))) (by decide) (by decide))) (own := [("c", 3)]) (by kernel_rfl) (by decide) (fun p4 o4 X4 g4 => (dg_name g4.toGd rfl (by kernel_rfl))) (fun p4 o4 X4 g4 => (pts_one (dt_cmp (o_eq g4.toGd) op2_of (do_of (de_blt g4.toGd (c_len g4.toGd) (by kernel_rfl) (B "len" (by decide)) (by decide +kernel) (da_cons (do_of (de_comp g4.toGd rfl (di_seq g4.toGd (do_var g4.toGd rfl (by first | exact .inl (by decide +kernel) | exact .inr (.inl (by decide +kernel)) | exact .inr (.inr (by decide +kernel))) (by decide) (by decide))) (own := [("other", 6)]) (by kernel_rfl) (by decide) (fun p5 o5 X5 g5 => (dg_name g5.toGd rfl (by kernel_rfl))) (fun p5 o5 X5 g5 => (pts_one (dt_cmp (o_in g5.toGd) op2_of (do_var g5.toGd rfl (by first | exact .inl (by decide +kernel) | exact .inr (.inl (by decide +kernel)) | exact .inr (.inr (by decide +kernel))) (by decide) (by decide)) (do_var g5.toGd rfl (by first | exact .inl (by decide +kernel) | exact .inr (.inl (by decide +kernel)) | exact .inr (.inr (by decide +kernel))) (by decide) (by decide)) rfl))) (fun p5 o5 X5 g5 => de_int) (fun _ => rfl))) da_nil rfl) (by decide) (by decide) rfl rfl)) (do_of de_int) rfl))) (fun p4 o4 X4 g4 => de_int) (fun _ => rfl))) da_nil rfl) (by decide) (by decide) rfl rfl)) (do_of de_int) rfl))) (fun p3 o3 X3 g3 => (de_var g3.toGd rfl (by first | exact .inl (by decide +kernel) | exact .inr (.inl (by decide +kernel)) | exact .inr (.inr (by decide +kernel))) (by decide) (by decide))) (fun _ => rfl)) (sw_cell g.toGdT.toGd (by kernel_rfl))) (dss_one (ds_asg g.toGdT.toGd rfl (by kernel_rfl) (by decide) (de_comp g.toGdT.toGd rfl (di_seq g.toGdT.toGd (do_var g.toGdT.toGd rfl (.inr (.inl (by kernel_rfl))) (by decide) (by decide))) (own := [("edge", 4)]) (by kernel_rfl) (by decide) (fun p6 o6 X6 g6 => (dg_name g6.toGd rfl (by kernel_rfl))) (fun p6 o6 X6 g6 => (pts_one (dt_cmp (o_ne g6.toGd) op2_of (do_var g6.toGd rfl (by first | exact .inl (by decide +kernel) | exact .inr (.inl (by decide +kernel)) | exact .inr (.inr (by decide +kernel))) (by decide) (by decide)) (do_of (de_ix (o_ix g6.toGd) op2_of (do_of (de_binop (o_add g6.toGd) op2_of (do_var g6.toGd rfl (by first | exact .inl (by decide +kernel) | exact .inr (.inl (by decide +kernel)) | exact .inr (.inr (by decide +kernel))) (by decide) (by decide)) (do_var g6.toGd rfl (by first | exact .inl (by decide +kernel) | exact .inr (.inl (by decide +kernel)) | exact .inr (.inr (by decide +kernel))) (by decide) (by decide)))) (do_of de_int) (fun _ _ => rfl))) rfl))) (fun p6 o6 X6 g6 => (de_var g6.toGd rfl (by first | exact .inl (by decide +kernel) | exact .inr (.inl (by decide +kernel)) | exact .inr (.inr (by decide +kernel))) (by decide) (by decide))) (fun _ => rfl)) (sw_cell g.toGdT.toGd (by kernel_rfl)))))) (dss_cons (ds_asgC g.toGdT.toGd rfl rfl (by kernel_rfl) (by kernel_rfl) (by decide) rfl (by decide +kernel) (di_range1 g.toGdT.toGd (by kernel_rfl) (B "range" (by decide)) (do_var g.toGdT.toGd rfl (.inl (by kernel_rfl)) (by decide) (by decide)) rfl) (own := [("c", 3)]) (by kernel_rfl) (by decide) (fun p7 o7 X7 g7 => (dg_name g7.toGd rfl (by kernel_rfl))) (fun p7 o7 X7 g7 => (pts_one (dt_cmp (o_eq g7.toGd) op2_of (do_of (de_blt g7.toGd (c_len g7.toGd) (by kernel_rfl) (B "len" (by decide)) (by decide +kernel) (da_cons (do_of (de_comp g7.toGd rfl (di_seq g7.toGd (do_var g7.toGd rfl (by first | exact .inl (by decide +kernel) | exact .inr (.inl (by decide +kernel)) | exact .inr (.inr (by decide +kernel))) (by decide) (by decide))) (own := [("edge", 4)]) (by kernel_rfl) (by decide) (fun p8 o8 X8 g8 => (dg_name g8.toGd rfl (by kernel_rfl))) (fun p8 o8 X8 g8 => (pts_one (dt_cmp (o_in g8.toGd) op2_of (do_var g8.toGd rfl (by first | exact .inl (by decide +kernel) | exact .inr (.inl (by decide +kernel)) | exact .inr (.inr (by decide +kernel))) (by decide) (by decide)) (do_var g8.toGd rfl (by first | exact .inl (by decide +kernel) | exact .inr (.inl (by decide +kernel)) | exact .inr (.inr (by decide +kernel))) (by decide) (by decide)) rfl))) (fun p8 o8 X8 g8 => de_int) (fun _ => rfl))) da_nil rfl) (by decide) (by decide) rfl rfl)) (do_of de_int) rfl))) (fun p7 o7 X7 g7 => (de_var g7.toGd rfl (by first | exact .inl (by decide +kernel) | exact .inr (.inl (by decide +kernel)) | exact .inr (.inr (by decide +kernel))) (by decide) (by decide))) (fun _ => rfl)) (dss_cons (ds_if (dt_cmp (o_gt g.toGdT.toGd) op2_of (do_of (de_blt g.toGdT.toGd (c_len g.toGdT.toGd) (by kernel_rfl) (B "len" (by decide)) (by decide +kernel) (da_cons (do_var g.toGdT.toGd rfl (.inl (by kernel_rfl)) (by decide) (by decide)) da_nil rfl) (by decide) (by decide) rfl rfl)) (do_of de_int) rfl) (dss_one (ds_asg g.toGdT.toGd rfl (by kernel_rfl) (by decide) (de_sortSet g.toGdT.toGd rfl (by kernel_rfl) (B "sorted" (by decide)) (by kernel_rfl) (B "set" (by decide)) (do_of (de_binop (o_add g.toGdT.toGd) op2_of (do_of (de_slice g.toGdT.toGd (do_var g.toGdT.toGd rfl (.inr (.inl (by kernel_rfl))) (by decide) (by decide)) (dp_some (do_of de_int)) dp_none)) (do_of (de_lst (des_cons (de_bty g.toGdT.toGd (c_tuple g.toGdT.toGd) (by kernel_rfl) (B "tuple" (by decide)) (by decide +kernel) (da_cons (do_of (de_sortSet g.toGdT.toGd rfl (by kernel_rfl) (B "sorted" (by decide)) (by kernel_rfl) (B "set" (by decide)) (do_of (de_binop (o_add g.toGdT.toGd) op2_of (do_of (de_ix (o_ix g.toGdT.toGd) op2_of (do_var g.toGdT.toGd rfl (.inr (.inl (by kernel_rfl))) (by decide) (by decide)) (do_of de_int) (fun _ _ => rfl))) (do_of (de_bty g.toGdT.toGd (c_tuple g.toGdT.toGd) (by kernel_rfl) (B "tuple" (by decide)) (by decide +kernel) (da_cons (do_var g.toGdT.toGd rfl (.inl (by kernel_rfl)) (by decide) (by decide)) da_nil rfl) (by decide) (by decide) rfl rfl)))) rfl rfl)) da_nil rfl) (by decide) (by decide) rfl rfl) des_nil rfl) (by decide))))) rfl rfl) rfl)) dss_nil) (dss_one (ds_ret (de_bty g.toGdT.toGd (c_tuple g.toGdT.toGd) (by kernel_rfl) (B "tuple" (by decide)) (by decide +kernel) (da_cons (do_var g.toGdT.toGd rfl (.inr (.inl (by kernel_rfl))) (by decide) (by decide)) da_nil rfl) (by decide) (by decide) rfl rfl)))))))))
def _law_edges_F : StF := (sSeq (sAsg 2 (eCall _law_draw_S [.ref 0, .val (eCon (.int 6))])) (sSeq (sAsg 3 (eLst [])) (sSeq (sIf (tVal (eBin dEq (oVar 2) (oOf (eCon (.int 0))))) (sFor [0, 1, 2, 3, 4, 5, 7, 8, 9, 10, 11, 12] (iRange1 (oOf (eBin dAdd (oOf (eCon (.int 1))) (oOf (eCall _law_draw_S [.ref 0, .val (eCon (.int 8))]))))) (.name 4) (sSeq (sAsg 5 (eOps dTuple [(oOf (eComp [6] (iRange1 (oVar 1)) (.name 6) (tVal (eBin dEq (oOf (eCall _law_draw_S [.ref 0, .val (eCon (.int 3))])) (oOf (eCon (.int 0))))) (eVar 6)))])) (sApp 3 (eIte (tVal (eBin dGt (oOf (eOps dLen [(oVar 5)])) (oOf (eCon (.int 0))))) (eVar 5) (eTup [(eCall _law_draw_S [.ref 0, .val (eVar 1)])]))))) (sIf (tVal (eBin dLt (oVar 2) (oOf (eCon (.int 3))))) (sSeq (sParO 3 7 (eLst [(eTup [(eCon (.int 0))])]) (eCon (.int 1))) (sWhile (tAnd2 (tVal (eBin dLt (oVar 7) (oVar 1))) (tVal (eBin dLt (oOf (eOps dLen [(oVar 3)])) (oOf (eCon (.int 9)))))) (sSeq (sAsg 8 (eBin dIx (oVar 3) (oOf (eCall _law_draw_S [.ref 0, .val (eOps dLen [(oVar 3)])])))) (sSeq (sAsg 9 (eOps dMin [(oOf (eBin dSub (oVar 1) (oVar 7))), (oOf (eBin dAdd (oOf (eCon (.int 1))) (oOf (eCall _law_draw_S [.ref 0, .val (eCon (.int 2))]))))])) (sSeq (sApp 3 (eOps dTuple [(oOf (eBin dAdd (oOf (eComp [6] (iSeq (oVar 8)) (.name 6) (tVal (eBin dEq (oOf (eCall _law_draw_S [.ref 0, .val (eCon (.int 2))])) (oOf (eCon (.int 0))))) (eVar 6))) (oOf (eRg .list true (oVar 7) (oOf (eBin dAdd (oVar 7) (oVar 9)))))))])) (sAsg 7 (eBin dAdd (oVar 7) (oVar 9)))))))) (sIf (tVal (eBin dEq (oVar 2) (oOf (eCon (.int 3))))) (sSeq (sAsg 10 (eOps dMin [(oVar 1), (oOf (eBin dAdd (oOf (eCon (.int 3))) (oOf (eCall _law_draw_S [.ref 0, .val (eCon (.int 7))]))))])) (sAsg 3 (eComp [4] (iRange1 (oVar 10)) (.name 4) (tVal (eBin dGt (oVar 10) (oOf (eCon (.int 1))))) (eOps dTuple [(oOf (eOps dSorted [(oOf (eLst [(eVar 4), (eBin dMod (oOf (eBin dAdd (oVar 4) (oOf (eCon (.int 1))))) (oVar 10))]))]))])))) (sIf (tVal (eBin dEq (oVar 2) (oOf (eCon (.int 4))))) (sSeq (sAsg 10 (eOps dMin [(oVar 1), (oOf (eBin dAdd (oOf (eCon (.int 3))) (oOf (eCall _law_draw_S [.ref 0, .val (eCon (.int 3))]))))])) (sAsg 3 (eComp [4] (iRange1 (oVar 10)) (.name 4) (tVal (eBin dGt (oVar 10) (oOf (eCon (.int 1))))) (eOps dTuple [(oOf (eComp [6] (iRange1 (oVar 10)) (.name 6) (tVal (eBin dNe (oVar 6) (oVar 4))) (eVar 6)))])))) (sSeq (sAsg 10 (eOps dMin [(oVar 1), (oOf (eBin dAdd (oOf (eCon (.int 2))) (oOf (eCall _law_draw_S [.ref 0, .val (eCon (.int 3))]))))])) (sFor [0, 1, 2, 3, 4, 5, 7, 8, 9, 10, 11, 12] (iRange1 (oVar 10)) (.name 4) (sAsg 3 (eBin dAdd (oVar 3) (oOf (eComp [6] (iRange1 (oVar 4)) (.name 6) tTrue (eTup [(eVar 6), (eVar 4)]))))))))))) (sSeq (sFor [0, 1, 2, 3, 4, 5, 7, 8, 9, 10, 11, 12] (iRange1 (oOf (eCall _law_draw_S [.ref 0, .val (eCon (.int 3))]))) (.name 4) (sSeq (sAsg 5 (eOps dTuple [(oOf (eComp [6] (iRange1 (oVar 1)) (.name 6) (tVal (eBin dEq (oOf (eCall _law_draw_S [.ref 0, .val (eCon (.int 3))])) (oOf (eCon (.int 0))))) (eVar 6)))])) (sAsg 3 (eBin dAdd (oVar 3) (oOf (eIte (tVal (eBin dGt (oOf (eOps dLen [(oVar 5)])) (oOf (eCon (.int 0))))) (eLst [(eVar 5)]) (eLst []))))))) (sSeq (sAsg 11 (eRg1 .list true (oVar 1))) (sSeq (sFor [0, 1, 2, 3, 4, 5, 7, 8, 9, 10, 11, 12] (iRange1 (oVar 1)) (.name 4) (sSeq (sAsg 12 (eBin dAdd (oVar 4) (oOf (eCall _law_draw_S [.ref 0, .val (eBin dSub (oVar 1) (oVar 4))])))) (sSub2 11 (oVar 4) 11 (oVar 12) (eTup [(eBin dIx (oVar 11) (oVar 12)), (eBin dIx (oVar 11) (oVar 4))])))) (sRet (eCall _law_ordered_S [.val (eVar 1), .val (eComp [5] (iSeq (oVar 3)) (.name 5) tTrue (eOps dTuple [(oOf (eOps dSorted [(oOf (eComp [6] (iSeq (oVar 5)) (.name 6) tTrue (eBin dIx (oVar 11) (oVar 6))))]))]))]))))))))
def _law_edges_S : Fun := runF _law_edges_F 13 [true, false]
theorem f__law_edges {Γ : Ctx} (h__law_draw : FnAt Γ false 1 "_law_draw" ["box", "many"] [true, false] _law_draw_S) (h__law_ordered : FnAt Γ false 1 "_law_ordered" ["many", "edges"] [false, false] _law_ordered_S) (D0 : ∃ fd, FunD Γ.K "_law_edges" "_law_edges" (defArgs Hd.s__law_edges) (defBody Hd.s__law_edges) (defScope Hd.s__law_edges) [] [] (He.fAd Γ.K ("_law_edges", none)) fd) (m0 : Γ.mg "_law_edges" = some (.ref (He.fAd Γ.K ("_law_edges", none)))) (B : Bare Γ) : FnAt Γ false 2 "_law_edges" ["box", "many"] [true, false] _law_edges_S := by
  obtain ⟨fd, Fd⟩ := D0
  refine fnAt_of (k := 1) (N := ["box", "many", "pick", "edges", "k", "edge", "c", "seen", "old", "new", "size", "turned", "j"]) Fd ⟨by kernel_rfl, by kernel_rfl, by kernel_rfl, by decide +kernel, by decide +kernel, by decide +kernel, by decide +kernel⟩ m0 (FunD.bindsN Fd fun _ _ _ _ _ _ us hl => match us, hl with | [_, _], _ => rfl) rfl rfl (as := [0, 1, 2, 3, 4, 5, 7, 8, 9, 10, 11, 12]) fun F0 H0 ino X W g hq hc => ?_
  unfold _law_edges_F
  exact (dss_cons (ds_asg g.toGdT.toGd rfl (by kernel_rfl) (by decide) (de_callA g.toGdT rfl ((h__law_draw.mono (by omega)).to ⟨rfl, rfl, rfl, rfl, rfl, rfl, rfl⟩) (fun h => by cases h) (by kernel_rfl) rfl (das_ref g.toGdT.toGd rfl (.inr (.inl (by kernel_rfl))) (by decide) (by decide) (das_val de_int das_nil rfl) rfl) (by decide) rfl rfl) rfl) (dss_cons (ds_asg g.toGdT.toGd rfl (by kernel_rfl) (by decide) (de_lst des_nil (by decide)) rfl) (dss_cons (ds_if (dt_cmp (o_eq g.toGdT.toGd) op2_of (do_var g.toGdT.toGd rfl (.inl (by kernel_rfl)) (by decide) (by decide)) (do_of de_int) rfl) (dss_one (ds_for g rfl (by decide) (di_range1 g.toGdT.toGd (by kernel_rfl) (B "range" (by decide)) (do_of (de_binop (o_add g.toGdT.toGd) op2_of (do_of de_int) (do_of (de_callA g.toGdT rfl ((h__law_draw.mono (by omega)).to ⟨rfl, rfl, rfl, rfl, rfl, rfl, rfl⟩) (fun h => by cases h) (by kernel_rfl) rfl (das_ref g.toGdT.toGd rfl (.inr (.inl (by kernel_rfl))) (by decide) (by decide) (das_val de_int das_nil rfl) rfl) (by decide) rfl rfl)))) rfl) (dg_name g.toGdT.toGd rfl (by kernel_rfl)) (dss_cons (ds_asg g.toGdT.toGd rfl (by kernel_rfl) (by decide) (de_bty g.toGdT.toGd (c_tuple g.toGdT.toGd) (by kernel_rfl) (B "tuple" (by decide)) (by decide +kernel) (da_cons (do_of (de_comp g.toGdT.toGd rfl (di_range1 g.toGdT.toGd (by kernel_rfl) (B "range" (by decide)) (do_var g.toGdT.toGd rfl (.inl (by kernel_rfl)) (by decide) (by decide)) rfl) (own := [("c", 6)]) (by kernel_rfl) (by decide) (fun p1 o1 X1 g1 => (dg_name g1.toGd rfl (by kernel_rfl))) (fun p1 o1 X1 g1 => (pts_one (dt_cmp (o_eq g1.toGd) op2_of (do_of (de_callA g1 rfl ((h__law_draw.mono (by omega)).to ⟨rfl, rfl, rfl, rfl, rfl, rfl, rfl⟩) (fun h => by cases h) (by kernel_rfl) rfl (das_ref g1.toGd rfl (by first | exact .inl (by decide +kernel) | exact .inr (.inl (by decide +kernel)) | exact .inr (.inr (by decide +kernel))) (by decide) (by decide) (das_val de_int das_nil rfl) rfl) (by decide) rfl rfl)) (do_of de_int) rfl))) (fun p1 o1 X1 g1 => (de_var g1.toGd rfl (by first | exact .inl (by decide +kernel) | exact .inr (.inl (by decide +kernel)) | exact .inr (.inr (by decide +kernel))) (by decide) (by decide))) (fun _ => rfl))) da_nil rfl) (by decide) (by decide) rfl rfl) rfl) (dss_one (ds_app g.toGdT.toGd rfl (.inl (by kernel_rfl)) (by decide) (by decide) (de_ite (dt_cmp (o_gt g.toGdT.toGd) op2_of (do_of (de_blt g.toGdT.toGd (c_len g.toGdT.toGd) (by kernel_rfl) (B "len" (by decide)) (by decide +kernel) (da_cons (do_var g.toGdT.toGd rfl (.inl (by kernel_rfl)) (by decide) (by decide)) da_nil rfl) (by decide) (by decide) rfl rfl)) (do_of de_int) rfl) (de_var g.toGdT.toGd rfl (.inl (by kernel_rfl)) (by decide) (by decide)) (de_tup (des_cons (de_callA g.toGdT rfl ((h__law_draw.mono (by omega)).to ⟨rfl, rfl, rfl, rfl, rfl, rfl, rfl⟩) (fun h => by cases h) (by kernel_rfl) rfl (das_ref g.toGdT.toGd rfl (.inr (.inl (by kernel_rfl))) (by decide) (by decide) (das_val (de_var g.toGdT.toGd rfl (.inl (by kernel_rfl)) (by decide) (by decide)) das_nil rfl) rfl) (by decide) rfl rfl) des_nil rfl) (by decide))) rfl rfl rfl rfl))) (fun _ => rfl))) (dss_one (ds_if (dt_cmp (o_lt g.toGdT.toGd) op2_of (do_var g.toGdT.toGd rfl (.inl (by kernel_rfl)) (by decide) (by decide)) (do_of de_int) rfl) (dss_cons (ds_parO g.toGdT.toGd rfl rfl rfl (by decide) (by kernel_rfl) (by kernel_rfl) (by decide) (by decide) (de_lst (des_cons (de_tup (des_cons de_int des_nil rfl) (by decide)) des_nil rfl) (by decide)) (fun p2 o2 g2 => de_int) rfl rfl (sp_two g.toGdT.toGd (by kernel_rfl) (by kernel_rfl) (by kernel_rfl) (by decide) rfl rfl rfl rfl) rfl) (dss_one (ds_while g (dw_and (dt_cmp (o_lt g.toGdT.toGd) op2_of (do_var g.toGdT.toGd rfl (.inl (by kernel_rfl)) (by decide) (by decide)) (do_var g.toGdT.toGd rfl (.inl (by kernel_rfl)) (by decide) (by decide)) rfl) (dw_and1 (dt_cmp (o_lt g.toGdT.toGd) op2_of (do_of (de_blt g.toGdT.toGd (c_len g.toGdT.toGd) (by kernel_rfl) (B "len" (by decide)) (by decide +kernel) (da_cons (do_var g.toGdT.toGd rfl (.inl (by kernel_rfl)) (by decide) (by decide)) da_nil rfl) (by decide) (by decide) rfl rfl)) (do_of de_int) rfl))).pt (dss_cons (ds_asg g.toGdT.toGd rfl (by kernel_rfl) (by decide) (de_ix (o_ix g.toGdT.toGd) op2_of (do_var g.toGdT.toGd rfl (.inl (by kernel_rfl)) (by decide) (by decide)) (do_of (de_callA g.toGdT rfl ((h__law_draw.mono (by omega)).to ⟨rfl, rfl, rfl, rfl, rfl, rfl, rfl⟩) (fun h => by cases h) (by kernel_rfl) rfl (das_ref g.toGdT.toGd rfl (.inr (.inl (by kernel_rfl))) (by decide) (by decide) (das_val (de_blt g.toGdT.toGd (c_len g.toGdT.toGd) (by kernel_rfl) (B "len" (by decide)) (by decide +kernel) (da_cons (do_var g.toGdT.toGd rfl (.inl (by kernel_rfl)) (by decide) (by decide)) da_nil rfl) (by decide) (by decide) rfl rfl) das_nil rfl) rfl) (by decide) rfl rfl)) (fun _ _ => rfl)) rfl) (dss_cons (ds_asg g.toGdT.toGd rfl (by kernel_rfl) (by decide) (de_blt g.toGdT.toGd (c_min g.toGdT.toGd rfl) (by kernel_rfl) (B "min" (by decide)) (by decide +kernel) (da_cons (do_of (de_binop (o_sub) op2_of (do_var g.toGdT.toGd rfl (.inl (by kernel_rfl)) (by decide) (by decide)) (do_var g.toGdT.toGd rfl (.inl (by kernel_rfl)) (by decide) (by decide)))) (da_cons (do_of (de_binop (o_add g.toGdT.toGd) op2_of (do_of de_int) (do_of (de_callA g.toGdT rfl ((h__law_draw.mono (by omega)).to ⟨rfl, rfl, rfl, rfl, rfl, rfl, rfl⟩) (fun h => by cases h) (by kernel_rfl) rfl (das_ref g.toGdT.toGd rfl (.inr (.inl (by kernel_rfl))) (by decide) (by decide) (das_val de_int das_nil rfl) rfl) (by decide) rfl rfl)))) da_nil rfl) rfl) (by decide) (by decide) rfl rfl) rfl) (dss_cons (ds_app g.toGdT.toGd rfl (.inl (by kernel_rfl)) (by decide) (by decide) (de_bty g.toGdT.toGd (c_tuple g.toGdT.toGd) (by kernel_rfl) (B "tuple" (by decide)) (by decide +kernel) (da_cons (do_of (de_binop (o_add g.toGdT.toGd) op2_of (do_of (de_comp g.toGdT.toGd rfl (di_seq g.toGdT.toGd (do_var g.toGdT.toGd rfl (.inl (by kernel_rfl)) (by decide) (by decide))) (own := [("c", 6)]) (by kernel_rfl) (by decide) (fun p3 o3 X3 g3 => (dg_name g3.toGd rfl (by kernel_rfl))) (fun p3 o3 X3 g3 => (pts_one (dt_cmp (o_eq g3.toGd) op2_of (do_of (de_callA g3 rfl ((h__law_draw.mono (by omega)).to ⟨rfl, rfl, rfl, rfl, rfl, rfl, rfl⟩) (fun h => by cases h) (by kernel_rfl) rfl (das_ref g3.toGd rfl (by first | exact .inl (by decide +kernel) | exact .inr (.inl (by decide +kernel)) | exact .inr (.inr (by decide +kernel))) (by decide) (by decide) (das_val de_int das_nil rfl) rfl) (by decide) rfl rfl)) (do_of de_int) rfl))) (fun p3 o3 X3 g3 => (de_var g3.toGd rfl (by first | exact .inl (by decide +kernel) | exact .inr (.inl (by decide +kernel)) | exact .inr (.inr (by decide +kernel))) (by decide) (by decide))) (fun _ => rfl))) (do_of (de_lstRg2 g.toGdT.toGd rfl (by kernel_rfl) (B "list" (by decide)) (by kernel_rfl) (B "range" (by decide)) (do_var g.toGdT.toGd rfl (.inl (by kernel_rfl)) (by decide) (by decide)) (do_of (de_binop (o_add g.toGdT.toGd) op2_of (do_var g.toGdT.toGd rfl (.inl (by kernel_rfl)) (by decide) (by decide)) (do_var g.toGdT.toGd rfl (.inl (by kernel_rfl)) (by decide) (by decide)))) rfl rfl rfl rfl)))) da_nil rfl) (by decide) (by decide) rfl rfl) rfl rfl rfl rfl) (dss_one (ds_asg g.toGdT.toGd rfl (by kernel_rfl) (by decide) (de_binop (o_add g.toGdT.toGd) op2_of (do_var g.toGdT.toGd rfl (.inl (by kernel_rfl)) (by decide) (by decide)) (do_var g.toGdT.toGd rfl (.inl (by kernel_rfl)) (by decide) (by decide))) rfl)))))))) (dss_one (ds_if (dt_cmp (o_eq g.toGdT.toGd) op2_of (do_var g.toGdT.toGd rfl (.inl (by kernel_rfl)) (by decide) (by decide)) (do_of de_int) rfl) (dss_cons (ds_asg g.toGdT.toGd rfl (by kernel_rfl) (by decide) (de_blt g.toGdT.toGd (c_min g.toGdT.toGd rfl) (by kernel_rfl) (B "min" (by decide)) (by decide +kernel) (da_cons (do_var g.toGdT.toGd rfl (.inl (by kernel_rfl)) (by decide) (by decide)) (da_cons (do_of (de_binop (o_add g.toGdT.toGd) op2_of (do_of de_int) (do_of (de_callA g.toGdT rfl ((h__law_draw.mono (by omega)).to ⟨rfl, rfl, rfl, rfl, rfl, rfl, rfl⟩) (fun h => by cases h) (by kernel_rfl) rfl (das_ref g.toGdT.toGd rfl (.inr (.inl (by kernel_rfl))) (by decide) (by decide) (das_val de_int das_nil rfl) rfl) (by decide) rfl rfl)))) da_nil rfl) rfl) (by decide) (by decide) rfl rfl) rfl) (dss_one (ds_asgC g.toGdT.toGd rfl rfl (by kernel_rfl) (by kernel_rfl) (by decide) rfl (by decide +kernel) (di_range1 g.toGdT.toGd (by kernel_rfl) (B "range" (by decide)) (do_var g.toGdT.toGd rfl (.inr (.inl (by kernel_rfl))) (by decide) (by decide)) rfl) (own := [("k", 4)]) (by kernel_rfl) (by decide) (fun p4 o4 X4 g4 => (dg_name g4.toGd rfl (by kernel_rfl))) (fun p4 o4 X4 g4 => (pts_one (dt_cmp (o_gt g4.toGd) op2_of (do_var g4.toGd rfl (by first | exact .inl (by decide +kernel) | exact .inr (.inl (by decide +kernel)) | exact .inr (.inr (by decide +kernel))) (by decide) (by decide)) (do_of de_int) rfl))) (fun p4 o4 X4 g4 => (de_bty g4.toGd (c_tuple g4.toGd) (by kernel_rfl) (B "tuple" (by decide)) (by decide +kernel) (da_cons (do_of (de_blt g4.toGd (c_sorted g4.toGd) (by kernel_rfl) (B "sorted" (by decide)) (by decide +kernel) (da_cons (do_of (de_lst (des_cons (de_var g4.toGd rfl (by first | exact .inl (by decide +kernel) | exact .inr (.inl (by decide +kernel)) | exact .inr (.inr (by decide +kernel))) (by decide) (by decide)) (des_cons (de_binop (o_mod) op2_of (do_of (de_binop (o_add g4.toGd) op2_of (do_var g4.toGd rfl (by first | exact .inl (by decide +kernel) | exact .inr (.inl (by decide +kernel)) | exact .inr (.inr (by decide +kernel))) (by decide) (by decide)) (do_of de_int))) (do_var g4.toGd rfl (by first | exact .inl (by decide +kernel) | exact .inr (.inl (by decide +kernel)) | exact .inr (.inr (by decide +kernel))) (by decide) (by decide))) des_nil rfl) rfl) (by decide))) da_nil rfl) (by decide) (by decide) rfl rfl)) da_nil rfl) (by decide) (by decide) rfl rfl)) (fun _ => rfl)))) (dss_one (ds_if (dt_cmp (o_eq g.toGdT.toGd) op2_of (do_var g.toGdT.toGd rfl (.inl (by kernel_rfl)) (by decide) (by decide)) (do_of de_int) rfl) (dss_cons (ds_asg g.toGdT.toGd rfl (by kernel_rfl) (by decide) (de_blt g.toGdT.toGd (c_min g.toGdT.toGd rfl) (by kernel_rfl) (B "min" (by decide)) (by decide +kernel) (da_cons (do_var g.toGdT.toGd rfl (.inl (by kernel_rfl)) (by decide) (by decide)) (da_cons (do_of (de_binop (o_add g.toGdT.toGd) op2_of (do_of de_int) (do_of (de_callA g.toGdT rfl ((h__law_draw.mono (by omega)).to ⟨rfl, rfl, rfl, rfl, rfl, rfl, rfl⟩) (fun h => by cases h) (by kernel_rfl) rfl (das_ref g.toGdT.toGd rfl (.inr (.inl (by kernel_rfl))) (by decide) (by decide) (das_val de_int das_nil rfl) rfl) (by decide) rfl rfl)))) da_nil rfl) rfl) (by decide) (by decide) rfl rfl) rfl) (dss_one (ds_asgC g.toGdT.toGd rfl rfl (by kernel_rfl) (by kernel_rfl) (by decide) rfl (by decide +kernel) (di_range1 g.toGdT.toGd (by kernel_rfl) (B "range" (by decide)) (do_var g.toGdT.toGd rfl (.inr (.inl (by kernel_rfl))) (by decide) (by decide)) rfl) (own := [("k", 4)]) (by kernel_rfl) (by decide) (fun p5 o5 X5 g5 => (dg_name g5.toGd rfl (by kernel_rfl))) (fun p5 o5 X5 g5 => (pts_one (dt_cmp (o_gt g5.toGd) op2_of (do_var g5.toGd rfl (by first | exact .inl (by decide +kernel) | exact .inr (.inl (by decide +kernel)) | exact .inr (.inr (by decide +kernel))) (by decide) (by decide)) (do_of de_int) rfl))) (fun p5 o5 X5 g5 => (de_bty g5.toGd (c_tuple g5.toGd) (by kernel_rfl) (B "tuple" (by decide)) (by decide +kernel) (da_cons (do_of (de_comp g5.toGd rfl (di_range1 g5.toGd (by kernel_rfl) (B "range" (by decide)) (do_var g5.toGd rfl (by first | exact .inl (by decide +kernel) | exact .inr (.inl (by decide +kernel)) | exact .inr (.inr (by decide +kernel))) (by decide) (by decide)) rfl) (own := [("c", 6)]) (by kernel_rfl) (by decide) (fun p6 o6 X6 g6 => (dg_name g6.toGd rfl (by kernel_rfl))) (fun p6 o6 X6 g6 => (pts_one (dt_cmp (o_ne g6.toGd) op2_of (do_var g6.toGd rfl (by first | exact .inl (by decide +kernel) | exact .inr (.inl (by decide +kernel)) | exact .inr (.inr (by decide +kernel))) (by decide) (by decide)) (do_var g6.toGd rfl (by first | exact .inl (by decide +kernel) | exact .inr (.inl (by decide +kernel)) | exact .inr (.inr (by decide +kernel))) (by decide) (by decide)) rfl))) (fun p6 o6 X6 g6 => (de_var g6.toGd rfl (by first | exact .inl (by decide +kernel) | exact .inr (.inl (by decide +kernel)) | exact .inr (.inr (by decide +kernel))) (by decide) (by decide))) (fun _ => rfl))) da_nil rfl) (by decide) (by decide) rfl rfl)) (fun _ => rfl)))) (dss_cons (ds_asg g.toGdT.toGd rfl (by kernel_rfl) (by decide) (de_blt g.toGdT.toGd (c_min g.toGdT.toGd rfl) (by kernel_rfl) (B "min" (by decide)) (by decide +kernel) (da_cons (do_var g.toGdT.toGd rfl (.inl (by kernel_rfl)) (by decide) (by decide)) (da_cons (do_of (de_binop (o_add g.toGdT.toGd) op2_of (do_of de_int) (do_of (de_callA g.toGdT rfl ((h__law_draw.mono (by omega)).to ⟨rfl, rfl, rfl, rfl, rfl, rfl, rfl⟩) (fun h => by cases h) (by kernel_rfl) rfl (das_ref g.toGdT.toGd rfl (.inr (.inl (by kernel_rfl))) (by decide) (by decide) (das_val de_int das_nil rfl) rfl) (by decide) rfl rfl)))) da_nil rfl) rfl) (by decide) (by decide) rfl rfl) rfl) (dss_one (ds_for g rfl (by decide) (di_range1 g.toGdT.toGd (by kernel_rfl) (B "range" (by decide)) (do_var g.toGdT.toGd rfl (.inr (.inl (by kernel_rfl))) (by decide) (by decide)) rfl) (dg_name g.toGdT.toGd rfl (by kernel_rfl)) (dss_one (ds_asg g.toGdT.toGd rfl (by kernel_rfl) (by decide) (de_binop (o_add g.toGdT.toGd) op2_of (do_var g.toGdT.toGd rfl (.inl (by kernel_rfl)) (by decide) (by decide)) (do_of (de_comp g.toGdT.toGd rfl (di_range1 g.toGdT.toGd (by kernel_rfl) (B "range" (by decide)) (do_var g.toGdT.toGd rfl (.inr (.inl (by kernel_rfl))) (by decide) (by decide)) rfl) (own := [("c", 6)]) (by kernel_rfl) (by decide) (fun p7 o7 X7 g7 => (dg_name g7.toGd rfl (by kernel_rfl))) (fun p7 o7 X7 g7 => dts_nil) (fun p7 o7 X7 g7 => (de_tup (des_cons (de_var g7.toGd rfl (by first | exact .inl (by decide +kernel) | exact .inr (.inl (by decide +kernel)) | exact .inr (.inr (by decide +kernel))) (by decide) (by decide)) (des_cons (de_var g7.toGd rfl (by first | exact .inl (by decide +kernel) | exact .inr (.inl (by decide +kernel)) | exact .inr (.inr (by decide +kernel))) (by decide) (by decide)) des_nil rfl) rfl) (by decide))) (fun _ => rfl)))) rfl)) (fun _ => rfl))))))))))) (dss_cons (ds_for g rfl (by decide) (di_range1 g.toGdT.toGd (by kernel_rfl) (B "range" (by decide)) (do_of (de_callA g.toGdT rfl ((h__law_draw.mono (by omega)).to ⟨rfl, rfl, rfl, rfl, rfl, rfl, rfl⟩) (fun h => by cases h) (by kernel_rfl) rfl (das_ref g.toGdT.toGd rfl (.inr (.inl (by kernel_rfl))) (by decide) (by decide) (das_val de_int das_nil rfl) rfl) (by decide) rfl rfl)) rfl) (dg_name g.toGdT.toGd rfl (by kernel_rfl)) (dss_cons (ds_asg g.toGdT.toGd rfl (by kernel_rfl) (by decide) (de_bty g.toGdT.toGd (c_tuple g.toGdT.toGd) (by kernel_rfl) (B "tuple" (by decide)) (by decide +kernel) (da_cons (do_of (de_comp g.toGdT.toGd rfl (di_range1 g.toGdT.toGd (by kernel_rfl) (B "range" (by decide)) (do_var g.toGdT.toGd rfl (.inl (by kernel_rfl)) (by decide) (by decide)) rfl) (own := [("c", 6)]) (by kernel_rfl) (by decide) (fun p8 o8 X8 g8 => (dg_name g8.toGd rfl (by kernel_rfl))) (fun p8 o8 X8 g8 => (pts_one (dt_cmp (o_eq g8.toGd) op2_of (do_of (de_callA g8 rfl ((h__law_draw.mono (by omega)).to ⟨rfl, rfl, rfl, rfl, rfl, rfl, rfl⟩) (fun h => by cases h) (by kernel_rfl) rfl (das_ref g8.toGd rfl (by first | exact .inl (by decide +kernel) | exact .inr (.inl (by decide +kernel)) | exact .inr (.inr (by decide +kernel))) (by decide) (by decide) (das_val de_int das_nil rfl) rfl) (by decide) rfl rfl)) (do_of de_int) rfl))) (fun p8 o8 X8 g8 => (de_var g8.toGd rfl (by first | exact .inl (by decide +kernel) | exact .inr (.inl (by decide +kernel)) | exact .inr (.inr (by decide +kernel))) (by decide) (by decide))) (fun _ => rfl))) da_nil rfl) (by decide) (by decide) rfl rfl) rfl) (dss_one (ds_asg g.toGdT.toGd rfl (by kernel_rfl) (by decide) (de_binop (o_add g.toGdT.toGd) op2_of (do_var g.toGdT.toGd rfl (.inl (by kernel_rfl)) (by decide) (by decide)) (do_of (de_ite (dt_cmp (o_gt g.toGdT.toGd) op2_of (do_of (de_blt g.toGdT.toGd (c_len g.toGdT.toGd) (by kernel_rfl) (B "len" (by decide)) (by decide +kernel) (da_cons (do_var g.toGdT.toGd rfl (.inl (by kernel_rfl)) (by decide) (by decide)) da_nil rfl) (by decide) (by decide) rfl rfl)) (do_of de_int) rfl) (de_lst (des_cons (de_var g.toGdT.toGd rfl (.inl (by kernel_rfl)) (by decide) (by decide)) des_nil rfl) (by decide)) (de_lst des_nil (by decide))))) rfl))) (fun _ => rfl)) (dss_cons (ds_asg g.toGdT.toGd rfl (by kernel_rfl) (by decide) (de_lstRg1 g.toGdT.toGd rfl (by kernel_rfl) (B "list" (by decide)) (by kernel_rfl) (B "range" (by decide)) (do_var g.toGdT.toGd rfl (.inl (by kernel_rfl)) (by decide) (by decide)) rfl rfl) rfl) (dss_cons (ds_for g rfl (by decide) (di_range1 g.toGdT.toGd (by kernel_rfl) (B "range" (by decide)) (do_var g.toGdT.toGd rfl (.inl (by kernel_rfl)) (by decide) (by decide)) rfl) (dg_name g.toGdT.toGd rfl (by kernel_rfl)) (dss_cons (ds_asg g.toGdT.toGd rfl (by kernel_rfl) (by decide) (de_binop (o_add g.toGdT.toGd) op2_of (do_var g.toGdT.toGd rfl (.inr (.inl (by kernel_rfl))) (by decide) (by decide)) (do_of (de_callA g.toGdT rfl ((h__law_draw.mono (by omega)).to ⟨rfl, rfl, rfl, rfl, rfl, rfl, rfl⟩) (fun h => by cases h) (by kernel_rfl) rfl (das_ref g.toGdT.toGd rfl (.inr (.inl (by kernel_rfl))) (by decide) (by decide) (das_val (de_binop (o_sub) op2_of (do_var g.toGdT.toGd rfl (.inl (by kernel_rfl)) (by decide) (by decide)) (do_var g.toGdT.toGd rfl (.inr (.inl (by kernel_rfl))) (by decide) (by decide))) das_nil rfl) rfl) (by decide) rfl rfl))) rfl) (dss_one (ds_sub2 g.toGdT.toGd rfl (de_tup (des_cons (de_ix (o_ix g.toGdT.toGd) op2_of (do_var g.toGdT.toGd rfl (.inr (.inl (by kernel_rfl))) (by decide) (by decide)) (do_var g.toGdT.toGd rfl (.inl (by kernel_rfl)) (by decide) (by decide)) (fun _ _ => rfl)) (des_cons (de_ix (o_ix g.toGdT.toGd) op2_of (do_var g.toGdT.toGd rfl (.inr (.inl (by kernel_rfl))) (by decide) (by decide)) (do_var g.toGdT.toGd rfl (.inr (.inl (by kernel_rfl))) (by decide) (by decide)) (fun _ _ => rfl)) des_nil rfl) rfl) (by decide)) (dg_sub g.toGdT.toGd rfl (.inr (.inl (by kernel_rfl))) (by decide) (by decide) (do_var g.toGdT.toGd rfl (.inr (.inl (by kernel_rfl))) (by decide) (by decide)) (fun _ => rfl)) (dg_sub g.toGdT.toGd rfl (.inr (.inl (by kernel_rfl))) (by decide) (by decide) (do_var g.toGdT.toGd rfl (.inl (by kernel_rfl)) (by decide) (by decide)) (fun _ => rfl)) rfl sp_sub2 rfl rfl rfl rfl rfl))) (fun _ => rfl)) (dss_one (ds_ret (de_callA g.toGdT rfl ((h__law_ordered.mono (by omega)).to ⟨rfl, rfl, rfl, rfl, rfl, rfl, rfl⟩) (fun h => by cases h) (by kernel_rfl) rfl (das_val (de_var g.toGdT.toGd rfl (.inl (by kernel_rfl)) (by decide) (by decide)) (das_val (de_comp g.toGdT.toGd rfl (di_seq g.toGdT.toGd (do_var g.toGdT.toGd rfl (.inl (by kernel_rfl)) (by decide) (by decide))) (own := [("edge", 5)]) (by kernel_rfl) (by decide) (fun p9 o9 X9 g9 => (dg_name g9.toGd rfl (by kernel_rfl))) (fun p9 o9 X9 g9 => dts_nil) (fun p9 o9 X9 g9 => (de_bty g9.toGd (c_tuple g9.toGd) (by kernel_rfl) (B "tuple" (by decide)) (by decide +kernel) (da_cons (do_of (de_blt g9.toGd (c_sorted g9.toGd) (by kernel_rfl) (B "sorted" (by decide)) (by decide +kernel) (da_cons (do_of (de_comp g9.toGd rfl (di_seq g9.toGd (do_var g9.toGd rfl (by first | exact .inl (by decide +kernel) | exact .inr (.inl (by decide +kernel)) | exact .inr (.inr (by decide +kernel))) (by decide) (by decide))) (own := [("c", 6)]) (by kernel_rfl) (by decide) (fun p10 o10 X10 g10 => (dg_name g10.toGd rfl (by kernel_rfl))) (fun p10 o10 X10 g10 => dts_nil) (fun p10 o10 X10 g10 => (de_ix (o_ix g10.toGd) op2_of (do_var g10.toGd rfl (by first | exact .inl (by decide +kernel) | exact .inr (.inl (by decide +kernel)) | exact .inr (.inr (by decide +kernel))) (by decide) (by decide)) (do_var g10.toGd rfl (by first | exact .inl (by decide +kernel) | exact .inr (.inl (by decide +kernel)) | exact .inr (.inr (by decide +kernel))) (by decide) (by decide)) (fun _ _ => rfl))) (fun _ => rfl))) da_nil rfl) (by decide) (by decide) rfl rfl)) da_nil rfl) (by decide) (by decide) rfl rfl)) (fun _ => rfl)) das_nil rfl) rfl) (by decide) rfl rfl)))))))))
def _law_schema_F : StF := (sSeq (sAsg 2 (eBin dAdd (oOf (eCon (.int 1))) (oOf (eCall _law_draw_S [.ref 0, .val (eCon (.int 9))])))) (sSeq (sParO 3 4 (eLst []) (eVar 1)) (sSeq (sFor [0, 1, 2, 3, 4, 5, 6] (iRange1 (oVar 2)) (.name 5) (sSeq (sAsg 6 (eBin dIx (oOf (eLst [(eCon (.int 2)), (eCon (.int 2)), (eCon (.int 2)), (eCon (.int 3)), (eCon (.int 2)), (eCon (.int 1)), (eCon (.int 4))])) (oOf (eCall _law_draw_S [.ref 0, .val (eCon (.int 7))])))) (sSeq (sWhile (tVal (eBin dGt (oVar 6) (oVar 4))) (sAsg 6 (eBin dSub (oVar 6) (oOf (eCon (.int 1)))))) (sSeq (sApp 3 (eVar 6)) (sAsg 4 (eBin dDiv (oVar 4) (oVar 6))))))) (sRet (eTup [(eOps dTuple [(oVar 3)]), (eCall _law_edges_S [.ref 0, .val (eVar 2)])])))))
def _law_schema_S : Fun := runF _law_schema_F 7 [true, false]
theorem f__law_schema {Γ : Ctx} (h__law_draw : FnAt Γ false 1 "_law_draw" ["box", "many"] [true, false] _law_draw_S) (h__law_edges : FnAt Γ false 2 "_law_edges" ["box", "many"] [true, false] _law_edges_S) (D0 : ∃ fd, FunD Γ.K "_law_schema" "_law_schema" (defArgs Hd.s__law_schema) (defBody Hd.s__law_schema) (defScope Hd.s__law_schema) [] [] (He.fAd Γ.K ("_law_schema", none)) fd) (m0 : Γ.mg "_law_schema" = some (.ref (He.fAd Γ.K ("_law_schema", none)))) (B : Bare Γ) : FnAt Γ false 3 "_law_schema" ["box", "most"] [true, false] _law_schema_S := by
  obtain ⟨fd, Fd⟩ := D0
  refine fnAt_of (k := 2) (N := ["box", "most", "many", "values", "room", "k", "v"]) Fd ⟨by kernel_rfl, by kernel_rfl, by kernel_rfl, by decide +kernel, by decide +kernel, by decide +kernel, by decide +kernel⟩ m0 (FunD.bindsN Fd fun _ _ _ _ _ _ us hl => match us, hl with | [_, _], _ => rfl) rfl rfl (as := [0, 1, 2, 3, 4, 5, 6]) fun F0 H0 ino X W g hq hc => ?_
  unfold _law_schema_F
  exact (dss_cons (ds_asg g.toGdT.toGd rfl (by kernel_rfl) (by decide) (de_binop (o_add g.toGdT.toGd) op2_of (do_of de_int) (do_of (de_callA g.toGdT rfl ((h__law_draw.mono (by omega)).to ⟨rfl, rfl, rfl, rfl, rfl, rfl, rfl⟩) (fun h => by cases h) (by kernel_rfl) rfl (das_ref g.toGdT.toGd rfl (.inl (by kernel_rfl)) (by decide) (by decide) (das_val de_int das_nil rfl) rfl) (by decide) rfl rfl))) rfl) (dss_cons (ds_parO g.toGdT.toGd rfl rfl rfl (by decide) (by kernel_rfl) (by kernel_rfl) (by decide) (by decide) (de_lst des_nil (by decide)) (fun p1 o1 g1 => (de_var g1 rfl (.inl (by kernel_rfl)) (by decide) (by decide))) rfl rfl (sp_two g.toGdT.toGd (by kernel_rfl) (by kernel_rfl) (by kernel_rfl) (by decide) rfl rfl rfl rfl) rfl) (dss_cons (ds_for g rfl (by decide) (di_range1 g.toGdT.toGd (by kernel_rfl) (B "range" (by decide)) (do_var g.toGdT.toGd rfl (.inl (by kernel_rfl)) (by decide) (by decide)) rfl) (dg_name g.toGdT.toGd rfl (by kernel_rfl)) (dss_cons (ds_asg g.toGdT.toGd rfl (by kernel_rfl) (by decide) (de_ix (o_ix g.toGdT.toGd) op2_of (do_of (de_lst (des_cons de_int (des_cons de_int (des_cons de_int (des_cons de_int (des_cons de_int (des_cons de_int (des_cons de_int des_nil rfl) rfl) rfl) rfl) rfl) rfl) rfl) (by decide))) (do_of (de_callA g.toGdT rfl ((h__law_draw.mono (by omega)).to ⟨rfl, rfl, rfl, rfl, rfl, rfl, rfl⟩) (fun h => by cases h) (by kernel_rfl) rfl (das_ref g.toGdT.toGd rfl (.inl (by kernel_rfl)) (by decide) (by decide) (das_val de_int das_nil rfl) rfl) (by decide) rfl rfl)) (fun _ _ => rfl)) rfl) (dss_cons (ds_while g (dt_cmp (o_gt g.toGdT.toGd) op2_of (do_var g.toGdT.toGd rfl (.inl (by kernel_rfl)) (by decide) (by decide)) (do_var g.toGdT.toGd rfl (.inl (by kernel_rfl)) (by decide) (by decide)) rfl) (dss_one (ds_asg g.toGdT.toGd rfl (by kernel_rfl) (by decide) (de_binop (o_sub) op2_of (do_var g.toGdT.toGd rfl (.inl (by kernel_rfl)) (by decide) (by decide)) (do_of de_int)) rfl))) (dss_cons (ds_app g.toGdT.toGd rfl (.inl (by kernel_rfl)) (by decide) (by decide) (de_var g.toGdT.toGd rfl (.inl (by kernel_rfl)) (by decide) (by decide)) rfl rfl rfl rfl) (dss_one (ds_asg g.toGdT.toGd rfl (by kernel_rfl) (by decide) (de_binop (o_div) op2_of (do_var g.toGdT.toGd rfl (.inl (by kernel_rfl)) (by decide) (by decide)) (do_var g.toGdT.toGd rfl (.inl (by kernel_rfl)) (by decide) (by decide))) rfl))))) (fun _ => rfl)) (dss_one (ds_ret (de_tup (des_cons (de_bty g.toGdT.toGd (c_tuple g.toGdT.toGd) (by kernel_rfl) (B "tuple" (by decide)) (by decide +kernel) (da_cons (do_var g.toGdT.toGd rfl (.inl (by kernel_rfl)) (by decide) (by decide)) da_nil rfl) (by decide) (by decide) rfl rfl) (des_cons (de_callA g.toGdT rfl ((h__law_edges.mono (by omega)).to ⟨rfl, rfl, rfl, rfl, rfl, rfl, rfl⟩) (fun h => by cases h) (by kernel_rfl) rfl (das_ref g.toGdT.toGd rfl (.inl (by kernel_rfl)) (by decide) (by decide) (das_val (de_var g.toGdT.toGd rfl (.inl (by kernel_rfl)) (by decide) (by decide)) das_nil rfl) rfl) (by decide) rfl rfl) des_nil rfl) rfl) (by decide)))))))
def _law_spoilt_F : StF := (sSeq (sAsgT (.tup [(.name 2), (.name 3)]) (eVar 1)) (sSeq (sAsg 4 (eOps dLen [(oVar 2)])) (sSeq (sAsg 5 (eRg1 .tuple false (oVar 4))) (sSeq (sAsg 6 (eLst [(eTup [(eBin dAdd (oVar 2) (oOf (eTup [(eCon (.int 5))]))), (eBin dAdd (oVar 3) (oOf (eTup [(eTup [(eVar 4)])])))]), (eTup [(eBin dAdd (oOf (eSlice (oVar 2) none (some (oOf (eUn dNeg (oOf (eCon (.int 1)))))))) (oOf (eTup [(eCon (.int 0))]))), (eVar 3)]), (eTup [(eTup [(eCon (.int 4)), (eCon (.int 4)), (eCon (.int 4)), (eCon (.int 4)), (eCon (.int 4))]), (eTup [(eTup [(eCon (.int 0)), (eCon (.int 1)), (eCon (.int 2)), (eCon (.int 3)), (eCon (.int 4))])])]), (eTup [(eTup []), (eTup [])]), (eTup [(eBin dMul (oOf (eTup [(eCon (.int 2))])) (oOf (eCon (.int 10)))), (eTup [(eRg1 .tuple false (oOf (eCon (.int 10))))])])])) (sSeq (sAsg 6 (eBin dAdd (oVar 6) (oOf (eLst [(eTup [(eVar 2), (eTup [])]), (eTup [(eVar 2), (eBin dAdd (oVar 3) (oOf (eTup [(eBin dIx (oVar 3) (oOf (eUn dNeg (oOf (eCon (.int 1))))))])))]), (eTup [(eVar 2), (eBin dAdd (oOf (eSlice (oVar 3) (some (oOf (eCon (.int 1)))) none)) (oOf (eSlice (oVar 3) none (some (oOf (eCon (.int 1)))))))]), (eTup [(eVar 2), (eBin dAdd (oVar 3) (oOf (eTup [(eTup [(eVar 4)])])))]), (eTup [(eVar 2), (eBin dAdd (oOf (eTup [(eTup [])])) (oVar 3))])])))) (sSeq (sAsg 6 (eBin dAdd (oVar 6) (oOf (eLst [(eTup [(eVar 2), (eTup [(eUn dRev (oVar 5))])]), (eTup [(eVar 2), (eSlice (oVar 3) (some (oOf (eCon (.int 1)))) none)]), (eTup [(eVar 2), (eVar 3), (eTup [])]), (eTup [(eVar 2), (eTup [(eBin dAdd (oVar 5) (oOf (eTup [(eBin dSub (oVar 4) (oOf (eCon (.int 1))))])))])]), (eTup [(eBin dAdd (oVar 2) (oOf (eTup [(eCon (.int 1))]))), (eVar 3)]), (eCon (.int 7)), (eCon (.str "schema")), (eTup [(eVar 2)])])))) (sSeq (sAsg 6 (eBin dAdd (oVar 6) (oOf (eLst [(eTup [(eVar 2), (eCon (.int 3))]), (eTup [(eVar 2), (eTup [(eCon (.int 3))])]), (eTup [(eVar 2), (eTup [(eCon (.str "0"))])]), (eTup [(eBin dAdd (oOf (eTup [(eCon (.str "2"))])) (oOf (eSlice (oVar 2) (some (oOf (eCon (.int 1)))) none))), (eVar 3)]), (eTup [(eVar 2), (eTup [(eTup [(eCon (.int 0)), (eCon (.str "1"))])])]), (eTup [(eCon (.int 2)), (eVar 3)]), (eCon .none), (eTup [(eTup [(eCon (.int 2)), (eCon (.int 4)), (eCon (.int 4)), (eCon (.int 4)), (eCon (.int 4))]), (eTup [(eTup [(eCon (.int 0)), (eCon (.int 1))]), (eTup [(eCon (.int 1)), (eCon (.int 2)), (eCon (.int 3)), (eCon (.int 4))])])])])))) (sSeq (sAsg 6 (eBin dAdd (oVar 6) (oOf (eLst [(eTup [(eBin dMul (oOf (eTup [(eCon (.int 2))])) (oOf (eCon (.int 9)))), (eOps dTuple [(oOf (eBin dAdd (oOf (eComp [7] (iRange2 (oOf (eCon (.int 1))) (oOf (eCon (.int 9)))) (.name 7) tTrue (eTup [(eCon (.int 0)), (eVar 7)]))) (oOf (eLst [(eTup [(eCon (.int 1)), (eCon (.int 2))]), (eTup [(eCon (.int 1)), (eCon (.int 3))]), (eTup [(eCon (.int 1)), (eCon (.int 4))])]))))])]), (eTup [(eBin dMul (oOf (eTup [(eCon (.int 2))])) (oOf (eCon (.int 9)))), (eTup [(eTup [(eCon (.int 0)), (eCon (.int 1)), (eCon (.int 2)), (eCon (.int 3)), (eCon (.int 4)), (eCon (.int 5)), (eCon (.int 6)), (eCon (.int 7)), (eCon (.int 8))])])]), (eTup [(eBin dMul (oOf (eTup [(eCon (.int 1))])) (oOf (eCon (.int 9)))), (eTup [(eTup [(eCon (.int 0)), (eCon (.int 1)), (eCon (.int 2)), (eCon (.int 3)), (eCon (.int 4)), (eCon (.int 5)), (eCon (.int 6)), (eCon (.int 7)), (eCon (.int 8))])])])])))) (sRet (eBin dIx (oVar 6) (oOf (eCall _law_draw_S [.ref 0, .val (eOps dLen [(oVar 6)])]))))))))))))
def _law_spoilt_S : Fun := runF _law_spoilt_F 8 [true, false]
theorem f__law_spoilt {Γ : Ctx} (h__law_draw : FnAt Γ false 1 "_law_draw" ["box", "many"] [true, false] _law_draw_S) (D0 : ∃ fd, FunD Γ.K "_law_spoilt" "_law_spoilt" (defArgs Hd.s__law_spoilt) (defBody Hd.s__law_spoilt) (defScope Hd.s__law_spoilt) [] [] (He.fAd Γ.K ("_law_spoilt", none)) fd) (m0 : Γ.mg "_law_spoilt" = some (.ref (He.fAd Γ.K ("_law_spoilt", none)))) (B : Bare Γ) : FnAt Γ false 2 "_law_spoilt" ["box", "schema"] [true, false] _law_spoilt_S := by
  obtain ⟨fd, Fd⟩ := D0
  refine fnAt_of (k := 1) (N := ["box", "schema", "values", "edges", "many", "full", "bad", "c"]) Fd ⟨by kernel_rfl, by kernel_rfl, by kernel_rfl, by decide +kernel, by decide +kernel, by decide +kernel, by decide +kernel⟩ m0 (FunD.bindsN Fd fun _ _ _ _ _ _ us hl => match us, hl with | [_, _], _ => rfl) rfl rfl (as := [0, 1, 2, 3, 4, 5, 6]) fun F0 H0 ino X W g hq hc => ?_
  unfold _law_spoilt_F
  exact (dss_cons (ds_asgT (by decide) (de_var g.toGdT.toGd rfl (.inl (by kernel_rfl)) (by decide) (by decide)) (dg_tup g.toGdT.toGd rfl (dgs_cons (dg_name g.toGdT.toGd rfl (by kernel_rfl)) (dgs_cons (dg_name g.toGdT.toGd rfl (by kernel_rfl)) dgs_nil rfl) rfl) rfl rfl rfl) rfl rfl rfl) (dss_cons (ds_asg g.toGdT.toGd rfl (by kernel_rfl) (by decide) (de_blt g.toGdT.toGd (c_len g.toGdT.toGd) (by kernel_rfl) (B "len" (by decide)) (by decide +kernel) (da_cons (do_var g.toGdT.toGd rfl (.inl (by kernel_rfl)) (by decide) (by decide)) da_nil rfl) (by decide) (by decide) rfl rfl) rfl) (dss_cons (ds_asg g.toGdT.toGd rfl (by kernel_rfl) (by decide) (de_tupRg1 g.toGdT.toGd rfl (by kernel_rfl) (B "tuple" (by decide)) (by kernel_rfl) (B "range" (by decide)) (do_var g.toGdT.toGd rfl (.inl (by kernel_rfl)) (by decide) (by decide)) rfl rfl) rfl) (dss_cons (ds_asg g.toGdT.toGd rfl (by kernel_rfl) (by decide) (de_lst (des_cons (de_tup (des_cons (de_binop (o_add g.toGdT.toGd) op2_of (do_var g.toGdT.toGd rfl (.inl (by kernel_rfl)) (by decide) (by decide)) (do_of (de_tup (des_cons de_int des_nil rfl) (by decide)))) (des_cons (de_binop (o_add g.toGdT.toGd) op2_of (do_var g.toGdT.toGd rfl (.inl (by kernel_rfl)) (by decide) (by decide)) (do_of (de_tup (des_cons (de_tup (des_cons (de_var g.toGdT.toGd rfl (.inl (by kernel_rfl)) (by decide) (by decide)) des_nil rfl) (by decide)) des_nil rfl) (by decide)))) des_nil rfl) rfl) (by decide)) (des_cons (de_tup (des_cons (de_binop (o_add g.toGdT.toGd) op2_of (do_of (de_slice g.toGdT.toGd (do_var g.toGdT.toGd rfl (.inl (by kernel_rfl)) (by decide) (by decide)) dp_none (dp_some (do_of (de_unop o_neg op1_of (do_of de_int)))))) (do_of (de_tup (des_cons de_int des_nil rfl) (by decide)))) (des_cons (de_var g.toGdT.toGd rfl (.inl (by kernel_rfl)) (by decide) (by decide)) des_nil rfl) rfl) (by decide)) (des_cons (de_tup (des_cons (de_tup (des_cons de_int (des_cons de_int (des_cons de_int (des_cons de_int (des_cons de_int des_nil rfl) rfl) rfl) rfl) rfl) (by decide)) (des_cons (de_tup (des_cons (de_tup (des_cons de_int (des_cons de_int (des_cons de_int (des_cons de_int (des_cons de_int des_nil rfl) rfl) rfl) rfl) rfl) (by decide)) des_nil rfl) (by decide)) des_nil rfl) rfl) (by decide)) (des_cons (de_tup (des_cons (de_tup des_nil (by decide)) (des_cons (de_tup des_nil (by decide)) des_nil rfl) rfl) (by decide)) (des_cons (de_tup (des_cons (de_binop (o_mul g.toGdT.toGd) op2_of (do_of (de_tup (des_cons de_int des_nil rfl) (by decide))) (do_of de_int)) (des_cons (de_tup (des_cons (de_tupRg1 g.toGdT.toGd rfl (by kernel_rfl) (B "tuple" (by decide)) (by kernel_rfl) (B "range" (by decide)) (do_of de_int) rfl rfl) des_nil rfl) (by decide)) des_nil rfl) rfl) (by decide)) des_nil rfl) rfl) rfl) rfl) rfl) (by decide)) rfl) (dss_cons (ds_asg g.toGdT.toGd rfl (by kernel_rfl) (by decide) (de_binop (o_add g.toGdT.toGd) op2_of (do_var g.toGdT.toGd rfl (.inl (by kernel_rfl)) (by decide) (by decide)) (do_of (de_lst (des_cons (de_tup (des_cons (de_var g.toGdT.toGd rfl (.inl (by kernel_rfl)) (by decide) (by decide)) (des_cons (de_tup des_nil (by decide)) des_nil rfl) rfl) (by decide)) (des_cons (de_tup (des_cons (de_var g.toGdT.toGd rfl (.inl (by kernel_rfl)) (by decide) (by decide)) (des_cons (de_binop (o_add g.toGdT.toGd) op2_of (do_var g.toGdT.toGd rfl (.inl (by kernel_rfl)) (by decide) (by decide)) (do_of (de_tup (des_cons (de_ix (o_ix g.toGdT.toGd) op2_of (do_var g.toGdT.toGd rfl (.inl (by kernel_rfl)) (by decide) (by decide)) (do_of (de_unop o_neg op1_of (do_of de_int))) (fun _ _ => rfl)) des_nil rfl) (by decide)))) des_nil rfl) rfl) (by decide)) (des_cons (de_tup (des_cons (de_var g.toGdT.toGd rfl (.inl (by kernel_rfl)) (by decide) (by decide)) (des_cons (de_binop (o_add g.toGdT.toGd) op2_of (do_of (de_slice g.toGdT.toGd (do_var g.toGdT.toGd rfl (.inl (by kernel_rfl)) (by decide) (by decide)) (dp_some (do_of de_int)) dp_none)) (do_of (de_slice g.toGdT.toGd (do_var g.toGdT.toGd rfl (.inl (by kernel_rfl)) (by decide) (by decide)) dp_none (dp_some (do_of de_int))))) des_nil rfl) rfl) (by decide)) (des_cons (de_tup (des_cons (de_var g.toGdT.toGd rfl (.inl (by kernel_rfl)) (by decide) (by decide)) (des_cons (de_binop (o_add g.toGdT.toGd) op2_of (do_var g.toGdT.toGd rfl (.inl (by kernel_rfl)) (by decide) (by decide)) (do_of (de_tup (des_cons (de_tup (des_cons (de_var g.toGdT.toGd rfl (.inl (by kernel_rfl)) (by decide) (by decide)) des_nil rfl) (by decide)) des_nil rfl) (by decide)))) des_nil rfl) rfl) (by decide)) (des_cons (de_tup (des_cons (de_var g.toGdT.toGd rfl (.inl (by kernel_rfl)) (by decide) (by decide)) (des_cons (de_binop (o_add g.toGdT.toGd) op2_of (do_of (de_tup (des_cons (de_tup des_nil (by decide)) des_nil rfl) (by decide))) (do_var g.toGdT.toGd rfl (.inl (by kernel_rfl)) (by decide) (by decide))) des_nil rfl) rfl) (by decide)) des_nil rfl) rfl) rfl) rfl) rfl) (by decide)))) rfl) (dss_cons (ds_asg g.toGdT.toGd rfl (by kernel_rfl) (by decide) (de_binop (o_add g.toGdT.toGd) op2_of (do_var g.toGdT.toGd rfl (.inl (by kernel_rfl)) (by decide) (by decide)) (do_of (de_lst (des_cons (de_tup (des_cons (de_var g.toGdT.toGd rfl (.inl (by kernel_rfl)) (by decide) (by decide)) (des_cons (de_tup (des_cons (de_rev g.toGdT.toGd (do_var g.toGdT.toGd rfl (.inl (by kernel_rfl)) (by decide) (by decide))) des_nil rfl) (by decide)) des_nil rfl) rfl) (by decide)) (des_cons (de_tup (des_cons (de_var g.toGdT.toGd rfl (.inl (by kernel_rfl)) (by decide) (by decide)) (des_cons (de_slice g.toGdT.toGd (do_var g.toGdT.toGd rfl (.inl (by kernel_rfl)) (by decide) (by decide)) (dp_some (do_of de_int)) dp_none) des_nil rfl) rfl) (by decide)) (des_cons (de_tup (des_cons (de_var g.toGdT.toGd rfl (.inl (by kernel_rfl)) (by decide) (by decide)) (des_cons (de_var g.toGdT.toGd rfl (.inl (by kernel_rfl)) (by decide) (by decide)) (des_cons (de_tup des_nil (by decide)) des_nil rfl) rfl) rfl) (by decide)) (des_cons (de_tup (des_cons (de_var g.toGdT.toGd rfl (.inl (by kernel_rfl)) (by decide) (by decide)) (des_cons (de_tup (des_cons (de_binop (o_add g.toGdT.toGd) op2_of (do_var g.toGdT.toGd rfl (.inl (by kernel_rfl)) (by decide) (by decide)) (do_of (de_tup (des_cons (de_binop (o_sub) op2_of (do_var g.toGdT.toGd rfl (.inl (by kernel_rfl)) (by decide) (by decide)) (do_of de_int)) des_nil rfl) (by decide)))) des_nil rfl) (by decide)) des_nil rfl) rfl) (by decide)) (des_cons (de_tup (des_cons (de_binop (o_add g.toGdT.toGd) op2_of (do_var g.toGdT.toGd rfl (.inl (by kernel_rfl)) (by decide) (by decide)) (do_of (de_tup (des_cons de_int des_nil rfl) (by decide)))) (des_cons (de_var g.toGdT.toGd rfl (.inl (by kernel_rfl)) (by decide) (by decide)) des_nil rfl) rfl) (by decide)) (des_cons de_int (des_cons de_str (des_cons (de_tup (des_cons (de_var g.toGdT.toGd rfl (.inl (by kernel_rfl)) (by decide) (by decide)) des_nil rfl) (by decide)) des_nil rfl) rfl) rfl) rfl) rfl) rfl) rfl) rfl) (by decide)))) rfl) (dss_cons (ds_asg g.toGdT.toGd rfl (by kernel_rfl) (by decide) (de_binop (o_add g.toGdT.toGd) op2_of (do_var g.toGdT.toGd rfl (.inl (by kernel_rfl)) (by decide) (by decide)) (do_of (de_lst (des_cons (de_tup (des_cons (de_var g.toGdT.toGd rfl (.inl (by kernel_rfl)) (by decide) (by decide)) (des_cons de_int des_nil rfl) rfl) (by decide)) (des_cons (de_tup (des_cons (de_var g.toGdT.toGd rfl (.inl (by kernel_rfl)) (by decide) (by decide)) (des_cons (de_tup (des_cons de_int des_nil rfl) (by decide)) des_nil rfl) rfl) (by decide)) (des_cons (de_tup (des_cons (de_var g.toGdT.toGd rfl (.inl (by kernel_rfl)) (by decide) (by decide)) (des_cons (de_tup (des_cons de_str des_nil rfl) (by decide)) des_nil rfl) rfl) (by decide)) (des_cons (de_tup (des_cons (de_binop (o_add g.toGdT.toGd) op2_of (do_of (de_tup (des_cons de_str des_nil rfl) (by decide))) (do_of (de_slice g.toGdT.toGd (do_var g.toGdT.toGd rfl (.inl (by kernel_rfl)) (by decide) (by decide)) (dp_some (do_of de_int)) dp_none))) (des_cons (de_var g.toGdT.toGd rfl (.inl (by kernel_rfl)) (by decide) (by decide)) des_nil rfl) rfl) (by decide)) (des_cons (de_tup (des_cons (de_var g.toGdT.toGd rfl (.inl (by kernel_rfl)) (by decide) (by decide)) (des_cons (de_tup (des_cons (de_tup (des_cons de_int (des_cons de_str des_nil rfl) rfl) (by decide)) des_nil rfl) (by decide)) des_nil rfl) rfl) (by decide)) (des_cons (de_tup (des_cons de_int (des_cons (de_var g.toGdT.toGd rfl (.inl (by kernel_rfl)) (by decide) (by decide)) des_nil rfl) rfl) (by decide)) (des_cons de_none (des_cons (de_tup (des_cons (de_tup (des_cons de_int (des_cons de_int (des_cons de_int (des_cons de_int (des_cons de_int des_nil rfl) rfl) rfl) rfl) rfl) (by decide)) (des_cons (de_tup (des_cons (de_tup (des_cons de_int (des_cons de_int des_nil rfl) rfl) (by decide)) (des_cons (de_tup (des_cons de_int (des_cons de_int (des_cons de_int (des_cons de_int des_nil rfl) rfl) rfl) rfl) (by decide)) des_nil rfl) rfl) (by decide)) des_nil rfl) rfl) (by decide)) des_nil rfl) rfl) rfl) rfl) rfl) rfl) rfl) rfl) (by decide)))) rfl) (dss_cons (ds_asg g.toGdT.toGd rfl (by kernel_rfl) (by decide) (de_binop (o_add g.toGdT.toGd) op2_of (do_var g.toGdT.toGd rfl (.inl (by kernel_rfl)) (by decide) (by decide)) (do_of (de_lst (des_cons (de_tup (des_cons (de_binop (o_mul g.toGdT.toGd) op2_of (do_of (de_tup (des_cons de_int des_nil rfl) (by decide))) (do_of de_int)) (des_cons (de_bty g.toGdT.toGd (c_tuple g.toGdT.toGd) (by kernel_rfl) (B "tuple" (by decide)) (by decide +kernel) (da_cons (do_of (de_binop (o_add g.toGdT.toGd) op2_of (do_of (de_comp g.toGdT.toGd rfl (di_range2 g.toGdT.toGd (by kernel_rfl) (B "range" (by decide)) (do_of de_int) (do_of de_int) rfl rfl) (own := [("c", 7)]) (by kernel_rfl) (by decide) (fun p1 o1 X1 g1 => (dg_name g1.toGd rfl (by kernel_rfl))) (fun p1 o1 X1 g1 => dts_nil) (fun p1 o1 X1 g1 => (de_tup (des_cons de_int (des_cons (de_var g1.toGd rfl (by first | exact .inl (by decide +kernel) | exact .inr (.inl (by decide +kernel)) | exact .inr (.inr (by decide +kernel))) (by decide) (by decide)) des_nil rfl) rfl) (by decide))) (fun _ => rfl))) (do_of (de_lst (des_cons (de_tup (des_cons de_int (des_cons de_int des_nil rfl) rfl) (by decide)) (des_cons (de_tup (des_cons de_int (des_cons de_int des_nil rfl) rfl) (by decide)) (des_cons (de_tup (des_cons de_int (des_cons de_int des_nil rfl) rfl) (by decide)) des_nil rfl) rfl) rfl) (by decide))))) da_nil rfl) (by decide) (by decide) rfl rfl) des_nil rfl) rfl) (by decide)) (des_cons (de_tup (des_cons (de_binop (o_mul g.toGdT.toGd) op2_of (do_of (de_tup (des_cons de_int des_nil rfl) (by decide))) (do_of de_int)) (des_cons (de_tup (des_cons (de_tup (des_cons de_int (des_cons de_int (des_cons de_int (des_cons de_int (des_cons de_int (des_cons de_int (des_cons de_int (des_cons de_int (des_cons de_int des_nil rfl) rfl) rfl) rfl) rfl) rfl) rfl) rfl) rfl) (by decide)) des_nil rfl) (by decide)) des_nil rfl) rfl) (by decide)) (des_cons (de_tup (des_cons (de_binop (o_mul g.toGdT.toGd) op2_of (do_of (de_tup (des_cons de_int des_nil rfl) (by decide))) (do_of de_int)) (des_cons (de_tup (des_cons (de_tup (des_cons de_int (des_cons de_int (des_cons de_int (des_cons de_int (des_cons de_int (des_cons de_int (des_cons de_int (des_cons de_int (des_cons de_int des_nil rfl) rfl) rfl) rfl) rfl) rfl) rfl) rfl) rfl) (by decide)) des_nil rfl) (by decide)) des_nil rfl) rfl) (by decide)) des_nil rfl) rfl) rfl) (by decide)))) rfl) (dss_one (ds_ret (de_ix (o_ix g.toGdT.toGd) op2_of (do_var g.toGdT.toGd rfl (.inl (by kernel_rfl)) (by decide) (by decide)) (do_of (de_callA g.toGdT rfl ((h__law_draw.mono (by omega)).to ⟨rfl, rfl, rfl, rfl, rfl, rfl, rfl⟩) (fun h => by cases h) (by kernel_rfl) rfl (das_ref g.toGdT.toGd rfl (.inl (by kernel_rfl)) (by decide) (by decide) (das_val (de_blt g.toGdT.toGd (c_len g.toGdT.toGd) (by kernel_rfl) (B "len" (by decide)) (by decide +kernel) (da_cons (do_var g.toGdT.toGd rfl (.inl (by kernel_rfl)) (by decide) (by decide)) da_nil rfl) (by decide) (by decide) rfl rfl) das_nil rfl) rfl) (by decide) rfl rfl)) (fun _ _ => rfl))))))))))))
def _law_cell_F : StF := (sRet (eIte (tVal (eBin dLt (oVar 1) (oOf (eOps dLen [(oVar 0)])))) (eOps dInt [(oOf (eBin dIx (oVar 0) (oVar 1)))]) (eCon (.int 0))))
def _law_cell_S : Fun := runF _law_cell_F 2 [false, false]
theorem f__law_cell {Γ : Ctx} (D0 : ∃ fd, FunD Γ.K "_law_cell" "_law_cell" (defArgs Hd.s__law_cell) (defBody Hd.s__law_cell) (defScope Hd.s__law_cell) [] [] (He.fAd Γ.K ("_law_cell", none)) fd) (m0 : Γ.mg "_law_cell" = some (.ref (He.fAd Γ.K ("_law_cell", none)))) (B : Bare Γ) : FnAt Γ false 1 "_law_cell" ["script", "k"] [false, false] _law_cell_S := by
  obtain ⟨fd, Fd⟩ := D0
  refine fnAt_of (k := 0) (N := ["script", "k"]) Fd ⟨by kernel_rfl, by kernel_rfl, by kernel_rfl, by decide +kernel, by decide +kernel, by decide +kernel, by decide +kernel⟩ m0 (FunD.bindsN Fd fun _ _ _ _ _ _ us hl => match us, hl with | [_, _], _ => rfl) rfl rfl (as := [0, 1]) fun F0 H0 ino X W g hq hc => ?_
  unfold _law_cell_F
  exact (dss_one (ds_ret (de_ite (dt_cmp (o_lt g.toGdT.toGd) op2_of (do_var g.toGdT.toGd rfl (.inl (by kernel_rfl)) (by decide) (by decide)) (do_of (de_blt g.toGdT.toGd (c_len g.toGdT.toGd) (by kernel_rfl) (B "len" (by decide)) (by decide +kernel) (da_cons (do_var g.toGdT.toGd rfl (.inl (by kernel_rfl)) (by decide) (by decide)) da_nil rfl) (by decide) (by decide) rfl rfl)) rfl) (de_bty g.toGdT.toGd (c_int) (by kernel_rfl) (B "int" (by decide)) (by decide +kernel) (da_cons (do_of (de_ix (o_ix g.toGdT.toGd) op2_of (do_var g.toGdT.toGd rfl (.inl (by kernel_rfl)) (by decide) (by decide)) (do_var g.toGdT.toGd rfl (.inl (by kernel_rfl)) (by decide) (by decide)) (fun _ _ => rfl))) da_nil rfl) (by decide) (by decide) rfl rfl) de_int)))
def _law_stream_F : StF := (sRet (eLst [(eOps dAbs [(oOf (eCall _law_cell_S [.val (eVar 0), .val (eVar 1)]))]), (eBin dAdd (oOf (eBin dMod (oOf (eOps dAbs [(oOf (eCall _law_cell_S [.val (eVar 0), .val (eVar 1)]))])) (oOf (eCon (.int 1000003))))) (oOf (eCon (.int 7))))]))
def _law_stream_S : Fun := runF _law_stream_F 2 [false, false]
theorem f__law_stream {Γ : Ctx} (h__law_cell : FnAt Γ false 1 "_law_cell" ["script", "k"] [false, false] _law_cell_S) (D0 : ∃ fd, FunD Γ.K "_law_stream" "_law_stream" (defArgs Hd.s__law_stream) (defBody Hd.s__law_stream) (defScope Hd.s__law_stream) [] [] (He.fAd Γ.K ("_law_stream", none)) fd) (m0 : Γ.mg "_law_stream" = some (.ref (He.fAd Γ.K ("_law_stream", none)))) (B : Bare Γ) : FnAt Γ false 2 "_law_stream" ["script", "k"] [false, false] _law_stream_S := by
  obtain ⟨fd, Fd⟩ := D0
  refine fnAt_of (k := 1) (N := ["script", "k"]) Fd ⟨by kernel_rfl, by kernel_rfl, by kernel_rfl, by decide +kernel, by decide +kernel, by decide +kernel, by decide +kernel⟩ m0 (FunD.bindsN Fd fun _ _ _ _ _ _ us hl => match us, hl with | [_, _], _ => rfl) rfl rfl (as := [0, 1]) fun F0 H0 ino X W g hq hc => ?_
  unfold _law_stream_F
  exact (dss_one (ds_ret (de_lst (des_cons (de_blt g.toGdT.toGd (c_abs) (by kernel_rfl) (B "abs" (by decide)) (by decide +kernel) (da_cons (do_of (de_callA g.toGdT rfl ((h__law_cell.mono (by omega)).to ⟨rfl, rfl, rfl, rfl, rfl, rfl, rfl⟩) (fun h => by cases h) (by kernel_rfl) rfl (das_val (de_var g.toGdT.toGd rfl (.inl (by kernel_rfl)) (by decide) (by decide)) (das_val (de_var g.toGdT.toGd rfl (.inl (by kernel_rfl)) (by decide) (by decide)) das_nil rfl) rfl) (by decide) rfl rfl)) da_nil rfl) (by decide) (by decide) rfl rfl) (des_cons (de_binop (o_add g.toGdT.toGd) op2_of (do_of (de_binop (o_mod) op2_of (do_of (de_blt g.toGdT.toGd (c_abs) (by kernel_rfl) (B "abs" (by decide)) (by decide +kernel) (da_cons (do_of (de_callA g.toGdT rfl ((h__law_cell.mono (by omega)).to ⟨rfl, rfl, rfl, rfl, rfl, rfl, rfl⟩) (fun h => by cases h) (by kernel_rfl) rfl (das_val (de_var g.toGdT.toGd rfl (.inl (by kernel_rfl)) (by decide) (by decide)) (das_val (de_var g.toGdT.toGd rfl (.inl (by kernel_rfl)) (by decide) (by decide)) das_nil rfl) rfl) (by decide) rfl rfl)) da_nil rfl) (by decide) (by decide) rfl rfl)) (do_of de_int))) (do_of de_int)) des_nil rfl) rfl) (by decide))))
def is_rising_F : StF := (sSeq (sIf (tOr2 (tNot1 (tVal (eUn (dIsi "tuple") (oVar 0)))) (tNot1 (tVal (eOps dAll [(oOf (eComp [1] (iSeq (oVar 0)) (.name 1) tTrue (eUn (dIsi "int") (oVar 1))))])))) (sRet (eCon (.bool false))) sNx) (sRet (eOps dAll [(oOf (eComp [2] (iRange1 (oOf (eBin dSub (oOf (eOps dLen [(oVar 0)])) (oOf (eCon (.int 1)))))) (.name 2) tTrue (eBin dLt (oOf (eBin dIx (oVar 0) (oVar 2))) (oOf (eBin dIx (oVar 0) (oOf (eBin dAdd (oVar 2) (oOf (eCon (.int 1))))))))))])))
def is_rising_S : Fun := runF is_rising_F 3 [false]
theorem f_is_rising {Γ : Ctx} (D0 : ∃ fd, FunD Γ.K "is_rising" "is_rising" (defArgs Hd.s_is_rising) (defBody Hd.s_is_rising) (defScope Hd.s_is_rising) [] [] (He.fAd Γ.K ("is_rising", none)) fd) (m0 : Γ.mg "is_rising" = some (.ref (He.fAd Γ.K ("is_rising", none)))) (B : Bare Γ) : FnAt Γ false 1 "is_rising" ["values"] [false] is_rising_S := by
  obtain ⟨fd, Fd⟩ := D0
  refine fnAt_of (k := 0) (N := ["values", "value", "at"]) Fd ⟨by kernel_rfl, by kernel_rfl, by kernel_rfl, by decide +kernel, by decide +kernel, by decide +kernel, by decide +kernel⟩ m0 (FunD.bindsN Fd fun _ _ _ _ _ _ us hl => match us, hl with | [_], _ => rfl) rfl rfl (as := [0]) fun F0 H0 ino X W g hq hc => ?_
  unfold is_rising_F
  exact (dss_cons (ds_if (dw_or (dt_not (dt_val (de_isi g.toGdT.toGd (by kernel_rfl) (B "isinstance" (by decide)) (by kernel_rfl) (B "tuple" (by decide)) (by decide +kernel) (by decide) (by decide) (do_var g.toGdT.toGd rfl (.inr (.inl (by kernel_rfl))) (by decide) (by decide)) rfl rfl rfl) (fun _ => rfl))) (dw_or1 (dt_not (dt_val (de_blt g.toGdT.toGd (c_all g.toGdT.toGd rfl) (by kernel_rfl) (B "all" (by decide)) (by decide +kernel) (da_cons (do_of (de_comp g.toGdT.toGd rfl (di_seq g.toGdT.toGd (do_var g.toGdT.toGd rfl (.inr (.inl (by kernel_rfl))) (by decide) (by decide))) (own := [("value", 1)]) (by kernel_rfl) (by decide) (fun p1 o1 X1 g1 => (dg_name g1.toGd rfl (by kernel_rfl))) (fun p1 o1 X1 g1 => dts_nil) (fun p1 o1 X1 g1 => (de_isi g1.toGd (by kernel_rfl) (B "isinstance" (by decide)) (by kernel_rfl) (B "int" (by decide)) (by decide +kernel) (by decide) (by decide) (do_var g1.toGd rfl (by first | exact .inl (by decide +kernel) | exact .inr (.inl (by decide +kernel)) | exact .inr (.inr (by decide +kernel))) (by decide) (by decide)) rfl rfl rfl)) (fun _ => rfl))) da_nil rfl) (by decide) (by decide) rfl rfl) (fun _ => rfl))))).pt (dss_one (ds_ret de_bool)) dss_nil) (dss_one (ds_ret (de_blt g.toGdT.toGd (c_all g.toGdT.toGd rfl) (by kernel_rfl) (B "all" (by decide)) (by decide +kernel) (da_cons (do_of (de_comp g.toGdT.toGd rfl (di_range1 g.toGdT.toGd (by kernel_rfl) (B "range" (by decide)) (do_of (de_binop (o_sub) op2_of (do_of (de_blt g.toGdT.toGd (c_len g.toGdT.toGd) (by kernel_rfl) (B "len" (by decide)) (by decide +kernel) (da_cons (do_var g.toGdT.toGd rfl (.inr (.inl (by kernel_rfl))) (by decide) (by decide)) da_nil rfl) (by decide) (by decide) rfl rfl)) (do_of de_int))) rfl) (own := [("at", 2)]) (by kernel_rfl) (by decide) (fun p2 o2 X2 g2 => (dg_name g2.toGd rfl (by kernel_rfl))) (fun p2 o2 X2 g2 => dts_nil) (fun p2 o2 X2 g2 => (de_cmp (o_lt g2.toGd) op2_of (do_of (de_ix (o_ix g2.toGd) op2_of (do_var g2.toGd rfl (by first | exact .inl (by decide +kernel) | exact .inr (.inl (by decide +kernel)) | exact .inr (.inr (by decide +kernel))) (by decide) (by decide)) (do_var g2.toGd rfl (by first | exact .inl (by decide +kernel) | exact .inr (.inl (by decide +kernel)) | exact .inr (.inr (by decide +kernel))) (by decide) (by decide)) (fun _ _ => rfl))) (do_of (de_ix (o_ix g2.toGd) op2_of (do_var g2.toGd rfl (by first | exact .inl (by decide +kernel) | exact .inr (.inl (by decide +kernel)) | exact .inr (.inr (by decide +kernel))) (by decide) (by decide)) (do_of (de_binop (o_add g2.toGd) op2_of (do_var g2.toGd rfl (by first | exact .inl (by decide +kernel) | exact .inr (.inl (by decide +kernel)) | exact .inr (.inr (by decide +kernel))) (by decide) (by decide)) (do_of de_int))) (fun _ _ => rfl))) rfl)) (fun _ => rfl))) da_nil rfl) (by decide) (by decide) rfl rfl))))
def are_columns_F : StF := (sRet (eAnd2 (eCall is_rising_S [.val (eVar 0)]) (eOps dAll [(oOf (eComp [2] (iSeq (oVar 0)) (.name 2) tTrue (eChain dLe dLt (oOf (eCon (.int 0))) (oVar 2) (oVar 1))))])))
def are_columns_S : Fun := runF are_columns_F 3 [false, false]
theorem f_are_columns {Γ : Ctx} (h_is_rising : FnAt Γ false 1 "is_rising" ["values"] [false] is_rising_S) (D0 : ∃ fd, FunD Γ.K "are_columns" "are_columns" (defArgs Hd.s_are_columns) (defBody Hd.s_are_columns) (defScope Hd.s_are_columns) [] [] (He.fAd Γ.K ("are_columns", none)) fd) (m0 : Γ.mg "are_columns" = some (.ref (He.fAd Γ.K ("are_columns", none)))) (B : Bare Γ) : FnAt Γ false 2 "are_columns" ["values", "many"] [false, false] are_columns_S := by
  obtain ⟨fd, Fd⟩ := D0
  refine fnAt_of (k := 1) (N := ["values", "many", "column"]) Fd ⟨by kernel_rfl, by kernel_rfl, by kernel_rfl, by decide +kernel, by decide +kernel, by decide +kernel, by decide +kernel⟩ m0 (FunD.bindsN Fd fun _ _ _ _ _ _ us hl => match us, hl with | [_, _], _ => rfl) rfl rfl (as := [0, 1]) fun F0 H0 ino X W g hq hc => ?_
  unfold are_columns_F
  exact (dss_one (ds_ret (de_and (de_callA g.toGdT rfl ((h_is_rising.mono (by omega)).to ⟨rfl, rfl, rfl, rfl, rfl, rfl, rfl⟩) (fun h => by cases h) (by kernel_rfl) rfl (das_val (de_var g.toGdT.toGd rfl (.inl (by kernel_rfl)) (by decide) (by decide)) das_nil rfl) (by decide) rfl rfl) (de_and1 (de_blt g.toGdT.toGd (c_all g.toGdT.toGd rfl) (by kernel_rfl) (B "all" (by decide)) (by decide +kernel) (da_cons (do_of (de_comp g.toGdT.toGd rfl (di_seq g.toGdT.toGd (do_var g.toGdT.toGd rfl (.inl (by kernel_rfl)) (by decide) (by decide))) (own := [("column", 2)]) (by kernel_rfl) (by decide) (fun p1 o1 X1 g1 => (dg_name g1.toGd rfl (by kernel_rfl))) (fun p1 o1 X1 g1 => dts_nil) (fun p1 o1 X1 g1 => (de_chain (o_le g1.toGd) (o_lt g1.toGd) op2_of op2_of (do_of de_int) (do_var g1.toGd rfl (by first | exact .inl (by decide +kernel) | exact .inr (.inl (by decide +kernel)) | exact .inr (.inr (by decide +kernel))) (by decide) (by decide)) (do_var g1.toGd rfl (by first | exact .inl (by decide +kernel) | exact .inr (.inl (by decide +kernel)) | exact .inr (.inr (by decide +kernel))) (by decide) (by decide)) rfl)) (fun _ => rfl))) da_nil rfl) (by decide) (by decide) rfl rfl) rfl))))
def are_edges_F : StF := (sSeq (sIf (tOr2 (tNot1 (tVal (eUn (dIsi "tuple") (oVar 0)))) (tNot1 (tVal (eChain dLe dLe (oOf (eCon (.int 1))) (oOf (eOps dLen [(oVar 0)])) (oOf (eCon (.int 10))))))) (sRet (eCon (.bool false))) sNx) (sSeq (sIf (tNot1 (tVal (eOps dAll [(oOf (eComp [2] (iSeq (oVar 0)) (.name 2) tTrue (eAnd2 (eCall are_columns_S [.val (eVar 2), .val (eVar 1)]) (eBin dGt (oOf (eOps dLen [(oVar 2)])) (oOf (eCon (.int 0)))))))]))) (sRet (eCon (.bool false))) sNx) (sSeq (sIf (tNot1 (tVal (eOps dAll [(oOf (eComp [3] (iRange1 (oOf (eBin dSub (oOf (eOps dLen [(oVar 0)])) (oOf (eCon (.int 1)))))) (.name 3) tTrue (eBin dLt (oOf (eBin dIx (oVar 0) (oVar 3))) (oOf (eBin dIx (oVar 0) (oOf (eBin dAdd (oVar 3) (oOf (eCon (.int 1))))))))))]))) (sRet (eCon (.bool false))) sNx) (sRet (eOps dAll [(oOf (eComp [4] (iRange1 (oVar 1)) (.name 4) tTrue (eOps dAny [(oOf (eComp [2] (iSeq (oVar 0)) (.name 2) tTrue (eBin dIn (oVar 4) (oVar 2))))])))])))))
def are_edges_S : Fun := runF are_edges_F 5 [false, false]
theorem f_are_edges {Γ : Ctx} (h_are_columns : FnAt Γ false 2 "are_columns" ["values", "many"] [false, false] are_columns_S) (D0 : ∃ fd, FunD Γ.K "are_edges" "are_edges" (defArgs Hd.s_are_edges) (defBody Hd.s_are_edges) (defScope Hd.s_are_edges) [] [] (He.fAd Γ.K ("are_edges", none)) fd) (m0 : Γ.mg "are_edges" = some (.ref (He.fAd Γ.K ("are_edges", none)))) (B : Bare Γ) (C : Ints Γ) : FnAt Γ false 3 "are_edges" ["edges", "many"] [false, false] are_edges_S := by
  obtain ⟨fd, Fd⟩ := D0
  refine fnAt_of (k := 2) (N := ["edges", "many", "edge", "at", "column"]) Fd ⟨by kernel_rfl, by kernel_rfl, by kernel_rfl, by decide +kernel, by decide +kernel, by decide +kernel, by decide +kernel⟩ m0 (FunD.bindsN Fd fun _ _ _ _ _ _ us hl => match us, hl with | [_, _], _ => rfl) rfl rfl (as := [0, 1]) fun F0 H0 ino X W g hq hc => ?_
  unfold are_edges_F
  exact (dss_cons (ds_if (dw_or (dt_not (dt_val (de_isi g.toGdT.toGd (by kernel_rfl) (B "isinstance" (by decide)) (by kernel_rfl) (B "tuple" (by decide)) (by decide +kernel) (by decide) (by decide) (do_var g.toGdT.toGd rfl (.inr (.inl (by kernel_rfl))) (by decide) (by decide)) rfl rfl rfl) (fun _ => rfl))) (dw_or1 (dt_not (dt_chain (o_le g.toGdT.toGd) (o_le g.toGdT.toGd) op2_of op2_of (do_of de_int) (do_of (de_blt g.toGdT.toGd (c_len g.toGdT.toGd) (by kernel_rfl) (B "len" (by decide)) (by decide +kernel) (da_cons (do_var g.toGdT.toGd rfl (.inr (.inl (by kernel_rfl))) (by decide) (by decide)) da_nil rfl) (by decide) (by decide) rfl rfl)) (do_of (de_gint g.toGdT.toGd (by kernel_rfl) (C.c_MOST_EDGES) (by decide))) rfl)))).pt (dss_one (ds_ret de_bool)) dss_nil) (dss_cons (ds_if (dt_not (dt_val (de_blt g.toGdT.toGd (c_all g.toGdT.toGd rfl) (by kernel_rfl) (B "all" (by decide)) (by decide +kernel) (da_cons (do_of (de_comp g.toGdT.toGd rfl (di_seq g.toGdT.toGd (do_var g.toGdT.toGd rfl (.inr (.inl (by kernel_rfl))) (by decide) (by decide))) (own := [("edge", 2)]) (by kernel_rfl) (by decide) (fun p1 o1 X1 g1 => (dg_name g1.toGd rfl (by kernel_rfl))) (fun p1 o1 X1 g1 => dts_nil) (fun p1 o1 X1 g1 => (de_and (de_callA g1 rfl ((h_are_columns.mono (by omega)).to ⟨rfl, rfl, rfl, rfl, rfl, rfl, rfl⟩) (fun h => by cases h) (by kernel_rfl) rfl (das_val (de_var g1.toGd rfl (by first | exact .inl (by decide +kernel) | exact .inr (.inl (by decide +kernel)) | exact .inr (.inr (by decide +kernel))) (by decide) (by decide)) (das_val (de_var g1.toGd rfl (by first | exact .inl (by decide +kernel) | exact .inr (.inl (by decide +kernel)) | exact .inr (.inr (by decide +kernel))) (by decide) (by decide)) das_nil rfl) rfl) (by decide) rfl rfl) (de_and1 (de_cmp (o_gt g1.toGd) op2_of (do_of (de_blt g1.toGd (c_len g1.toGd) (by kernel_rfl) (B "len" (by decide)) (by decide +kernel) (da_cons (do_var g1.toGd rfl (by first | exact .inl (by decide +kernel) | exact .inr (.inl (by decide +kernel)) | exact .inr (.inr (by decide +kernel))) (by decide) (by decide)) da_nil rfl) (by decide) (by decide) rfl rfl)) (do_of de_int) rfl) rfl))) (fun _ => rfl))) da_nil rfl) (by decide) (by decide) rfl rfl) (fun _ => rfl))) (dss_one (ds_ret de_bool)) dss_nil) (dss_cons (ds_if (dt_not (dt_val (de_blt g.toGdT.toGd (c_all g.toGdT.toGd rfl) (by kernel_rfl) (B "all" (by decide)) (by decide +kernel) (da_cons (do_of (de_comp g.toGdT.toGd rfl (di_range1 g.toGdT.toGd (by kernel_rfl) (B "range" (by decide)) (do_of (de_binop (o_sub) op2_of (do_of (de_blt g.toGdT.toGd (c_len g.toGdT.toGd) (by kernel_rfl) (B "len" (by decide)) (by decide +kernel) (da_cons (do_var g.toGdT.toGd rfl (.inr (.inl (by kernel_rfl))) (by decide) (by decide)) da_nil rfl) (by decide) (by decide) rfl rfl)) (do_of de_int))) rfl) (own := [("at", 3)]) (by kernel_rfl) (by decide) (fun p2 o2 X2 g2 => (dg_name g2.toGd rfl (by kernel_rfl))) (fun p2 o2 X2 g2 => dts_nil) (fun p2 o2 X2 g2 => (de_cmp (o_lt g2.toGd) op2_of (do_of (de_ix (o_ix g2.toGd) op2_of (do_var g2.toGd rfl (by first | exact .inl (by decide +kernel) | exact .inr (.inl (by decide +kernel)) | exact .inr (.inr (by decide +kernel))) (by decide) (by decide)) (do_var g2.toGd rfl (by first | exact .inl (by decide +kernel) | exact .inr (.inl (by decide +kernel)) | exact .inr (.inr (by decide +kernel))) (by decide) (by decide)) (fun _ _ => rfl))) (do_of (de_ix (o_ix g2.toGd) op2_of (do_var g2.toGd rfl (by first | exact .inl (by decide +kernel) | exact .inr (.inl (by decide +kernel)) | exact .inr (.inr (by decide +kernel))) (by decide) (by decide)) (do_of (de_binop (o_add g2.toGd) op2_of (do_var g2.toGd rfl (by first | exact .inl (by decide +kernel) | exact .inr (.inl (by decide +kernel)) | exact .inr (.inr (by decide +kernel))) (by decide) (by decide)) (do_of de_int))) (fun _ _ => rfl))) rfl)) (fun _ => rfl))) da_nil rfl) (by decide) (by decide) rfl rfl) (fun _ => rfl))) (dss_one (ds_ret de_bool)) dss_nil) (dss_one (ds_ret (de_blt g.toGdT.toGd (c_all g.toGdT.toGd rfl) (by kernel_rfl) (B "all" (by decide)) (by decide +kernel) (da_cons (do_of (de_comp g.toGdT.toGd rfl (di_range1 g.toGdT.toGd (by kernel_rfl) (B "range" (by decide)) (do_var g.toGdT.toGd rfl (.inr (.inl (by kernel_rfl))) (by decide) (by decide)) rfl) (own := [("column", 4)]) (by kernel_rfl) (by decide) (fun p3 o3 X3 g3 => (dg_name g3.toGd rfl (by kernel_rfl))) (fun p3 o3 X3 g3 => dts_nil) (fun p3 o3 X3 g3 => (de_blt g3.toGd (c_any g3.toGd rfl) (by kernel_rfl) (B "any" (by decide)) (by decide +kernel) (da_cons (do_of (de_comp g3.toGd rfl (di_seq g3.toGd (do_var g3.toGd rfl (by first | exact .inl (by decide +kernel) | exact .inr (.inl (by decide +kernel)) | exact .inr (.inr (by decide +kernel))) (by decide) (by decide))) (own := [("edge", 2)]) (by kernel_rfl) (by decide) (fun p4 o4 X4 g4 => (dg_name g4.toGd rfl (by kernel_rfl))) (fun p4 o4 X4 g4 => dts_nil) (fun p4 o4 X4 g4 => (de_cmp (o_in g4.toGd) op2_of (do_var g4.toGd rfl (by first | exact .inl (by decide +kernel) | exact .inr (.inl (by decide +kernel)) | exact .inr (.inr (by decide +kernel))) (by decide) (by decide)) (do_var g4.toGd rfl (by first | exact .inl (by decide +kernel) | exact .inr (.inl (by decide +kernel)) | exact .inr (.inr (by decide +kernel))) (by decide) (by decide)) rfl)) (fun _ => rfl))) da_nil rfl) (by decide) (by decide) rfl rfl)) (fun _ => rfl))) da_nil rfl) (by decide) (by decide) rfl rfl))))))
def how_many_F : StF := (sSeq (sAsg 1 (eCon (.int 1))) (sSeq (sFor [0, 1, 2] (iSeq (oVar 0)) (.name 2) (sAsg 1 (eBin dMul (oVar 1) (oVar 2)))) (sRet (eMove 1))))
def how_many_S : Fun := runF how_many_F 3 [false]
theorem f_how_many {Γ : Ctx} (D0 : ∃ fd, FunD Γ.K "how_many" "how_many" (defArgs Hd.s_how_many) (defBody Hd.s_how_many) (defScope Hd.s_how_many) [] [] (He.fAd Γ.K ("how_many", none)) fd) (m0 : Γ.mg "how_many" = some (.ref (He.fAd Γ.K ("how_many", none)))) (B : Bare Γ) : FnAt Γ false 1 "how_many" ["values"] [false] how_many_S := by
  obtain ⟨fd, Fd⟩ := D0
  refine fnAt_of (k := 0) (N := ["values", "found", "value"]) Fd ⟨by kernel_rfl, by kernel_rfl, by kernel_rfl, by decide +kernel, by decide +kernel, by decide +kernel, by decide +kernel⟩ m0 (FunD.bindsN Fd fun _ _ _ _ _ _ us hl => match us, hl with | [_], _ => rfl) rfl rfl (as := [0, 1, 2]) fun F0 H0 ino X W g hq hc => ?_
  unfold how_many_F
  exact (dss_cons (ds_asg g.toGdT.toGd rfl (by kernel_rfl) (by decide) de_int rfl) (dss_cons (ds_for g rfl (by decide) (di_seq g.toGdT.toGd (do_var g.toGdT.toGd rfl (.inl (by kernel_rfl)) (by decide) (by decide))) (dg_name g.toGdT.toGd rfl (by kernel_rfl)) (dss_one (ds_asg g.toGdT.toGd rfl (by kernel_rfl) (by decide) (de_binop (o_mul g.toGdT.toGd) op2_of (do_var g.toGdT.toGd rfl (.inl (by kernel_rfl)) (by decide) (by decide)) (do_var g.toGdT.toGd rfl (.inl (by kernel_rfl)) (by decide) (by decide))) rfl)) (fun _ => rfl)) (dss_one (ds_ret (de_move g.toGdT.toGd rfl (.inl (by kernel_rfl)) (by decide) (by decide))))))
def is_schema_F : StF := (sSeq (sIf (tOr2 (tNot1 (tVal (eUn (dIsi "tuple") (oVar 0)))) (tVal (eBin dNe (oOf (eOps dLen [(oVar 0)])) (oOf (eCon (.int 2)))))) (sRet (eCon (.bool false))) sNx) (sSeq (sAsg 1 (eBin dIx (oVar 0) (oOf (eCon (.int 0))))) (sSeq (sIf (tOr2 (tNot1 (tVal (eUn (dIsi "tuple") (oVar 1)))) (tNot1 (tVal (eChain dLe dLe (oOf (eCon (.int 1))) (oOf (eOps dLen [(oVar 1)])) (oOf (eCon (.int 9))))))) (sRet (eCon (.bool false))) sNx) (sSeq (sIf (tNot1 (tVal (eOps dAll [(oOf (eComp [2] (iSeq (oVar 1)) (.name 2) tTrue (eAnd2 (eUn (dIsi "int") (oVar 2)) (eChain dLe dLe (oOf (eCon (.int 1))) (oVar 2) (oOf (eCon (.int 4)))))))]))) (sRet (eCon (.bool false))) sNx) (sRet (eAnd2 (eBin dLe (oOf (eCall how_many_S [.val (eVar 1)])) (oOf (eCon (.int 512)))) (eCall are_edges_S [.val (eBin dIx (oVar 0) (oOf (eCon (.int 1)))), .val (eOps dLen [(oVar 1)])])))))))
def is_schema_S : Fun := runF is_schema_F 3 [false]
theorem f_is_schema {Γ : Ctx} (h_are_edges : FnAt Γ false 3 "are_edges" ["edges", "many"] [false, false] are_edges_S) (h_how_many : FnAt Γ false 1 "how_many" ["values"] [false] how_many_S) (D0 : ∃ fd, FunD Γ.K "is_schema" "is_schema" (defArgs Hd.s_is_schema) (defBody Hd.s_is_schema) (defScope Hd.s_is_schema) [] [] (He.fAd Γ.K ("is_schema", none)) fd) (m0 : Γ.mg "is_schema" = some (.ref (He.fAd Γ.K ("is_schema", none)))) (B : Bare Γ) (C : Ints Γ) : FnAt Γ false 4 "is_schema" ["schema"] [false] is_schema_S := by
  obtain ⟨fd, Fd⟩ := D0
  refine fnAt_of (k := 3) (N := ["schema", "values", "value"]) Fd ⟨by kernel_rfl, by kernel_rfl, by kernel_rfl, by decide +kernel, by decide +kernel, by decide +kernel, by decide +kernel⟩ m0 (FunD.bindsN Fd fun _ _ _ _ _ _ us hl => match us, hl with | [_], _ => rfl) rfl rfl (as := [0, 1]) fun F0 H0 ino X W g hq hc => ?_
  unfold is_schema_F
  exact (dss_cons (ds_if (dw_or (dt_not (dt_val (de_isi g.toGdT.toGd (by kernel_rfl) (B "isinstance" (by decide)) (by kernel_rfl) (B "tuple" (by decide)) (by decide +kernel) (by decide) (by decide) (do_var g.toGdT.toGd rfl (.inl (by kernel_rfl)) (by decide) (by decide)) rfl rfl rfl) (fun _ => rfl))) (dw_or1 (dt_cmp (o_ne g.toGdT.toGd) op2_of (do_of (de_blt g.toGdT.toGd (c_len g.toGdT.toGd) (by kernel_rfl) (B "len" (by decide)) (by decide +kernel) (da_cons (do_var g.toGdT.toGd rfl (.inl (by kernel_rfl)) (by decide) (by decide)) da_nil rfl) (by decide) (by decide) rfl rfl)) (do_of de_int) rfl))).pt (dss_one (ds_ret de_bool)) dss_nil) (dss_cons (ds_asg g.toGdT.toGd rfl (by kernel_rfl) (by decide) (de_ix (o_ix g.toGdT.toGd) op2_of (do_var g.toGdT.toGd rfl (.inl (by kernel_rfl)) (by decide) (by decide)) (do_of de_int) (fun _ _ => rfl)) rfl) (dss_cons (ds_if (dw_or (dt_not (dt_val (de_isi g.toGdT.toGd (by kernel_rfl) (B "isinstance" (by decide)) (by kernel_rfl) (B "tuple" (by decide)) (by decide +kernel) (by decide) (by decide) (do_var g.toGdT.toGd rfl (.inl (by kernel_rfl)) (by decide) (by decide)) rfl rfl rfl) (fun _ => rfl))) (dw_or1 (dt_not (dt_chain (o_le g.toGdT.toGd) (o_le g.toGdT.toGd) op2_of op2_of (do_of de_int) (do_of (de_blt g.toGdT.toGd (c_len g.toGdT.toGd) (by kernel_rfl) (B "len" (by decide)) (by decide +kernel) (da_cons (do_var g.toGdT.toGd rfl (.inl (by kernel_rfl)) (by decide) (by decide)) da_nil rfl) (by decide) (by decide) rfl rfl)) (do_of (de_gint g.toGdT.toGd (by kernel_rfl) (C.c_MOST_COLUMNS) (by decide))) rfl)))).pt (dss_one (ds_ret de_bool)) dss_nil) (dss_cons (ds_if (dt_not (dt_val (de_blt g.toGdT.toGd (c_all g.toGdT.toGd rfl) (by kernel_rfl) (B "all" (by decide)) (by decide +kernel) (da_cons (do_of (de_comp g.toGdT.toGd rfl (di_seq g.toGdT.toGd (do_var g.toGdT.toGd rfl (.inl (by kernel_rfl)) (by decide) (by decide))) (own := [("value", 2)]) (by kernel_rfl) (by decide) (fun p1 o1 X1 g1 => (dg_name g1.toGd rfl (by kernel_rfl))) (fun p1 o1 X1 g1 => dts_nil) (fun p1 o1 X1 g1 => (de_and (de_isi g1.toGd (by kernel_rfl) (B "isinstance" (by decide)) (by kernel_rfl) (B "int" (by decide)) (by decide +kernel) (by decide) (by decide) (do_var g1.toGd rfl (by first | exact .inl (by decide +kernel) | exact .inr (.inl (by decide +kernel)) | exact .inr (.inr (by decide +kernel))) (by decide) (by decide)) rfl rfl rfl) (de_and1 (de_chain (o_le g1.toGd) (o_le g1.toGd) op2_of op2_of (do_of de_int) (do_var g1.toGd rfl (by first | exact .inl (by decide +kernel) | exact .inr (.inl (by decide +kernel)) | exact .inr (.inr (by decide +kernel))) (by decide) (by decide)) (do_of (de_gint g1.toGd (by kernel_rfl) (C.c_MOST_VALUES) (by decide))) rfl) rfl))) (fun _ => rfl))) da_nil rfl) (by decide) (by decide) rfl rfl) (fun _ => rfl))) (dss_one (ds_ret de_bool)) dss_nil) (dss_one (ds_ret (de_and (de_cmp (o_le g.toGdT.toGd) op2_of (do_of (de_callA g.toGdT rfl ((h_how_many.mono (by omega)).to ⟨rfl, rfl, rfl, rfl, rfl, rfl, rfl⟩) (fun h => by cases h) (by kernel_rfl) rfl (das_val (de_var g.toGdT.toGd rfl (.inl (by kernel_rfl)) (by decide) (by decide)) das_nil rfl) (by decide) rfl rfl)) (do_of (de_gint g.toGdT.toGd (by kernel_rfl) (C.c_MOST_ROWS) (by decide))) rfl) (de_and1 (de_callA g.toGdT rfl ((h_are_edges.mono (by omega)).to ⟨rfl, rfl, rfl, rfl, rfl, rfl, rfl⟩) (fun h => by cases h) (by kernel_rfl) rfl (das_val (de_ix (o_ix g.toGdT.toGd) op2_of (do_var g.toGdT.toGd rfl (.inl (by kernel_rfl)) (by decide) (by decide)) (do_of de_int) (fun _ _ => rfl)) (das_val (de_blt g.toGdT.toGd (c_len g.toGdT.toGd) (by kernel_rfl) (B "len" (by decide)) (by decide +kernel) (da_cons (do_var g.toGdT.toGd rfl (.inl (by kernel_rfl)) (by decide) (by decide)) da_nil rfl) (by decide) (by decide) rfl rfl) das_nil rfl) rfl) (by decide) rfl rfl) rfl))))))))
def check_schema_F : StF := (sIf (tNot1 (tVal (eCall is_schema_S [.val (eVar 0)]))) (sRaise "BadSchema") sNx)
def check_schema_S : Fun := runF check_schema_F 1 [false]
theorem f_check_schema {Γ : Ctx} (h_is_schema : FnAt Γ false 4 "is_schema" ["schema"] [false] is_schema_S) (D0 : ∃ fd, FunD Γ.K "check_schema" "check_schema" (defArgs Hd.s_check_schema) (defBody Hd.s_check_schema) (defScope Hd.s_check_schema) [] [] (He.fAd Γ.K ("check_schema", none)) fd) (m0 : Γ.mg "check_schema" = some (.ref (He.fAd Γ.K ("check_schema", none)))) (B : Bare Γ) (R : Errs Γ) : FnAt Γ false 5 "check_schema" ["schema"] [false] check_schema_S := by
  obtain ⟨fd, Fd⟩ := D0
  refine fnAt_of (k := 4) (N := ["schema"]) Fd ⟨by kernel_rfl, by kernel_rfl, by kernel_rfl, by decide +kernel, by decide +kernel, by decide +kernel, by decide +kernel⟩ m0 (FunD.bindsN Fd fun _ _ _ _ _ _ us hl => match us, hl with | [_], _ => rfl) rfl rfl (as := [0]) fun F0 H0 ino X W g hq hc => ?_
  unfold check_schema_F
  exact (dss_one (ds_if (dt_not (dt_val (de_callA g.toGdT rfl ((h_is_schema.mono (by omega)).to ⟨rfl, rfl, rfl, rfl, rfl, rfl, rfl⟩) (fun h => by cases h) (by kernel_rfl) rfl (das_val (de_var g.toGdT.toGd rfl (.inl (by kernel_rfl)) (by decide) (by decide)) das_nil rfl) (by decide) rfl rfl) (fun _ => rfl))) (dss_one (ds_raiseA g rfl (R.r_BadSchema.to ⟨rfl, rfl, rfl, rfl, rfl, rfl, rfl⟩) (by kernel_rfl) (by decide))) dss_nil))
def law_F : StF := (sSeq (sFor [0, 1, 2, 3, 4, 5, 6, 7] (iRange1 (oOf (eCon (.int 3)))) (.name 1) (sSeq (sAsg 2 (eCall _law_stream_S [.val (eVar 0), .val (eVar 1)])) (sFor [0, 1, 2, 3, 4, 5, 6, 7] (iRange1 (oOf (eCon (.int 4)))) (.name 3) (sSeq (sAsg 4 (eCall _law_schema_S [.ref 2, .val (eBin dIx (oOf (eLst [(eCon (.int 512)), (eCon (.int 64))])) (oOf (eCall _law_draw_S [.ref 2, .val (eCon (.int 2))])))])) (sFor [0, 1, 2, 3, 4, 5, 6, 7] (iSeq (oOf (eLst [(eVar 4), (eCall _law_spoilt_S [.ref 2, .val (eVar 4)]), (eCall _law_spoilt_S [.ref 2, .val (eVar 4)]), (eCall _law_spoilt_S [.ref 2, .val (eVar 4)])]))) (.name 5) (sSeq (sAsg 6 (eOps dRepr [(oVar 5)])) (sSeq (sAsg 7 (eIte (tVal (eCall _law_is_schema_S [.val (eVar 5)])) (eTup [(eCon (.int 0)), (eCon .none)]) (eTup [(eCon (.int 1)), (eCon (.str "schema"))]))) (sIf (tOr2 (tVal (eBin dNe (oOf (eTold readD toldWord (eCall check_schema_S [.val (eVar 5)]))) (oVar 7))) (tVal (eBin dNe (oOf (eOps dRepr [(oVar 5)])) (oVar 6)))) (sRet (eCon (.bool false))) sNx)))))))) (sRet (eCon (.bool true))))
def law_S : Fun := runF law_F 8 [false]
theorem f_law {Γ : Ctx} (h__law_draw : FnAt Γ false 1 "_law_draw" ["box", "many"] [true, false] _law_draw_S) (h__law_is_schema : FnAt Γ false 1 "_law_is_schema" ["x"] [false] _law_is_schema_S) (h__law_schema : FnAt Γ false 3 "_law_schema" ["box", "most"] [true, false] _law_schema_S) (h__law_spoilt : FnAt Γ false 2 "_law_spoilt" ["box", "schema"] [true, false] _law_spoilt_S) (h__law_stream : FnAt Γ false 2 "_law_stream" ["script", "k"] [false, false] _law_stream_S) (h_check_schema : FnAt Γ false 5 "check_schema" ["schema"] [false] check_schema_S) {fd : FuncData} (Fd : FunD Γ.K "law" "law" (defArgs Hd.s_law) (defBody Hd.s_law) (defScope Hd.s_law) [] [] (He.fAd Γ.K ("law", none)) fd) (B : Bare Γ) (Td : ToldAt Γ "_law_told" 8 readD toldWord) (TB : TabB Γ.base Γ.mg (He.cT Γ.K ("law", none)).1 (He.cT Γ.K ("law", none)).2) (hT1 : ((He.cT Γ.K ("law", none)).2, ("law" ++ ".<locals>." ++ "<lambda>" : Str)) ∈ Γ.T) (hT2 : ∀ p ∈ Γ.T, p.1 = (He.cT Γ.K ("law", none)).2 → p.2 = ("law" ++ ".<locals>." ++ "<lambda>" : Str)) : FnG Γ true 10 (He.fAd Γ.K ("law", none)) fd ["script"] [false] law_S := by
  refine fnG_of (k := 9) (N := ["script", "turn", "box", "k", "schema", "one", "kept", "due"]) Fd ⟨by kernel_rfl, by kernel_rfl, by kernel_rfl, by decide +kernel, by decide +kernel, by decide +kernel, by decide +kernel⟩ rfl rfl (as := [0, 1, 2, 3, 4, 5, 6, 7]) fun F0 H0 ino X W g hq hc => ?_
  unfold law_F
  exact (dss_cons (ds_for g rfl (by decide) (di_range1 g.toGdT.toGd (by kernel_rfl) (B "range" (by decide)) (do_of de_int) rfl) (dg_name g.toGdT.toGd rfl (by kernel_rfl)) (dss_cons (ds_asg g.toGdT.toGd rfl (by kernel_rfl) (by decide) (de_callA g.toGdT rfl ((h__law_stream.mono (by omega)).to ⟨rfl, rfl, rfl, rfl, rfl, rfl, rfl⟩) (fun h => by cases h) (by kernel_rfl) rfl (das_val (de_var g.toGdT.toGd rfl (.inl (by kernel_rfl)) (by decide) (by decide)) (das_val (de_var g.toGdT.toGd rfl (.inl (by kernel_rfl)) (by decide) (by decide)) das_nil rfl) rfl) (by decide) rfl rfl) rfl) (dss_one (ds_for g rfl (by decide) (di_range1 g.toGdT.toGd (by kernel_rfl) (B "range" (by decide)) (do_of de_int) rfl) (dg_name g.toGdT.toGd rfl (by kernel_rfl)) (dss_cons (ds_asg g.toGdT.toGd rfl (by kernel_rfl) (by decide) (de_callA g.toGdT rfl ((h__law_schema.mono (by omega)).to ⟨rfl, rfl, rfl, rfl, rfl, rfl, rfl⟩) (fun h => by cases h) (by kernel_rfl) rfl (das_ref g.toGdT.toGd rfl (.inl (by kernel_rfl)) (by decide) (by decide) (das_val (de_ix (o_ix g.toGdT.toGd) op2_of (do_of (de_lst (des_cons de_int (des_cons de_int des_nil rfl) rfl) (by decide))) (do_of (de_callA g.toGdT rfl ((h__law_draw.mono (by omega)).to ⟨rfl, rfl, rfl, rfl, rfl, rfl, rfl⟩) (fun h => by cases h) (by kernel_rfl) rfl (das_ref g.toGdT.toGd rfl (.inl (by kernel_rfl)) (by decide) (by decide) (das_val de_int das_nil rfl) rfl) (by decide) rfl rfl)) (fun _ _ => rfl)) das_nil rfl) rfl) (by decide) rfl rfl) rfl) (dss_one (ds_for g rfl (by decide) (di_seq g.toGdT.toGd (do_of (de_lst (des_cons (de_var g.toGdT.toGd rfl (.inl (by kernel_rfl)) (by decide) (by decide)) (des_cons (de_callA g.toGdT rfl ((h__law_spoilt.mono (by omega)).to ⟨rfl, rfl, rfl, rfl, rfl, rfl, rfl⟩) (fun h => by cases h) (by kernel_rfl) rfl (das_ref g.toGdT.toGd rfl (.inl (by kernel_rfl)) (by decide) (by decide) (das_val (de_var g.toGdT.toGd rfl (.inl (by kernel_rfl)) (by decide) (by decide)) das_nil rfl) rfl) (by decide) rfl rfl) (des_cons (de_callA g.toGdT rfl ((h__law_spoilt.mono (by omega)).to ⟨rfl, rfl, rfl, rfl, rfl, rfl, rfl⟩) (fun h => by cases h) (by kernel_rfl) rfl (das_ref g.toGdT.toGd rfl (.inl (by kernel_rfl)) (by decide) (by decide) (das_val (de_var g.toGdT.toGd rfl (.inl (by kernel_rfl)) (by decide) (by decide)) das_nil rfl) rfl) (by decide) rfl rfl) (des_cons (de_callA g.toGdT rfl ((h__law_spoilt.mono (by omega)).to ⟨rfl, rfl, rfl, rfl, rfl, rfl, rfl⟩) (fun h => by cases h) (by kernel_rfl) rfl (das_ref g.toGdT.toGd rfl (.inl (by kernel_rfl)) (by decide) (by decide) (das_val (de_var g.toGdT.toGd rfl (.inl (by kernel_rfl)) (by decide) (by decide)) das_nil rfl) rfl) (by decide) rfl rfl) des_nil rfl) rfl) rfl) rfl) (by decide)))) (dg_name g.toGdT.toGd rfl (by kernel_rfl)) (dss_cons (ds_asg g.toGdT.toGd rfl (by kernel_rfl) (by decide) (de_blt g.toGdT.toGd (c_repr g.toGdT.toGd rfl) (by kernel_rfl) (B "repr" (by decide)) (by decide +kernel) (da_cons (do_var g.toGdT.toGd rfl (.inr (.inl (by kernel_rfl))) (by decide) (by decide)) da_nil rfl) (by decide) (by decide) rfl rfl) rfl) (dss_cons (ds_asg g.toGdT.toGd rfl (by kernel_rfl) (by decide) (de_ite (dt_val (de_callA g.toGdT rfl ((h__law_is_schema.mono (by omega)).to ⟨rfl, rfl, rfl, rfl, rfl, rfl, rfl⟩) (fun h => by cases h) (by kernel_rfl) rfl (das_val (de_var g.toGdT.toGd rfl (.inr (.inl (by kernel_rfl))) (by decide) (by decide)) das_nil rfl) (by decide) rfl rfl) (fun _ => rfl)) (de_tup (des_cons de_int (des_cons de_none des_nil rfl) rfl) (by decide)) (de_tup (des_cons de_int (des_cons de_str des_nil rfl) rfl) (by decide))) rfl) (dss_one (ds_if (dw_or (dt_cmp (o_ne g.toGdT.toGd) op2_of (do_of (Td.rule (kk := 7) g.toGdT (by omega) (by omega) (by kernel_rfl) TB (hc.trans (fund_code Fd)) (by rw [hq]; exact hT1) (fun p hp e => by rw [hq]; exact hT2 p hp e) (lamS_by (by kernel_rfl)) rfl (fun _ _ _ _ _ => rfl) (fun F1 H1 i1 X1 W1 g1 => (de_callA g1 rfl ((h_check_schema.mono (by omega)).to ⟨rfl, rfl, rfl, rfl, rfl, rfl, rfl⟩) (fun h => by cases h) (by kernel_rfl) rfl (das_val (de_var g1.toGd rfl (by first | exact .inl (by decide +kernel) | exact .inr (.inl (by decide +kernel)) | exact .inr (.inr (by decide +kernel))) (by decide) (by decide)) das_nil rfl) (by decide) rfl rfl)))) (do_var g.toGdT.toGd rfl (.inl (by kernel_rfl)) (by decide) (by decide)) rfl) (dw_or1 (dt_cmp (o_ne g.toGdT.toGd) op2_of (do_of (de_blt g.toGdT.toGd (c_repr g.toGdT.toGd rfl) (by kernel_rfl) (B "repr" (by decide)) (by decide +kernel) (da_cons (do_var g.toGdT.toGd rfl (.inr (.inl (by kernel_rfl))) (by decide) (by decide)) da_nil rfl) (by decide) (by decide) rfl rfl)) (do_var g.toGdT.toGd rfl (.inl (by kernel_rfl)) (by decide) (by decide)) rfl))).pt (dss_one (ds_ret de_bool)) dss_nil)))) (fun _ => rfl)))) (fun _ => rfl)))) (fun _ => rfl)) (dss_one (ds_ret de_bool)))
def _law_read_F (_law_read_R : Fun) : StF := (sSeq (sIf (tOr2 (tVal (eBin dIs (oVar 0) (oOf (eCon .none)))) (tOr2 (tVal (eBin dIs (oVar 0) (oOf (eCon (.bool true))))) (tVal (eBin dIs (oVar 0) (oOf (eCon (.bool false))))))) (sRet (eMove 0)) sNx) (sSeq (sIf (tVal (eUn (dIsi "int") (oVar 0))) (sRet (eOps dInt [(oVar 0)])) sNx) (sSeq (sIf (tVal (eUn (dIsi "str") (oVar 0))) (sRet (eUn (dJoin "") (oOf (eComp [1] (iSeq (oVar 0)) (.name 1) tTrue (eVar 1))))) sNx) (sSeq (sIf (tVal (eUn (dIsi "tuple") (oVar 0))) (sRet (eOps dTuple [(oOf (eComp [2] (iSeq (oVar 0)) (.name 2) tTrue (eCall _law_read_R [.val (eVar 2)])))])) sNx) (sRet (eIte (tVal (eUn (dIsi "list") (oVar 0))) (eComp [2] (iSeq (oVar 0)) (.name 2) tTrue (eCall _law_read_R [.val (eVar 2)])) (eCon (.str "something else"))))))))
def _law_read_S : Nat → Fun
  | 0 => fun _ => none
  | n + 1 => runF (_law_read_F (_law_read_S n)) 3 [false]
theorem f__law_read {Γ : Ctx} (D0 : ∃ fd, FunD Γ.K "_law_read" "_law_read" (defArgs Hd.s__law_read) (defBody Hd.s__law_read) (defScope Hd.s__law_read) [] [] (He.fAd Γ.K ("_law_read", none)) fd) (m0 : Γ.mg "_law_read" = some (.ref (He.fAd Γ.K ("_law_read", none)))) (B : Bare Γ) : ∀ n : Nat, FnAt Γ false (n + 0) "_law_read" ["told"] [false] (_law_read_S n) := by
  obtain ⟨fd, Fd⟩ := D0
  intro n
  induction n with
  | zero => exact FnAt.none Fd m0 (FunD.bindsN Fd fun _ _ _ _ _ _ us hl => match us, hl with | [_], _ => rfl) rfl
  | succ n h__law_read =>
    rw [show n + 1 + 0 = n + 0 + 1 by omega]; refine fnAt_of (k := n + 0) (N := ["told", "sign", "part"]) Fd ⟨by kernel_rfl, by kernel_rfl, by kernel_rfl, by decide +kernel, by decide +kernel, by decide +kernel, by decide +kernel⟩ m0 (FunD.bindsN Fd fun _ _ _ _ _ _ us hl => match us, hl with | [_], _ => rfl) rfl rfl (as := [0]) fun F0 H0 ino X W g hq hc => ?_
    unfold _law_read_F
    exact (dss_cons (ds_if (dw_or (dt_cmp (o_is) op2_of (do_var g.toGdT.toGd rfl (.inl (by kernel_rfl)) (by decide) (by decide)) (do_of de_none) rfl) (dw_or (dt_cmp (o_is) op2_of (do_var g.toGdT.toGd rfl (.inl (by kernel_rfl)) (by decide) (by decide)) (do_of de_bool) rfl) (dw_or1 (dt_cmp (o_is) op2_of (do_var g.toGdT.toGd rfl (.inl (by kernel_rfl)) (by decide) (by decide)) (do_of de_bool) rfl)))).pt (dss_one (ds_ret (de_move g.toGdT.toGd rfl (.inl (by kernel_rfl)) (by decide) (by decide)))) dss_nil) (dss_cons (ds_if (dt_val (de_isi g.toGdT.toGd (by kernel_rfl) (B "isinstance" (by decide)) (by kernel_rfl) (B "int" (by decide)) (by decide +kernel) (by decide) (by decide) (do_var g.toGdT.toGd rfl (.inl (by kernel_rfl)) (by decide) (by decide)) rfl rfl rfl) (fun _ => rfl)) (dss_one (ds_ret (de_bty g.toGdT.toGd (c_int) (by kernel_rfl) (B "int" (by decide)) (by decide +kernel) (da_cons (do_var g.toGdT.toGd rfl (.inl (by kernel_rfl)) (by decide) (by decide)) da_nil rfl) (by decide) (by decide) rfl rfl))) dss_nil) (dss_cons (ds_if (dt_val (de_isi g.toGdT.toGd (by kernel_rfl) (B "isinstance" (by decide)) (by kernel_rfl) (B "str" (by decide)) (by decide +kernel) (by decide) (by decide) (do_var g.toGdT.toGd rfl (.inl (by kernel_rfl)) (by decide) (by decide)) rfl rfl rfl) (fun _ => rfl)) (dss_one (ds_ret (de_join g.toGdT.toGd (do_of (de_comp g.toGdT.toGd rfl (di_seq g.toGdT.toGd (do_var g.toGdT.toGd rfl (.inl (by kernel_rfl)) (by decide) (by decide))) (own := [("sign", 1)]) (by kernel_rfl) (by decide) (fun p1 o1 X1 g1 => (dg_name g1.toGd rfl (by kernel_rfl))) (fun p1 o1 X1 g1 => dts_nil) (fun p1 o1 X1 g1 => (de_var g1.toGd rfl (by first | exact .inl (by decide +kernel) | exact .inr (.inl (by decide +kernel)) | exact .inr (.inr (by decide +kernel))) (by decide) (by decide))) (fun _ => rfl))) rfl rfl rfl))) dss_nil) (dss_cons (ds_if (dt_val (de_isi g.toGdT.toGd (by kernel_rfl) (B "isinstance" (by decide)) (by kernel_rfl) (B "tuple" (by decide)) (by decide +kernel) (by decide) (by decide) (do_var g.toGdT.toGd rfl (.inl (by kernel_rfl)) (by decide) (by decide)) rfl rfl rfl) (fun _ => rfl)) (dss_one (ds_ret (de_bty g.toGdT.toGd (c_tuple g.toGdT.toGd) (by kernel_rfl) (B "tuple" (by decide)) (by decide +kernel) (da_cons (do_of (de_comp g.toGdT.toGd rfl (di_seq g.toGdT.toGd (do_var g.toGdT.toGd rfl (.inl (by kernel_rfl)) (by decide) (by decide))) (own := [("part", 2)]) (by kernel_rfl) (by decide) (fun p2 o2 X2 g2 => (dg_name g2.toGd rfl (by kernel_rfl))) (fun p2 o2 X2 g2 => dts_nil) (fun p2 o2 X2 g2 => (de_callA g2 rfl ((h__law_read.mono (by omega)).to ⟨rfl, rfl, rfl, rfl, rfl, rfl, rfl⟩) (fun h => by cases h) (by kernel_rfl) rfl (das_val (de_var g2.toGd rfl (by first | exact .inl (by decide +kernel) | exact .inr (.inl (by decide +kernel)) | exact .inr (.inr (by decide +kernel))) (by decide) (by decide)) das_nil rfl) (by decide) rfl rfl)) (fun _ => rfl))) da_nil rfl) (by decide) (by decide) rfl rfl))) dss_nil) (dss_one (ds_ret (de_ite (dt_val (de_isi g.toGdT.toGd (by kernel_rfl) (B "isinstance" (by decide)) (by kernel_rfl) (B "list" (by decide)) (by decide +kernel) (by decide) (by decide) (do_var g.toGdT.toGd rfl (.inl (by kernel_rfl)) (by decide) (by decide)) rfl rfl rfl) (fun _ => rfl)) (de_comp g.toGdT.toGd rfl (di_seq g.toGdT.toGd (do_var g.toGdT.toGd rfl (.inl (by kernel_rfl)) (by decide) (by decide))) (own := [("part", 2)]) (by kernel_rfl) (by decide) (fun p3 o3 X3 g3 => (dg_name g3.toGd rfl (by kernel_rfl))) (fun p3 o3 X3 g3 => dts_nil) (fun p3 o3 X3 g3 => (de_callA g3 rfl ((h__law_read.mono (by omega)).to ⟨rfl, rfl, rfl, rfl, rfl, rfl, rfl⟩) (fun h => by cases h) (by kernel_rfl) rfl (das_val (de_var g3.toGd rfl (by first | exact .inl (by decide +kernel) | exact .inr (.inl (by decide +kernel)) | exact .inr (.inr (by decide +kernel))) (by decide) (by decide)) das_nil rfl) (by decide) rfl rfl)) (fun _ => rfl)) de_str)))))))
theorem told_ok {Γ : Ctx} (D0 : ∃ fd, FunD Γ.K "_law_told" "_law_told" (defArgs Hd.s__law_told) (defBody Hd.s__law_told) (defScope Hd.s__law_told) [] [] (He.fAd Γ.K ("_law_told", none)) fd) (m0 : Γ.mg "_law_told" = some (.ref (He.fAd Γ.K ("_law_told", none)))) (B : Bare Γ) (Kd : Kinds Γ "WholeError" toldCs) {kr : Nat} (h_read : FnAt Γ false kr "_law_read" ["told"] [false] (readSem readD)) : ToldAt Γ "_law_told" kr readD toldWord := by
  obtain ⟨fd, Fd⟩ := D0
  obtain ⟨fr, fdr, hF, hm, hk, hbr⟩ := h_read.ex
  obtain ⟨CW, mW, exW⟩ := Kd.top
  obtain ⟨C0, a0, mm0, _⟩ := Kd.ex "BadSchema" (by decide)
  obtain ⟨C1, a1, mm1, _⟩ := Kd.ex "BadKind" (by decide)
  obtain ⟨C2, a2, mm2, _⟩ := Kd.ex "BadTable" (by decide)
  obtain ⟨C3, a3, mm3, _⟩ := Kd.ex "BadPaper" (by decide)
  obtain ⟨C4, a4, mm4, _⟩ := Kd.ex "BadState" (by decide)
  obtain ⟨C5, a5, mm5, _⟩ := Kd.ex "NotAgreeing" (by decide)
  obtain ⟨C6, a6, mm6, _⟩ := Kd.ex "OutOfRange" (by decide)
  refine ⟨fun {N F0 H0 ino gb X sc st k kk W f params body scope p lpos pos c P} g hkk hkr hg TB hcode hmT hu L hdef hbind hbody => ?_⟩
  refine pe_told (Γ := Γ.enter N F0 H0 ino gb) (Ng := ["call", "e", "words", "found", "word", "is_so"]) (a := "call") (as := [2, 3]) (hF := toldH) (ctop := .ref CW) g rfl hkk Fd
    ⟨by kernel_rfl, by kernel_rfl, by kernel_rfl, by decide +kernel, by decide +kernel, by decide +kernel, by decide +kernel⟩ rfl (.inl (by kernel_rfl)) hg m0 (FunD.bindsN Fd fun _ _ _ _ _ _ us hl => match us, hl with | [_], _ => rfl)
    TB hcode hmT hu L hdef hbind hbody rfl (hF.to ⟨rfl, rfl, rfl, rfl, rfl, rfl, rfl⟩) hkr (by kernel_rfl) hm hk hbr rfl (by kernel_rfl) (by kernel_rfl) mW (by decide) (by decide) (by decide) (by decide) (by decide)
    (fun c w h => exW c (word_in h)) (fun c w h => let ⟨C, h1, _, h2⟩ := Kd.ex c (word_in h); ⟨C, h1, h2⟩) (fun c w h F1 H1 X1 aE Dc hDc g1 hot hci => ?_) (fun c w h => toldH_res h)
  have gd := g1.toGd
  have t0 : PySem.W.kitOne Γ.K (.ref Dc) (.ref C0) = some (decide (c = "BadSchema")) := by
    have q := Kd.kit c (word_in h) "BadSchema" (by decide)
    rw [show Γ.cls c = .ref Dc from hDc, a0] at q
    exact q
  have t1 : PySem.W.kitOne Γ.K (.ref Dc) (.ref C1) = some (decide (c = "BadKind")) := by
    have q := Kd.kit c (word_in h) "BadKind" (by decide)
    rw [show Γ.cls c = .ref Dc from hDc, a1] at q
    exact q
  have t2 : PySem.W.kitOne Γ.K (.ref Dc) (.ref C2) = some (decide (c = "BadTable")) := by
    have q := Kd.kit c (word_in h) "BadTable" (by decide)
    rw [show Γ.cls c = .ref Dc from hDc, a2] at q
    exact q
  have t3 : PySem.W.kitOne Γ.K (.ref Dc) (.ref C3) = some (decide (c = "BadPaper")) := by
    have q := Kd.kit c (word_in h) "BadPaper" (by decide)
    rw [show Γ.cls c = .ref Dc from hDc, a3] at q
    exact q
  have t4 : PySem.W.kitOne Γ.K (.ref Dc) (.ref C4) = some (decide (c = "BadState")) := by
    have q := Kd.kit c (word_in h) "BadState" (by decide)
    rw [show Γ.cls c = .ref Dc from hDc, a4] at q
    exact q
  have t5 : PySem.W.kitOne Γ.K (.ref Dc) (.ref C5) = some (decide (c = "NotAgreeing")) := by
    have q := Kd.kit c (word_in h) "NotAgreeing" (by decide)
    rw [show Γ.cls c = .ref Dc from hDc, a5] at q
    exact q
  have t6 : PySem.W.kitOne Γ.K (.ref Dc) (.ref C6) = some (decide (c = "OutOfRange")) := by
    have q := Kd.kit c (word_in h) "OutOfRange" (by decide)
    rw [show Γ.cls c = .ref Dc from hDc, a6] at q
    exact q
  exact dss_cons (ds_asg gd rfl (by kernel_rfl) (by decide) (de_lst (des_cons (de_tup (des_cons de_str (des_cons (de_isexc gd hci rfl (by kernel_rfl) (B "isinstance" (by decide)) rfl (.inl (by kernel_rfl)) (by decide) (by decide) (by kernel_rfl) mm0 (by decide) t0 rfl rfl rfl) des_nil rfl) rfl) (show 2 ≤ sizeLine by decide)) (des_cons (de_tup (des_cons de_str (des_cons (de_isexc gd hci rfl (by kernel_rfl) (B "isinstance" (by decide)) rfl (.inl (by kernel_rfl)) (by decide) (by decide) (by kernel_rfl) mm1 (by decide) t1 rfl rfl rfl) des_nil rfl) rfl) (show 2 ≤ sizeLine by decide)) (des_cons (de_tup (des_cons de_str (des_cons (de_isexc gd hci rfl (by kernel_rfl) (B "isinstance" (by decide)) rfl (.inl (by kernel_rfl)) (by decide) (by decide) (by kernel_rfl) mm2 (by decide) t2 rfl rfl rfl) des_nil rfl) rfl) (show 2 ≤ sizeLine by decide)) (des_cons (de_tup (des_cons de_str (des_cons (de_isexc gd hci rfl (by kernel_rfl) (B "isinstance" (by decide)) rfl (.inl (by kernel_rfl)) (by decide) (by decide) (by kernel_rfl) mm3 (by decide) t3 rfl rfl rfl) des_nil rfl) rfl) (show 2 ≤ sizeLine by decide)) des_nil rfl) rfl) rfl) rfl) (show 4 ≤ sizeLine by decide)) rfl)
    (dss_cons (ds_asg gd rfl (by kernel_rfl) (by decide) (de_binop (o_add gd) op2_of (do_var gd rfl (.inl (by kernel_rfl)) (by decide) (by decide)) (do_of (de_lst (des_cons (de_tup (des_cons de_str (des_cons (de_isexc gd hci rfl (by kernel_rfl) (B "isinstance" (by decide)) rfl (.inl (by kernel_rfl)) (by decide) (by decide) (by kernel_rfl) mm4 (by decide) t4 rfl rfl rfl) des_nil rfl) rfl) (show 2 ≤ sizeLine by decide)) (des_cons (de_tup (des_cons de_str (des_cons (de_isexc gd hci rfl (by kernel_rfl) (B "isinstance" (by decide)) rfl (.inl (by kernel_rfl)) (by decide) (by decide) (by kernel_rfl) mm5 (by decide) t5 rfl rfl rfl) des_nil rfl) rfl) (show 2 ≤ sizeLine by decide)) (des_cons (de_tup (des_cons de_str (des_cons (de_isexc gd hci rfl (by kernel_rfl) (B "isinstance" (by decide)) rfl (.inl (by kernel_rfl)) (by decide) (by decide) (by kernel_rfl) mm6 (by decide) t6 rfl rfl rfl) des_nil rfl) rfl) (show 2 ≤ sizeLine by decide)) des_nil rfl) rfl) rfl) (show 3 ≤ sizeLine by decide)))) rfl)
    (dss_cons (ds_asgCH gd hot rfl (by kernel_rfl) (by kernel_rfl) (by decide) rfl (by decide +kernel) (do_var gd rfl (.inl (by kernel_rfl)) (by decide) (by decide)) (own := [("word", 4), ("is_so", 5)]) (by kernel_rfl) (by decide)
        (fun p2 o2 X2 g2 h2 => dg_tupH g2.toGd h2 (dgs_cons (dg_name g2.toGd rfl (by kernel_rfl)) (dgs_cons (dg_name g2.toGd rfl (by kernel_rfl)) dgs_nil rfl) rfl) rfl rfl rfl)
        (fun p2 o2 X2 g2 h2 => pts_one (dt_val (de_var g2.toGd rfl (.inl (by kernel_rfl)) (by decide) (by decide)) (fun _ => rfl)))
        (fun p2 o2 X2 g2 h2 => de_var g2.toGd rfl (.inl (by kernel_rfl)) (by decide) (by decide)) (fun _ => rfl))
    (dss_one (ds_ret (de_tup (des_cons de_int (des_cons (de_ite (dt_cmp (o_eq gd) op2_of (do_of (de_blt gd (c_len gd) (by kernel_rfl) (B "len" (by decide)) (by decide +kernel) (da_cons (do_var gd rfl (.inl (by kernel_rfl)) (by decide) (by decide)) da_nil rfl) (by decide) (by decide) rfl rfl)) (do_of de_int) rfl)
        (de_ix (o_ix gd) op2_of (do_var gd rfl (.inl (by kernel_rfl)) (by decide) (by decide)) (do_of de_int) (fun _ _ => rfl)) de_str) des_nil rfl) rfl) (by decide))))))
end Ow
namespace Ow
open PySem PyProof.Rows PySem.Spec L2
theorem okL_ii (a b : Int) : okL (.int a) (.int b) = true := by
  simp [okL, okC, PyData.plain, PyData.depth, PySem.W.alike]
theorem okC_ii (a b : Int) : okC (.int a) (.int b) = true := by
  simp [okC, PyData.plain, PyData.depth]
@[simp] theorem dLt_ii (a b : Int) : dLt (.int a) (.int b) = some (.bool (decide (a < b)), false) := by
  rw [dLt, if_pos (okL_ii a b), PySem.W.dataLt_int]
@[simp] theorem dGt_ii (a b : Int) : dGt (.int a) (.int b) = some (.bool (decide (b < a)), false) := by
  rw [dGt, if_pos (okL_ii a b), PySem.W.dataLt_int]
@[simp] theorem dLe_ii (a b : Int) : dLe (.int a) (.int b) = some (.bool (decide (a ≤ b)), false) := by
  rw [dLe, if_pos (okL_ii a b), PySem.W.dataLt_int]
  congr 3
  by_cases h : a ≤ b
  · simp [h]
  · simp [h, Int.not_le.mp h]
@[simp] theorem dGe_ii (a b : Int) : dGe (.int a) (.int b) = some (.bool (decide (b ≤ a)), false) := by
  rw [dGe, if_pos (okL_ii a b), PySem.W.dataLt_int]
  congr 3
  by_cases h : b ≤ a
  · simp [h]
  · simp [h, Int.not_le.mp h]
@[simp] theorem dEq_ii (a b : Int) : dEq (.int a) (.int b) = some (.bool (decide (a = b)), false) := by
  rw [dEq, if_pos (okC_ii a b)]
  simp only [PyData.eqv]
  congr 3
@[simp] theorem dNe_ii (a b : Int) : dNe (.int a) (.int b) = some (.bool (decide (a ≠ b)), false) := by
  rw [dNe, if_pos (okC_ii a b)]
  simp only [PyData.eqv]
  congr 3
  by_cases h : a = b <;> simp [h]
@[simp] theorem bind_ok {α β : Type} (a : α) (ρ : AE) (f : α → AE → Res β) : (Res.ok a ρ).bind f = f a ρ := rfl
@[simp] theorem sb_ok {α : Type} (a : α) (ρ : AE) (f : α → AE → SR) : (Res.ok a ρ).sb f = f a ρ := rfl
@[simp] theorem sat_ok {α : Type} (a : α) (ρ : AE) (P : α → AE → Prop) : Sat (Res.ok a ρ) P = P a ρ := rfl
@[simp] theorem ssat_nx (ρ : AE) (w : Wp) : SSat (SR.nx ρ) w = w.nx ρ := rfl
@[simp] theorem ssat_rt (d fl) (ρ : AE) (w : Wp) : SSat (SR.ret d fl ρ) w = w.rt d fl ρ := rfl
@[simp] theorem still_none (d : D) (ρ : AE) : still none d ρ = true := rfl
@[simp] theorem next_nx (P : AE → Prop) (w : Wp) : (w.next P).nx = P := rfl
@[simp] theorem next_rt (P : AE → Prop) (w : Wp) : (w.next P).rt = w.rt := rfl
@[simp] theorem next_ex (P : AE → Prop) (w : Wp) : (w.next P).ex = w.ex := rfl
def Bx (d : D) : Prop := ∃ a b : Int, 0 ≤ a ∧ 0 ≤ b ∧ d = .list [.int a, .int b]
theorem atI_0 {α : Type} (a : α) (l : List α) : atI (a :: l) 0 = some a := by
  simp [atI, ixN]
theorem atI_1 {α : Type} (a b : α) (l : List α) : atI (a :: b :: l) 1 = some b := by
  simp [atI, ixN, show (1 : Int) < l.length + 1 + 1 by omega]
theorem draw_ok {d : D} {m : Int} (h : Bx d) (hm : 0 < m) (hm2 : m < 2 ^ 30) : FSat (_law_draw_S [d, .int m]) (fun r fl outs => ∃ n : Int, r = .int n ∧ fl = false ∧ 0 ≤ n ∧ n < m ∧ ∃ d', Bx d' ∧ outs = [d', .none]) (fun _ => False) := by
  obtain ⟨a, b, ha, hb, rfl⟩ := h
  have hm0 : m ≠ 0 := by omega
  have hml : m.natAbs.log2 < 9000 := by
    rcases Nat.eq_zero_or_pos m.natAbs with h | h
    · simp [h]
    · rw [Nat.log2_lt (by omega)]
      calc m.natAbs < 2 ^ 30 := by omega
        _ ≤ 2 ^ 9000 := Nat.pow_le_pow_right (by decide) (by decide)
  refine fsat_run rfl ?_
  show SSat (_law_draw_F [.ino (.list [.int a, .int b]), .val (.int m), .non]) _
  unfold _law_draw_F
  refine ssat_seq (ssat_if ?_)
  simp [tVal, eBin, oOf, oVar, eCon, dIx, atI_0, still]
  split
  · rename_i h0
    refine ssat_seq (ssat_asg ?_)
    simp [tVal, eBin, oOf, oVar, eCon, dIx, atI_0, still, dMod, hm0, isNoIno, slotOf]
    refine ssat_seq ?_
    simp [sSub, stSub, tVal, eBin, oOf, oVar, eCon, dIx, atI_0, still, dDiv, hm0, hml, isOwnL, putL, setD, ixN]
    refine ssat_ret ?_
    simp [eOps, oList, stills, oVar, still, dInt, inoStill, isIno, outsOf, List.range_succ, inoD]
    exact ⟨Int.fmod_nonneg ha (by omega), Int.fmod_lt_of_pos _ hm, _, _, Int.fdiv_nonneg ha (by omega), hb, rfl⟩
  · rename_i h0
    simp only [sNx, ssat_nx, next_nx]
    refine ssat_seq ?_
    have q : (0 : Int) ≤ (b * 48271 + 12345).fmod 2147483647 := Int.fmod_nonneg (by omega) (by decide)
    have q2 := Int.fmod_lt_of_pos ((b * 48271 + 12345)) (b := 2147483647) (by decide)
    simp [sSub, stSub, tVal, eBin, oOf, oVar, eCon, dIx, atI_0, atI_1, still, eOps, oList, stills, dMul, mulOk, dAdd, dInt, dDiv, dMod, hm0, hml, isOwnL, putL, setD, ixN]
    refine ssat_ret ?_
    simp [eOps, oList, stills, oVar, still, eBin, oOf, eCon, dIx, atI_0, atI_1, dDiv, dMod, dInt, inoStill, isIno, outsOf, List.range_succ, inoD]
    simp [show Nat.log2 64 < 9000 by decide, stills, still, hm0]
    exact ⟨Int.fmod_nonneg (Int.fdiv_nonneg q (by decide)) (by omega), Int.fmod_lt_of_pos _ hm, _, _, ha, q, rfl⟩
end Ow

namespace Ow
open PySem PyProof.Rows PySem.Spec L2
def isInt (d : D) : Prop := ∃ n : Int, d = .int n
theorem atI_map {α β : Type} (f : α → β) (l : List α) (i : Int) : atI (l.map f) i = (atI l i).map f := by
  simp [atI]
  cases ixN l.length i <;> simp
theorem atI_lt {α : Type} {l : List α} {i : Int} (h0 : 0 ≤ i) (h : i < l.length) : ∃ a, atI l i = some a ∧ a ∈ l := by
  have e : ixN l.length i = some i.toNat := by simp [ixN, h0, h]
  have hl : i.toNat < l.length := by omega
  refine ⟨l[i.toNat], ?_, List.getElem_mem hl⟩
  simp [atI, e, hl]
theorem cell_ok {ns : List Int} {k : Int} (hk : 0 ≤ k) : FSat (_law_cell_S [.list (ns.map PyData.int), .int k]) (fun r fl outs => ∃ n : Int, r = .int n ∧ fl = false) (fun _ => False) := by
  refine fsat_run rfl ?_
  show SSat (_law_cell_F [.val (.list (ns.map PyData.int)), .val (.int k)]) _
  unfold _law_cell_F
  refine ssat_ret ?_
  by_cases h : k < ns.length
  · obtain ⟨n, e, _⟩ := atI_lt hk h
    simp [eIte, tVal, eBin, oVar, still, oOf, eOps, oList, stills, dLen, h, dIx, atI_map, e, dInt, inoStill, List.range_succ]
  · simp [eIte, tVal, eBin, oVar, still, oOf, eOps, oList, stills, dLen, h, eCon, inoStill, List.range_succ]
theorem stream_ok {ns : List Int} {k : Int} (hk : 0 ≤ k) : FSat (_law_stream_S [.list (ns.map PyData.int), .int k]) (fun r fl outs => Bx r ∧ fl = true) (fun _ => False) := by
  refine fsat_run rfl ?_
  show SSat (_law_stream_F [.val (.list (ns.map PyData.int)), .val (.int k)]) _
  unfold _law_stream_F
  refine ssat_ret ?_
  have c : ∀ ρ : AE, ρ = [.val (.list (ns.map PyData.int)), .val (.int k)] → ∃ n : Int, eCall _law_cell_S [.val (eVar 0), .val (eVar 1)] ρ = .ok (.int n, false) ρ := by
    rintro ρ rfl
    have : Sat (eCall _law_cell_S [.val (eVar 0), .val (eVar 1)] [.val (.list (ns.map PyData.int)), .val (.int k)]) fun p ρ1 => ∃ n : Int, p = (.int n, false) ∧ ρ1 = [.val (.list (ns.map PyData.int)), .val (.int k)] := by
      refine sat_callV ?_
      simp [evArgs, eVar]
      refine ⟨by rintro a b (⟨rfl, rfl⟩ | ⟨rfl, rfl⟩) <;> rfl, (cell_ok hk).imp (fun d fl os q => ?_) fun _ h => h⟩
      obtain ⟨n, h1, h2⟩ := q
      exact ⟨⟨n, h1⟩, h2⟩
    obtain ⟨p, ρ1, e, n, rfl, rfl⟩ := this.get
    exact ⟨n, e⟩
  obtain ⟨n, e⟩ := c _ rfl
  have m0 : ∀ n : Int, 0 ≤ (if n < 0 then -n else n) := fun n => by split <;> omega
  have m1 := Int.fmod_nonneg (m0 n) (b := 1000003) (by decide)
  simp [eLst, eList, eOps, oList, oOf, e, stills, dAbs, eBin, eCon, still, dMod, dAdd, inoStill, List.range_succ]
  exact ⟨_, _, m0 n, by omega, rfl⟩
end Ow

namespace Ow
open PySem PyProof.Rows PySem.Spec L2
/-! ### comprehensions that change nothing -/
def quiet : Option Slot → Prop
  | some .non => True
  | some (.val _) => True
  | _ => False
theorem set_same {ρ : AE} {i : Nat} {s : Slot} (h : ρ[i]? = some s) : ρ.set i s = ρ := by
  apply List.ext_getElem?
  intro j
  by_cases e : i = j
  · subst e
    rw [List.getElem?_set_self (List.getElem?_eq_some_iff.mp h).1, h]
  · rw [List.getElem?_set_ne e]
theorem compGo_pure {i : Nat} {tt : EvT} {el : EvE} {bs : Src} {ρ : AE} {p : D → Bool} {g : D → D × Bool} (h : ρ[i]? = some .non) (hs : stills bs ρ = true) : ∀ (ds acc : List D), (∀ d ∈ ds, tt (ρ.set i (.val d)) = .ok (p d) (ρ.set i (.val d))) → (∀ d ∈ ds, p d = true → el (ρ.set i (.val d)) = .ok (g d) (ρ.set i (.val d))) →
    compGo [i] (.name i) tt el bs ds ρ acc = .ok (acc ++ (ds.filter p).map fun d => (g d).1) ρ
  | [], acc, _, _ => by simp [compGo, hs]
  | d :: ds, acc, ht, he => by
    have hb : bindT (.name i) d ρ = some (ρ.set i (.val d)) := by simp [bindT, h]
    have hw : wipeA [i] (ρ.set i (.val d)) = ρ := by
      simp only [wipeA, List.set_set]
      exact set_same h
    have ih := fun acc => compGo_pure (p := p) (g := g) h hs ds acc (fun d hd => ht d (List.mem_cons_of_mem _ hd)) fun d hd => he d (List.mem_cons_of_mem _ hd)
    unfold compGo
    rw [if_pos hs, hb]
    simp only [ht d (by simp), nox, bind_ok]
    cases hp : p d with
    | true =>
      rw [if_pos rfl, he d (by simp) hp]
      simp only [nox, bind_ok, hw, ih]
      simp [hp]
    | false => simp [hw, ih, hp]
theorem eComp_pure {i : Nat} {it : EvI} {tt : EvT} {el : EvE} {bs : Src} {ρ : AE} {ds : List D} (p : D → Bool) (g : D → D × Bool) (hi : it ρ = .ok (ds, bs) ρ) (h : quiet ρ[i]?) (hs : stills bs (ρ.set i .non) = true)
    (ht : ∀ d ∈ ds, tt (ρ.set i (.val d)) = .ok (p d) (ρ.set i (.val d))) (he : ∀ d ∈ ds, p d = true → el (ρ.set i (.val d)) = .ok (g d) (ρ.set i (.val d))) : eComp [i] it (.name i) tt el ρ = .ok (.list ((ds.filter p).map fun d => (g d).1), true) ρ := by
  have hl : i < ρ.length := by
    cases e : ρ[i]? with
    | none => rw [e] at h; exact h.elim
    | some s => exact (List.getElem?_eq_some_iff.mp e).1
  have hn : (ρ.set i .non)[i]? = some Slot.non := by simp [hl]
  have q : compGo [i] (.name i) tt el bs ds (ρ.set i .non) [] = .ok ((ds.filter p).map fun d => (g d).1) (ρ.set i .non) := by
    have := compGo_pure (tt := tt) (el := el) (bs := bs) (p := p) (g := g) hn hs ds [] (fun d hd => by simpa using ht d hd) fun d hd hp => by simpa using he d hd hp
    simpa using this
  unfold eComp
  rw [hi]
  simp only [bind_ok, wipeA]
  rw [q]
  simp only [bind_ok, restA]
  cases e : ρ[i]? with
  | none => rw [e] at h; exact h.elim
  | some s =>
    cases s with
    | non => simp only [List.set_set]; rw [set_same e]
    | val d => simp only [List.set_set]; rw [set_same e]
    | _ => rw [e] at h; exact h.elim
theorem filt_true {α : Type} : ∀ l : List α, l.filter (fun _ => true) = l
  | [] => rfl
  | a :: l => by simp only [List.filter, filt_true l]
theorem eComp_map {i : Nat} {it : EvI} {el : EvE} {bs : Src} {ρ : AE} {ds : List D} (g : D → D × Bool) (hi : it ρ = .ok (ds, bs) ρ) (h : quiet ρ[i]?) (hs : stills bs (ρ.set i .non) = true)
    (he : ∀ d ∈ ds, el (ρ.set i (.val d)) = .ok (g d) (ρ.set i (.val d))) : eComp [i] it (.name i) tTrue el ρ = .ok (.list (ds.map fun d => (g d).1), true) ρ := by
  have := eComp_pure (tt := tTrue) (el := el) (fun _ => true) g hi h hs (fun d _ => rfl) fun d hd _ => he d hd
  rw [this, filt_true]
/-! ### rows of the law -/
theorem dAll_map {l : List D} {q : D → Bool} : dAll [.list (l.map fun d => .bool (q d))] = some (.bool (l.all q), false) := by
  simp [dAll, isBoolD, PyData.truthy, List.all_map, Function.comp_def]
theorem dAny_map {l : List D} {q : D → Bool} : dAny [.list (l.map fun d => .bool (q d))] = some (.bool (l.any q), false) := by
  simp [dAny, isBoolD, PyData.truthy, List.all_map, List.any_map, Function.comp_def]
def isI : D → Bool
  | .int _ => true
  | _ => false
def Leaf : D → Prop
  | .int n => -(2 ^ 20) < n ∧ n < 2 ^ 20
  | .str x => x = "schema" ∨ x = "0" ∨ x = "1" ∨ x = "2"
  | .none => True
  | _ => False
theorem isi_leaf {d : D} (h : Leaf d) : dIsi "int" d = some (.bool (isI d), false) := by
  cases d <;> first | rfl | exact h.elim
end Ow

namespace Ow
open PySem PyProof.Rows PySem.Spec L2
def adjB {α : Type} (lt : α → α → Bool) : List α → Bool
  | a :: b :: r => lt a b && adjB lt (b :: r)
  | _ => true
theorem adj_pw {α : Type} {lt : α → α → Bool} (tr : ∀ a b c, lt a b = true → lt b c = true → lt a c = true) : ∀ l : List α, adjB lt l = true ↔ l.Pairwise fun a b => lt a b = true
  | [] => by simp [adjB]
  | [a] => by simp [adjB]
  | a :: b :: r => by
    simp only [adjB, Bool.and_eq_true, adj_pw tr (b :: r)]
    constructor
    · rintro ⟨h, q⟩
      refine List.pairwise_cons.mpr ⟨fun c hc => ?_, q⟩
      rcases List.mem_cons.mp hc with rfl | hc
      · exact h
      · exact tr _ _ _ h ((List.pairwise_cons.mp q).1 c hc)
    · intro q
      exact ⟨(List.pairwise_cons.mp q).1 b (by simp), (List.pairwise_cons.mp q).2⟩
def ltAt {α : Type} (lt : α → α → Bool) (l : List α) (i : Nat) : Bool := match l[i]?, l[i + 1]? with
  | some a, some b => lt a b
  | _, _ => false
theorem adj_range {α : Type} {lt : α → α → Bool} : ∀ l : List α, (List.range (l.length - 1)).all (ltAt lt l) = adjB lt l
  | [] => rfl
  | [a] => rfl
  | a :: b :: r => by
    have ih := adj_range (lt := lt) (b :: r)
    have e : (a :: b :: r).length - 1 = ((b :: r).length - 1) + 1 := by simp
    rw [e, List.range_succ_eq_map, List.all_cons, List.all_map, adjB]
    rw [← ih]
    congr 1
theorem pair_el {ρ : AE} {j : Nat} {xs : List D} {i : Nat} (h0 : ρ[0]? = some (.val (.tuple xs))) (hj : ρ[j]? = some (.val (.int i))) (hi : i + 1 < xs.length) (ok : ∀ a ∈ xs, ∀ b ∈ xs, okL a b = true) :
    eBin dLt (oOf (eBin dIx (oVar 0) (oVar j))) (oOf (eBin dIx (oVar 0) (oOf (eBin dAdd (oVar j) (oOf (eCon (.int 1))))))) ρ = .ok (.bool (ltAt PySem.W.dataLt xs i), false) ρ := by
  have e1 : atI xs (i : Int) = some xs[i] := by
    have : (i : Int) < xs.length := by omega
    simp [atI, ixN, this, show i < xs.length by omega]
  have e2 : atI xs ((i : Int) + 1) = some xs[i + 1] := by
    have : (i : Int) + 1 < xs.length := by omega
    have h : (0 : Int) ≤ (i : Int) + 1 := by omega
    have t : ((i : Int) + 1).toNat = i + 1 := by omega
    simp [atI, ixN, this, h, t, hi]
  have k := ok xs[i] (List.getElem_mem _) xs[i + 1] (List.getElem_mem _)
  simp [eBin, oOf, oVar, eCon, h0, hj, still, dIx, dAdd, e1, e2, dLt, k, ltAt, show i < xs.length by omega, hi]
theorem adj_ok {ρ : AE} {j : Nat} {xs : List D} (h0 : ρ[0]? = some (.val (.tuple xs))) (hj : quiet ρ[j]?) (j0 : j ≠ 0) (hl : xs.length < 64) (ok : ∀ a ∈ xs, ∀ b ∈ xs, okL a b = true) :
    eOps dAll [oOf (eComp [j] (iRange1 (oOf (eBin dSub (oOf (eOps dLen [oVar 0])) (oOf (eCon (.int 1)))))) (.name j) tTrue (eBin dLt (oOf (eBin dIx (oVar 0) (oVar j))) (oOf (eBin dIx (oVar 0) (oOf (eBin dAdd (oVar j) (oOf (eCon (.int 1)))))))))] ρ = .ok (.bool (adjB PySem.W.dataLt xs), false) ρ := by
  have hjl : j < ρ.length := by
    cases e : ρ[j]? with
    | none => rw [e] at hj; exact hj.elim
    | some s => exact (List.getElem?_eq_some_iff.mp e).1
  have hi : iRange1 (oOf (eBin dSub (oOf (eOps dLen [oVar 0])) (oOf (eCon (.int 1))))) ρ = .ok (rangeD 0 (xs.length - 1), []) ρ := by
    have a1 : (xs.length : Int) - 1 < 2 ^ 24 := by omega
    have a2 : -(2 ^ 62) ≤ (xs.length : Int) - 1 := by omega
    have a3 : ((xs.length : Int) - 1).toNat = xs.length - 1 := by omega
    simp only [iRange1, oOf, eBin, eOps, oList, oVar, h0, bind_ok, stills, still, eCon, dLen, dSub, Bool.and_self, if_true, List.map]
    rw [if_pos ⟨a1, a2⟩, a3]
  have e := eComp_map (i := j) (it := iRange1 (oOf (eBin dSub (oOf (eOps dLen [oVar 0])) (oOf (eCon (.int 1)))))) (el := eBin dLt (oOf (eBin dIx (oVar 0) (oVar j))) (oOf (eBin dIx (oVar 0) (oOf (eBin dAdd (oVar j) (oOf (eCon (.int 1)))))))) (ρ := ρ)
    (fun d => (.bool (match d with | .int k => ltAt PySem.W.dataLt xs k.toNat | _ => false), false)) hi hj rfl (fun d hd => by
      obtain ⟨i, hi, rfl⟩ := List.mem_map.mp hd
      have hi : i < xs.length - 1 := List.mem_range.mp hi
      have q := pair_el (ρ := ρ.set j (.val (.int (0 + (i : Int))))) (j := j) (xs := xs) (i := i) (by rw [List.getElem?_set_ne j0]; exact h0) (by simp [hjl]) (by omega) ok
      rw [q]
      simp)
  simp only [eOps, oList, oOf, e, bind_ok, stills, still, Bool.and_self, if_true, List.map]
  have f : (rangeD 0 (xs.length - 1)).map (fun d => ((PyData.bool (match d with | .int k => ltAt PySem.W.dataLt xs k.toNat | _ => false), false) : D × Bool).1) = (List.range (xs.length - 1)).map fun i => PyData.bool (ltAt PySem.W.dataLt xs i) := by
    simp [rangeD]
  rw [f, ← adj_range]
  have : dAll [PyData.list ((List.range (xs.length - 1)).map fun i => PyData.bool (ltAt PySem.W.dataLt xs i))] = some (.bool ((List.range (xs.length - 1)).all (ltAt PySem.W.dataLt xs)), false) := by
    simp [dAll, isBoolD, PyData.truthy, List.all_map, Function.comp_def]
  rw [this]
theorem okL_of_ints {ns : List Int} : ∀ a ∈ ns.map PyData.int, ∀ b ∈ ns.map PyData.int, okL a b = true := by
  intro a ha b hb
  obtain ⟨x, _, rfl⟩ := List.mem_map.mp ha
  obtain ⟨y, _, rfl⟩ := List.mem_map.mp hb
  exact okL_ii x y
def ltI (a b : Int) : Bool := decide (a < b)
theorem adj_int : ∀ ns : List Int, adjB PySem.W.dataLt (ns.map PyData.int) = adjB ltI ns
  | [] => rfl
  | [a] => rfl
  | a :: b :: r => by
    have := adj_int (b :: r)
    simp only [List.map, adjB] at this ⊢
    rw [this, PySem.W.dataLt_int]
    rfl
theorem all_isI : ∀ {ds : List D}, ds.all isI = true → ∃ ns, intsOf ds = some ns
  | [], _ => ⟨[], rfl⟩
  | d :: ds, h => by
    simp only [List.all_cons, Bool.and_eq_true] at h
    cases d with
    | int i =>
      obtain ⟨ns, e⟩ := all_isI h.2
      exact ⟨i :: ns, by simp [intsOf, e]⟩
    | _ => simp [isI] at h
theorem intsOf_none : ∀ {ds : List D}, ds.all isI = false → intsOf ds = none := by
  intro ds h
  cases e : intsOf ds with
  | none => rfl
  | some ns =>
    rw [intsOf_eq e] at h
    simp [List.all_map, isI, Function.comp_def] at h
/-- whole numbers, upwards -/
def riseB : D → Bool
  | .tuple ds => match intsOf ds with
    | some ns => adjB ltI ns
    | none => false
  | _ => false
def G1 : D → Prop
  | .tuple ds => ds.length < 64 ∧ ∀ d ∈ ds, Leaf d
  | d => Leaf d
theorem rising_ok {d : D} (h : G1 d) : FSat (is_rising_S [d]) (fun r fl outs => r = .bool (riseB d) ∧ fl = false) (fun _ => False) := by
  refine fsat_run rfl ?_
  show SSat (is_rising_F [.val d, .non, .non]) _
  unfold is_rising_F
  refine ssat_seq (ssat_if ?_)
  by_cases hd : ∃ ds, d = .tuple ds
  · obtain ⟨ds, rfl⟩ := hd
    have hi : dIsi "tuple" (.tuple ds) = some (.bool true, false) := rfl
    have e := eComp_map (i := 1) (it := iSeq (oVar 0)) (el := eUn (dIsi "int") (oVar 1)) (ρ := [.val (.tuple ds), .non, .non]) (fun d => (.bool (isI d), false)) (ds := ds) (bs := [(.tuple ds, none)])
      (by simp [iSeq, oVar, itemsD]) trivial rfl (fun d hd => by simp [eUn, oVar, isi_leaf (h.2 d hd)])
    have e2 : dAll [.list (List.map (fun d => PyData.bool (isI d)) ds)] = some (.bool (ds.all isI), false) := dAll_map
    simp [tOr2, tNot1, tVal, eUn, oVar, hi, eOps, oList, oOf, e, stills, e2, sNx]
    cases hb : ds.all isI with
    | false =>
      have hb' := intsOf_none hb
      simp only [List.all_eq_false] at hb
      obtain ⟨x, hx, hn⟩ := hb
      rw [if_pos ⟨x, hx, by simpa using hn⟩]
      refine ssat_ret ?_
      simp [eCon, inoStill, List.range_succ, riseB, hb']
    | true =>
      obtain ⟨ns, en⟩ := all_isI hb
      have hn : ¬ ∃ x, x ∈ ds ∧ isI x = false := by
        rintro ⟨x, hx, hn⟩
        rw [List.all_eq_true] at hb
        rw [hb x hx] at hn; cases hn
      rw [if_neg hn]
      simp only [ssat_nx, next_nx]
      refine ssat_ret ?_
      have k : ∀ a ∈ ds, ∀ b ∈ ds, okL a b = true := by rw [intsOf_eq en]; exact okL_of_ints
      have := adj_ok (ρ := [.val (.tuple ds), .non, .non]) (j := 2) (xs := ds) rfl trivial (by decide) h.1 k
      rw [this]
      simp [inoStill, List.range_succ, riseB, en]
      rw [intsOf_eq en, adj_int]
  · have hr : riseB d = false := by cases d <;> first | rfl | exact absurd ⟨_, rfl⟩ hd
    have hi : dIsi "tuple" d = some (.bool false, false) := by
      cases d <;> first | rfl | exact absurd ⟨_, rfl⟩ hd | exact h.elim
    simp [tOr2, tNot1, tVal, eUn, oVar, hi]
    refine ssat_ret ?_
    simp [eCon, inoStill, List.range_succ, hr]
end Ow

namespace Ow
open PySem PyProof.Rows PySem.Spec L2
theorem call_eq {sem : Fun} {as : List EvA} {ps : List (D × Option Nat)} {ρ ρ1 : AE} {a : D} {b : Bool} (h : evArgs as ρ = .ok ps ρ1) (hn : ∀ p ∈ ps, p.2 = none) (hf : FSat (sem (ps.map (·.1))) (fun r fl _ => r = a ∧ fl = b) fun _ => False) : eCall sem as ρ = .ok (a, b) ρ1 := by
  have : Sat (eCall sem as ρ) fun p ρ2 => p = (a, b) ∧ ρ2 = ρ1 := sat_callV (by rw [h]; exact ⟨hn, hf.imp (fun d fl os q => ⟨by rw [q.1, q.2], rfl⟩) fun _ q => q⟩)
  obtain ⟨p, ρ2, e, rfl, rfl⟩ := this.get
  exact e
theorem call1_eq {sem : Fun} {f : EvE} {ρ : AE} {p : D × Bool} {a : D} {b : Bool} (h : f ρ = .ok p ρ) (hf : FSat (sem [p.1]) (fun r fl _ => r = a ∧ fl = b) fun _ => False) : eCall sem [.val f] ρ = .ok (a, b) ρ :=
  call_eq (ps := [(p.1, none)]) (by simp [evArgs, h]) (by simp) hf
theorem call2_eq {sem : Fun} {f g : EvE} {ρ : AE} {p q : D × Bool} {a : D} {b : Bool} (h : f ρ = .ok p ρ) (h2 : g ρ = .ok q ρ) (hf : FSat (sem [p.1, q.1]) (fun r fl _ => r = a ∧ fl = b) fun _ => False) : eCall sem [.val f, .val g] ρ = .ok (a, b) ρ :=
  call_eq (ps := [(p.1, none), (q.1, none)]) (by simp [evArgs, h, h2]) (by simp) hf
/-- columns of so many, upwards -/
def colsB (m : Int) : D → Bool
  | .tuple ds => match intsOf ds with
    | some ns => adjB ltI ns && ns.all fun c => decide (0 ≤ c) && decide (c < m)
    | none => false
  | _ => false
def inB (m : Int) : D → Bool
  | .int c => decide (0 ≤ c) && decide (c < m)
  | _ => false
theorem cols_ok {d : D} {m : Int} (h : G1 d) : FSat (are_columns_S [d, .int m]) (fun r fl outs => r = .bool (colsB m d) ∧ fl = false) (fun _ => False) := by
  refine fsat_run rfl ?_
  show SSat (are_columns_F [.val d, .val (.int m), .non]) _
  unfold are_columns_F
  refine ssat_ret ?_
  have c := call1_eq (f := eVar 0) (ρ := [.val d, .val (.int m), .non]) (p := (d, false)) rfl (rising_ok h)
  simp only [eAnd2, c, bind_ok]
  cases hr : riseB d with
  | false =>
    have hc : colsB m d = false := by
      unfold colsB
      split
      · rename_i ds
        simp only [riseB] at hr
        split
        · rename_i ns e
          rw [e] at hr
          have hr : adjB ltI ns = false := hr
          simp [hr]
        · rfl
      · rfl
    simp [hc, inoStill, List.range_succ]
  | true =>
    unfold riseB at hr
    split at hr
    · rename_i ds
      split at hr
      · rename_i ns e
        have ed := intsOf_eq e
        have q := eComp_map (i := 2) (it := iSeq (oVar 0)) (el := eChain dLe dLt (oOf (eCon (.int 0))) (oVar 2) (oVar 1)) (ρ := [.val (.tuple ds), .val (.int m), .non]) (fun d => (.bool (inB m d), false)) (ds := ds) (bs := [(.tuple ds, none)])
          (by simp [iSeq, oVar, itemsD]) trivial rfl (fun d hd => by
            rw [ed] at hd
            obtain ⟨c, _, rfl⟩ := List.mem_map.mp hd
            by_cases hc : 0 ≤ c <;> simp [inB, eChain, oOf, eCon, oVar, hc])
        have q2 : dAll [.list (List.map (fun d => PyData.bool (inB m d)) ds)] = some (.bool (ns.all fun c => decide (0 ≤ c) && decide (c < m)), false) := by
          rw [ed, List.map_map]
          simp [dAll, isBoolD, inB, PyData.truthy, List.all_map, Function.comp_def]
        simp [eOps, oList, oOf, q, stills, q2, inoStill, List.range_succ, colsB, e, hr]
      · cases hr
    · cases hr
end Ow

namespace Ow
open PySem PyProof.Rows PySem.Spec L2
theorem plain_ints : ∀ k : List Int, PyData.plainAll (k.map PyData.int) = true
  | [] => rfl
  | a :: k => by simp [PyData.plainAll, PyData.plain, plain_ints k]
theorem depth_ints : ∀ k : List Int, PyData.depthAll (k.map PyData.int) = 0
  | [] => rfl
  | a :: k => by simp [PyData.depthAll, PyData.depth, depth_ints k]
theorem alike_ints : ∀ k l : List Int, PySem.W.alikeAll (k.map PyData.int) (l.map PyData.int) = true
  | [], l => by cases l <;> rfl
  | a :: k, [] => rfl
  | a :: k, b :: l => by simp [PySem.W.alikeAll, PySem.W.alike, alike_ints k l]
theorem okL_encT (k l : List Int) : okL (encT k) (encT l) = true := by
  simp [okL, okC, encT, PyData.plain, plain_ints, PyData.depth, depth_ints, PySem.W.alike, alike_ints]
theorem okI_int {ds : List D} {c : Int} (h : PyData.plainAll ds = true) : okI ds (.int c) = true := by
  simp [okI, h, PyData.plain, PyData.depth]
def nonE : D → Bool
  | .tuple (_ :: _) => true
  | _ => false
def edgeB (m : Int) (d : D) : Bool := colsB m d && nonE d
def hasC (c : Nat) : D → Bool
  | .tuple ds => ds.any fun y => PyData.eqv y (.int c)
  | _ => false
def edgesB (m : Int) : D → Bool
  | .tuple es => decide (1 ≤ es.length) && (decide (es.length ≤ 10) && (es.all (edgeB m) && (adjB PySem.W.dataLt es && (List.range m.toNat).all fun c => es.any (hasC c))))
  | _ => false
def G2 : D → Prop
  | .tuple ds => ds.length < 64 ∧ ∀ d ∈ ds, G1 d
  | d => Leaf d
theorem colsB_enc {m : Int} {d : D} (h : colsB m d = true) : ∃ k, d = encT k ∧ adjB ltI k = true ∧ ∀ c ∈ k, 0 ≤ c ∧ c < m := by
  unfold colsB at h
  split at h
  · split at h
    · rename_i ds ns e
      simp only [Bool.and_eq_true, List.all_eq_true, decide_eq_true_eq] at h
      exact ⟨ns, by rw [intsOf_eq e]; rfl, h.1, h.2⟩
    · cases h
  · cases h
theorem edges_enc {m : Int} : ∀ {es : List D}, es.all (edgeB m) = true → ∃ ks : List (List Int), es = ks.map encT ∧ ∀ k ∈ ks, k ≠ [] ∧ adjB ltI k = true ∧ ∀ c ∈ k, 0 ≤ c ∧ c < m
  | [], _ => ⟨[], rfl, by simp⟩
  | d :: es, h => by
    simp only [List.all_cons, Bool.and_eq_true, edgeB] at h
    obtain ⟨k, rfl, h1, h2⟩ := colsB_enc h.1.1
    obtain ⟨ks, rfl, h3⟩ := edges_enc h.2
    refine ⟨k :: ks, rfl, fun l hl => ?_⟩
    rcases List.mem_cons.mp hl with rfl | hl
    · refine ⟨?_, h1, h2⟩
      rintro rfl
      exact absurd h.1.2 (by simp [encT, nonE])
    · exact h3 l hl
theorem okL_encs {ks : List (List Int)} : ∀ a ∈ ks.map encT, ∀ b ∈ ks.map encT, okL a b = true := by
  intro a ha b hb
  obtain ⟨x, _, rfl⟩ := List.mem_map.mp ha
  obtain ⟨y, _, rfl⟩ := List.mem_map.mp hb
  exact okL_encT x y
theorem isi_tup {d : D} (h : G2 d) (hd : ¬ ∃ ds, d = .tuple ds) : dIsi "tuple" d = some (.bool false, false) := by
  cases d <;> first | rfl | exact absurd ⟨_, rfl⟩ hd | exact h.elim
theorem edges_ok {d : D} {m : Int} (h : G2 d) (hm : 0 ≤ m) (hm2 : m < 64) : FSat (are_edges_S [d, .int m]) (fun r fl outs => r = .bool (edgesB m d) ∧ fl = false) (fun _ => False) := by
  refine fsat_run rfl ?_
  show SSat (are_edges_F [.val d, .val (.int m), .non, .non, .non]) _
  unfold are_edges_F
  refine ssat_seq (ssat_if ?_)
  by_cases hd : ∃ ds, d = .tuple ds
  · obtain ⟨es, rfl⟩ := hd
    have hi : dIsi "tuple" (.tuple es) = some (.bool true, false) := rfl
    by_cases l1 : 1 ≤ es.length
    · by_cases l2 : es.length ≤ 10
      · have l1' : (1 : Int) ≤ es.length := by omega
        have l2' : (es.length : Int) ≤ 10 := by omega
        simp [tOr2, tNot1, tVal, eUn, oVar, hi, eChain, eOps, oList, oOf, stills, still, dLen, eCon, l1', l2', sNx]
        have e := eComp_map (i := 2) (it := iSeq (oVar 0)) (el := eAnd2 (eCall are_columns_S [.val (eVar 2), .val (eVar 1)]) (eBin dGt (oOf (eOps dLen [(oVar 2)])) (oOf (eCon (.int 0))))) (ρ := [.val (.tuple es), .val (.int m), .non, .non, .non]) (fun d => (.bool (edgeB m d), false)) (ds := es) (bs := [(.tuple es, none)])
          (by simp [iSeq, oVar, itemsD]) trivial rfl (fun d hd => by
            have c := call2_eq (sem := are_columns_S) (f := eVar 2) (g := eVar 1) (ρ := [.val (.tuple es), .val (.int m), .val d, .non, .non]) (p := (d, false)) (q := (.int m, false)) rfl rfl (cols_ok (h.2 d hd))
            simp [eAnd2, c]
            cases hc : colsB m d with
            | false => simp [edgeB, hc]
            | true =>
              obtain ⟨k, rfl, _⟩ := colsB_enc hc
              cases k <;> simp [edgeB, hc, eBin, eOps, oList, oOf, oVar, stills, dLen, encT, eCon, nonE]
              simpa [encT] using hc)
        have e2 : dAll [.list (es.map fun d => PyData.bool (edgeB m d))] = some (.bool (es.all (edgeB m)), false) := dAll_map
        refine ssat_seq (ssat_if ?_)
        have e3 : eOps dAll [oOf (eComp [2] (iSeq (oVar 0)) (.name 2) tTrue (eAnd2 (eCall are_columns_S [.val (eVar 2), .val (eVar 1)]) (eBin dGt (oOf (eOps dLen [(oVar 2)])) (oOf (eCon (.int 0))))))] [.val (.tuple es), .val (.int m), .non, .non, .non] = .ok (.bool (es.all (edgeB m)), false) [.val (.tuple es), .val (.int m), .non, .non, .non] := by
          simp only [eOps, oList, oOf, e, bind_ok, stills, still, Bool.and_self, if_true, List.map]
          rw [e2]
        simp only [tNot1, tVal, e3, bind_ok, sat_ok]
        cases hb : es.all (edgeB m) with
        | false =>
          refine ssat_ret ?_
          simp [eCon, inoStill, List.range_succ, edgesB, hb]
        | true =>
          obtain ⟨ks, rfl, hk⟩ := edges_enc hb
          have a1 := adj_ok (ρ := [.val (.tuple (ks.map encT)), .val (.int m), .non, .non, .non]) (j := 3) (xs := ks.map encT) rfl trivial (by decide) h.1 okL_encs
          simp only [Bool.not_true, Bool.false_eq_true, if_false, sNx, ssat_nx, next_nx]
          refine ssat_seq (ssat_if ?_)
          simp only [tNot1, tVal, a1, bind_ok, sat_ok]
          cases ha : adjB PySem.W.dataLt (ks.map encT) with
          | false =>
            refine ssat_ret ?_
            simp [eCon, inoStill, List.range_succ, edgesB, ha]
          | true =>
            simp only [Bool.not_true, Bool.false_eq_true, if_false, sNx, ssat_nx, next_nx]
            refine ssat_ret ?_
            have hr : iRange1 (oVar 1) [.val (.tuple (ks.map encT)), .val (.int m), .non, .non, .non] = .ok (rangeD 0 m.toNat, []) [.val (.tuple (ks.map encT)), .val (.int m), .non, .non, .non] := by
              simp [iRange1, oVar, show m < 16777216 by omega, show -4611686018427387904 ≤ m by omega]
            have inner : ∀ c : Nat, eOps dAny [oOf (eComp [2] (iSeq (oVar 0)) (.name 2) tTrue (eBin dIn (oVar 4) (oVar 2)))] [.val (.tuple (ks.map encT)), .val (.int m), .non, .non, .val (.int (c : Int))] = .ok (.bool ((ks.map encT).any (hasC c)), false) [.val (.tuple (ks.map encT)), .val (.int m), .non, .non, .val (.int (c : Int))] := fun c => by
              have q := eComp_map (i := 2) (it := iSeq (oVar 0)) (el := eBin dIn (oVar 4) (oVar 2)) (ρ := [.val (.tuple (ks.map encT)), .val (.int m), .non, .non, .val (.int (c : Int))]) (fun d => (.bool (hasC c d), false)) (ds := ks.map encT) (bs := [(.tuple (ks.map encT), none)])
                (by simp [iSeq, oVar, itemsD]) trivial rfl (fun d hd => by
                  obtain ⟨k, _, rfl⟩ := List.mem_map.mp hd
                  simp [eBin, oVar, encT, dIn, okI_int (plain_ints k), hasC])
              have q2 : dAny [.list ((ks.map encT).map fun d => PyData.bool (hasC c d))] = some (.bool ((ks.map encT).any (hasC c)), false) := dAny_map
              simp only [eOps, oList, oOf, q, bind_ok, stills, still, Bool.and_self, if_true, List.map]
              rw [q2]
            have q := eComp_map (i := 4) (it := iRange1 (oVar 1)) (el := eOps dAny [oOf (eComp [2] (iSeq (oVar 0)) (.name 2) tTrue (eBin dIn (oVar 4) (oVar 2)))]) (ρ := [.val (.tuple (ks.map encT)), .val (.int m), .non, .non, .non]) (fun d => (.bool (match d with | .int c => (ks.map encT).any (hasC c.toNat) | _ => false), false)) hr trivial rfl (fun d hd => by
              obtain ⟨c, _, rfl⟩ := List.mem_map.mp hd
              have := inner c
              simp only [Int.zero_add]
              exact this)
            have f : (rangeD 0 m.toNat).map (fun d => ((PyData.bool (match d with | .int c => (ks.map encT).any (hasC c.toNat) | _ => false), false) : D × Bool).1) = (List.range m.toNat).map fun c => PyData.bool ((ks.map encT).any (hasC c)) := by
              simp [rangeD]
            have g : dAll [PyData.list ((List.range m.toNat).map fun c => PyData.bool ((ks.map encT).any (hasC c)))] = some (.bool ((List.range m.toNat).all fun c => (ks.map encT).any (hasC c)), false) := by
              simp [dAll, isBoolD, PyData.truthy, List.all_map, Function.comp_def]
            have z : eOps dAll [oOf (eComp [4] (iRange1 (oVar 1)) (.name 4) tTrue (eOps dAny [oOf (eComp [2] (iSeq (oVar 0)) (.name 2) tTrue (eBin dIn (oVar 4) (oVar 2)))]))] [.val (.tuple (ks.map encT)), .val (.int m), .non, .non, .non] = .ok (.bool ((List.range m.toNat).all fun c => (ks.map encT).any (hasC c)), false) [.val (.tuple (ks.map encT)), .val (.int m), .non, .non, .non] := by
              rw [f] at q
              simp only [eOps, oList, oOf, q, bind_ok, stills, still, Bool.and_self, if_true, List.map]
              rw [g]
            rw [z]
            refine ⟨by simp [inoStill, List.range_succ], ?_, rfl⟩
            show PyData.bool _ = PyData.bool (decide (1 ≤ (ks.map encT).length) && (decide ((ks.map encT).length ≤ 10) && ((ks.map encT).all (edgeB m) && (adjB PySem.W.dataLt (ks.map encT) && (List.range m.toNat).all fun c => (ks.map encT).any (hasC c)))))
            rw [hb, ha, decide_eq_true l1, decide_eq_true l2]
            rfl
      · have l2' : ¬ (es.length : Int) ≤ 10 := by omega
        have hr : edgesB m (.tuple es) = false := by simp [edgesB, l2]
        simp [tOr2, tNot1, tVal, eUn, oVar, hi, eChain, eOps, oList, oOf, stills, still, dLen, eCon, l2', show (1 : Int) ≤ es.length by omega]
        refine ssat_ret ?_
        simp [eCon, inoStill, List.range_succ, hr]
    · have l1' : ¬ (1 : Int) ≤ es.length := by omega
      have hr : edgesB m (.tuple es) = false := by simp [edgesB, l1]
      simp [tOr2, tNot1, tVal, eUn, oVar, hi, eChain, eOps, oList, oOf, stills, still, dLen, eCon, l1']
      refine ssat_ret ?_
      simp [eCon, inoStill, List.range_succ, hr]
  · have hr : edgesB m d = false := by cases d <;> first | rfl | exact absurd ⟨_, rfl⟩ hd
    simp [tOr2, tNot1, tVal, eUn, oVar, isi_tup h hd]
    refine ssat_ret ?_
    simp [eCon, inoStill, List.range_succ, hr]
end Ow

namespace Ow
open PySem PyProof.Rows PySem.Spec L2
theorem isi_G1 {d : D} (h : G1 d) : dIsi "int" d = some (.bool (isI d), false) := by
  cases d <;> first | rfl | exact h.elim
def prod (ns : List Int) : Int := ns.foldl (· * ·) 1
theorem many_ok {ns : List Int} (h : ∀ n ∈ ns, 1 ≤ n ∧ n ≤ 4) : FSat (how_many_S [.tuple (ns.map PyData.int)]) (fun r fl outs => r = .int (prod ns) ∧ fl = false) (fun _ => False) := by
  refine fsat_run rfl ?_
  show SSat (how_many_F [.val (.tuple (ns.map PyData.int)), .non, .non]) _
  unfold how_many_F
  refine ssat_seq (ssat_asg ?_)
  simp [eCon, isNoIno, slotOf]
  refine ssat_seq ?_
  simp [sFor, iSeq, oVar, itemsD, freeOf]
  refine ssat_for (fun ds ρ => ∃ (l : List Int) (acc : Int) (s : Slot), ds = l.map PyData.int ∧ quiet (some s) ∧ ρ = [.val (.tuple (ns.map PyData.int)), .val (.int acc), s] ∧ (∀ n ∈ l, 1 ≤ n ∧ n ≤ 4) ∧ l.foldl (· * ·) acc = prod ns) ?_ ?_ _ _ ⟨ns, 1, .non, rfl, trivial, rfl, h, rfl⟩
  · rintro d ds ρ ⟨l, acc, s, e, hs, rfl, hl, hp⟩
    cases l with
    | nil => cases e
    | cons n l =>
      simp only [List.map_cons, List.cons.injEq] at e
      obtain ⟨rfl, rfl⟩ := e
      have hn := hl n (by simp)
      have hb : bindT (.name 2) (.int n) [.val (.tuple (ns.map PyData.int)), .val (.int acc), s] = some [.val (.tuple (ns.map PyData.int)), .val (.int acc), .val (.int n)] := by
        cases s <;> first | rfl | exact hs.elim
      refine ⟨rfl, _, hb, ssat_asg ?_⟩
      simp [eBin, oVar, dMul, mulOk, show -(18446744073709551616) < n by omega, show n < 18446744073709551616 by omega, isNoIno, slotOf]
      exact ⟨l, rfl, _, .val (.int n), trivial, ⟨rfl, rfl⟩, fun n hn => hl n (List.mem_cons_of_mem _ hn), hp⟩
  · rintro ρ ⟨l, acc, s, e, hs, rfl, hl, hp⟩
    cases l with
    | cons n l => cases e
    | nil =>
      refine ⟨rfl, ?_⟩
      simp only [next_nx]
      refine ssat_ret ?_
      simp at hp
      simp [eMove, inoStill, List.range_succ, hp]
def valB : D → Bool
  | .int v => decide (1 ≤ v) && decide (v ≤ 4)
  | _ => false
def schV (vs : List D) : Bool := decide (1 ≤ vs.length) && (decide (vs.length ≤ 9) && (vs.all valB && decide (prod ((intsOf vs).getD []) ≤ 512)))
def schB : D → Bool
  | .tuple [.tuple vs, e] => schV vs && edgesB vs.length e
  | _ => false
def G3 : D → Prop
  | .tuple ds => ds.length < 64 ∧ ∀ d ∈ ds, G2 d
  | d => Leaf d
theorem vals_ints : ∀ {vs : List D}, vs.all valB = true → ∃ ns : List Int, vs = ns.map PyData.int ∧ ∀ n ∈ ns, 1 ≤ n ∧ n ≤ 4
  | [], _ => ⟨[], rfl, by simp⟩
  | d :: vs, h => by
    simp only [List.all_cons, Bool.and_eq_true] at h
    obtain ⟨ns, rfl, hn⟩ := vals_ints h.2
    cases d with
    | int v =>
      have := h.1
      simp only [valB, Bool.and_eq_true, decide_eq_true_eq] at this
      refine ⟨v :: ns, rfl, fun n hm => ?_⟩
      rcases List.mem_cons.mp hm with rfl | hm
      · exact this
      · exact hn n hm
    | _ => simp [valB] at h
theorem isi_tup3 {d : D} (h : G3 d) (hd : ¬ ∃ ds, d = .tuple ds) : dIsi "tuple" d = some (.bool false, false) := by
  cases d <;> first | rfl | exact absurd ⟨_, rfl⟩ hd | exact h.elim
theorem schema_ok {d : D} (h : G3 d) : FSat (is_schema_S [d]) (fun r fl outs => r = .bool (schB d) ∧ fl = false) (fun _ => False) := by
  refine fsat_run rfl ?_
  show SSat (is_schema_F [.val d, .non, .non]) _
  unfold is_schema_F
  refine ssat_seq (ssat_if ?_)
  by_cases hd : ∃ ds, d = .tuple ds
  · obtain ⟨ds, rfl⟩ := hd
    have hi : dIsi "tuple" (.tuple ds) = some (.bool true, false) := rfl
    by_cases hl : ∃ v e, ds = [v, e]
    · obtain ⟨v, e, rfl⟩ := hl
      have hv : G2 v := h.2 v (by simp)
      have he : G2 e := h.2 e (by simp)
      simp [tOr2, tNot1, tVal, eUn, oVar, hi, eBin, eOps, oList, oOf, stills, still, dLen, eCon, sNx]
      refine ssat_seq (ssat_asg ?_)
      simp [eBin, oVar, oOf, eCon, dIx, atI_0, isNoIno]
      have hs : slotOf (v, false) = .val v := by simp [slotOf]
      rw [hs]
      refine ssat_seq (ssat_if ?_)
      by_cases hvt : ∃ vs, v = .tuple vs
      · obtain ⟨vs, rfl⟩ := hvt
        have hi2 : dIsi "tuple" (.tuple vs) = some (.bool true, false) := rfl
        by_cases l1 : 1 ≤ vs.length
        · by_cases l2 : vs.length ≤ 9
          · simp [tOr2, tNot1, tVal, eUn, oVar, hi2, eChain, eOps, oList, oOf, stills, still, dLen, eCon, show (1 : Int) ≤ vs.length by omega, show (vs.length : Int) ≤ 9 by omega, sNx]
            refine ssat_seq (ssat_if ?_)
            have q := eComp_map (i := 2) (it := iSeq (oVar 1)) (el := eAnd2 (eUn (dIsi "int") (oVar 2)) (eChain dLe dLe (oOf (eCon (.int 1))) (oVar 2) (oOf (eCon (.int 4))))) (ρ := [.val (.tuple [.tuple vs, e]), .val (.tuple vs), .non]) (fun d => (.bool (valB d), false)) (ds := vs) (bs := [(.tuple vs, none)])
              (by simp [iSeq, oVar, itemsD]) trivial rfl (fun d hd => by
                simp [eAnd2, eUn, oVar, isi_G1 (hv.2 d hd)]
                cases d <;> simp [isI, valB]
                rename_i n
                by_cases hn : 1 ≤ n <;> simp [eChain, oOf, eCon, oVar, hn])
            have q2 : dAll [.list (vs.map fun d => PyData.bool (valB d))] = some (.bool (vs.all valB), false) := dAll_map
            have q3 : eOps dAll [oOf (eComp [2] (iSeq (oVar 1)) (.name 2) tTrue (eAnd2 (eUn (dIsi "int") (oVar 2)) (eChain dLe dLe (oOf (eCon (.int 1))) (oVar 2) (oOf (eCon (.int 4))))))] [.val (.tuple [.tuple vs, e]), .val (.tuple vs), .non] = .ok (.bool (vs.all valB), false) [.val (.tuple [.tuple vs, e]), .val (.tuple vs), .non] := by
              simp only [eOps, oList, oOf, q, bind_ok, stills, still, Bool.and_self, if_true, List.map]
              rw [q2]
            simp only [tNot1, tVal, q3, bind_ok, sat_ok]
            cases hb : vs.all valB with
            | false =>
              refine ssat_ret ?_
              simp [eCon, inoStill, List.range_succ, schB, schV, hb]
            | true =>
              obtain ⟨ns, rfl, hn⟩ := vals_ints hb
              simp only [Bool.not_true, Bool.false_eq_true, if_false, sNx, ssat_nx, next_nx]
              refine ssat_ret ?_
              have c1 := call1_eq (sem := how_many_S) (f := eVar 1) (ρ := [.val (.tuple [.tuple (ns.map PyData.int), e]), .val (.tuple (ns.map PyData.int)), .non]) (p := (.tuple (ns.map PyData.int), false)) rfl (many_ok hn)
              have hll : ((ns.map PyData.int).length : Int) < 64 := by omega
              have c2 := call2_eq (sem := are_edges_S) (f := eBin dIx (oVar 0) (oOf (eCon (.int 1)))) (g := eOps dLen [oVar 1]) (ρ := [.val (.tuple [.tuple (ns.map PyData.int), e]), .val (.tuple (ns.map PyData.int)), .non]) (p := (e, false)) (q := (.int (ns.map PyData.int).length, false))
                (by simp [eBin, oVar, oOf, eCon, dIx, atI_1]) (by simp [eOps, oList, oVar, stills, dLen]) (edges_ok he (by omega) hll)
              have hs : schB (.tuple [.tuple (ns.map PyData.int), e]) = (decide (prod ns ≤ 512) && edgesB ((ns.map PyData.int).length : Int) e) := by
                show (decide (1 ≤ (ns.map PyData.int).length) && (decide ((ns.map PyData.int).length ≤ 9) && ((ns.map PyData.int).all valB && decide (prod ((intsOf (ns.map PyData.int)).getD []) ≤ 512))) && _) = _
                rw [hb, intsOf_map, decide_eq_true l1, decide_eq_true l2]
                rfl
              simp only [eAnd2, eBin, oOf, c1, bind_ok, still_none, eCon, dLe_ii, if_true]
              cases hp : decide (prod ns ≤ 512) with
              | false => simp [hs, hp, inoStill, List.range_succ]
              | true =>
                simp only [if_true, c2, sat_ok]
                refine ⟨by simp [inoStill, List.range_succ], ?_, trivial⟩
                rw [hs, hp]; rfl
          · have hr : schB (.tuple [.tuple vs, e]) = false := by simp [schB, schV, l2]
            simp [tOr2, tNot1, tVal, eUn, oVar, hi2, eChain, eOps, oList, oOf, stills, still, dLen, eCon, show (1 : Int) ≤ vs.length by omega, show ¬ (vs.length : Int) ≤ 9 by omega]
            refine ssat_ret ?_
            simp [eCon, inoStill, List.range_succ, hr]
        · have hr : schB (.tuple [.tuple vs, e]) = false := by simp [schB, schV, l1]
          simp [tOr2, tNot1, tVal, eUn, oVar, hi2, eChain, eOps, oList, oOf, stills, still, dLen, eCon, show ¬ (1 : Int) ≤ vs.length by omega]
          refine ssat_ret ?_
          simp [eCon, inoStill, List.range_succ, hr]
      · have hr : schB (.tuple [v, e]) = false := by cases v <;> first | rfl | exact absurd ⟨_, rfl⟩ hvt
        simp [tOr2, tNot1, tVal, eUn, oVar, isi_tup hv hvt]
        refine ssat_ret ?_
        simp [eCon, inoStill, List.range_succ, hr]
    · have hr : schB (.tuple ds) = false := by
        unfold schB
        split
        · rename_i a b heq
          cases heq
          exact absurd ⟨_, _, rfl⟩ hl
        · rfl
      have hn : ¬ ((ds.length : Int) = 2) := by
        intro q
        have q : ds.length = 2 := by omega
        match ds, q with
        | [a, b], _ => exact hl ⟨a, b, rfl⟩
      simp [tOr2, tNot1, tVal, eUn, oVar, hi, eBin, eOps, oList, oOf, stills, still, dLen, eCon, hn]
      refine ssat_ret ?_
      simp [eCon, inoStill, List.range_succ, hr]
  · have hr : schB d = false := by cases d <;> first | rfl | exact absurd ⟨_, rfl⟩ hd
    simp [tOr2, tNot1, tVal, eUn, oVar, isi_tup3 h hd]
    refine ssat_ret ?_
    simp [eCon, inoStill, List.range_succ, hr]
theorem check_ok {d : D} (h : G3 d) : FSat (check_schema_S [d]) (fun r fl outs => schB d = true ∧ r = .none ∧ fl = false) (fun c => schB d = false ∧ c = "BadSchema") := by
  refine fsat_run rfl ?_
  show SSat (check_schema_F [.val d]) _
  unfold check_schema_F
  refine ssat_if ?_
  have c := call1_eq (sem := is_schema_S) (f := eVar 0) (ρ := [.val d]) (p := (d, false)) (by simp [eVar]) (schema_ok h)
  simp only [tNot1, tVal, c, bind_ok, sat_ok]
  cases hs : schB d with
  | false => simp [sRaise, SSat]
  | true => simp [sNx, inoStill, List.range_succ]
end Ow

namespace Ow
open PySem PyProof.Rows PySem.Spec L2
abbrev LO := PyProof.Rows.listOrd PyProof.Rows.itemOrd
theorem dlt_irr (a : D) : PySem.W.dataLt a a = false := LO.irrefl _
theorem dlt_tr (a b c : D) (h : PySem.W.dataLt a b = true) (h2 : PySem.W.dataLt b c = true) : PySem.W.dataLt a c = true := LO.trans _ _ _ h h2
theorem dle_eq (a b : D) : PySem.W.dataLe false id a b = !PySem.W.dataLt b a := rfl
theorem dlt_le {a b : D} (h : PySem.W.dataLt a b = true) : PySem.W.dataLe false id a b = true := by
  rw [dle_eq]
  cases e : PySem.W.dataLt b a with
  | false => rfl
  | true => have := dlt_tr _ _ _ h e; rw [dlt_irr] at this; cases this
theorem dedupe_id : ∀ {l : List D}, l.Nodup → dedupe l = l
  | [], _ => rfl
  | a :: l, h => by
    have h := List.nodup_cons.mp h
    simp only [dedupe, dedupe_id h.2]
    rw [if_neg h.1]
theorem sort_iff {l : List D} (ha : Anti l) : sortD (dedupe l) = l ↔ adjB PySem.W.dataLt l = true := by
  rw [adj_pw dlt_tr]
  constructor
  · intro e
    have p := sortD_pw (dedupe l)
    rw [e] at p
    have n : l.Nodup := by
      have q : (sortD (dedupe l)).Perm (dedupe l) := by unfold sortD; exact List.mergeSort_perm _ _
      rw [e] at q
      exact q.nodup_iff.mpr (dedupe_nodup l)
    have pn := p.and n
    refine List.Pairwise.imp_of_mem (R := fun a b => PySem.W.dataLe false id a b = true ∧ a ≠ b) (fun {a b} h1 h2 h => ?_) pn
    cases h3 : PySem.W.dataLt a b with
    | true => rfl
    | false => exact absurd (ha a h1 b h2 h.1 (by rw [dle_eq, h3]; rfl)) h.2
  · intro p
    have n : l.Nodup := p.imp fun {a b} h e => by subst e; rw [dlt_irr] at h; cases h
    rw [dedupe_id n]
    exact (sortD_of ha (List.Perm.refl _) (p.imp fun h => dlt_le h)).symm
/-- the members, sorted, each once -/
theorem sort_mem {l : List D} {d : D} : d ∈ sortD (dedupe l) ↔ d ∈ l := by
  unfold sortD
  rw [(List.mergeSort_perm _ _).mem_iff, dedupe_mem]
theorem sort_len (l : List D) : (sortD (dedupe l)).length ≤ l.length := by
  unfold sortD
  rw [List.length_mergeSort]
  induction l with
  | nil => simp [dedupe]
  | cons a l ih =>
    simp only [dedupe]
    split <;> simp <;> omega
theorem all_map {α : Type} {f : α → D} {m : List D} (h : ∀ d ∈ m, ∃ a, d = f a) : ∃ as : List α, m = as.map f := by
  induction m with
  | nil => exact ⟨[], rfl⟩
  | cons d m ih =>
    obtain ⟨a, rfl⟩ := h d (by simp)
    obtain ⟨as, rfl⟩ := ih fun d hd => h d (List.mem_cons_of_mem _ hd)
    exact ⟨a :: as, rfl⟩
theorem sort_ints (ns : List Int) : ∃ ms : List Int, sortD (dedupe (ns.map PyData.int)) = ms.map PyData.int := all_map fun d hd => by
  obtain ⟨x, _, rfl⟩ := List.mem_map.mp (sort_mem.mp hd)
  exact ⟨x, rfl⟩
theorem sort_encs (ks : List (List Int)) : ∃ ms : List (List Int), sortD (dedupe (ks.map encT)) = ms.map encT := all_map fun d hd => by
  obtain ⟨x, _, rfl⟩ := List.mem_map.mp (sort_mem.mp hd)
  exact ⟨x, rfl⟩
theorem plain_encs : ∀ k : List (List Int), PyData.plainAll (k.map encT) = true
  | [] => rfl
  | a :: k => by simp [PyData.plainAll, encT, PyData.plain, plain_ints, plain_encs k]
theorem depth_encs : ∀ k : List (List Int), PyData.depthAll (k.map encT) ≤ 1
  | [] => by simp [PyData.depthAll]
  | a :: k => by simp [PyData.depthAll, encT, PyData.depth, depth_ints, depth_encs k]
theorem eqv_ints : ∀ k l : List Int, PyData.eqvAll (k.map PyData.int) (l.map PyData.int) = decide (k.map PyData.int = l.map PyData.int)
  | [], [] => by simp [PyData.eqvAll]
  | [], b :: l => by simp [PyData.eqvAll]
  | a :: k, [] => by simp [PyData.eqvAll]
  | a :: k, b :: l => by
    simp only [List.map_cons, PyData.eqvAll, PyData.eqv, eqv_ints k l]
    by_cases h : a = b <;> simp [h]
theorem eqv_encs : ∀ k l : List (List Int), PyData.eqvAll (k.map encT) (l.map encT) = decide (k.map encT = l.map encT)
  | [], [] => by simp [PyData.eqvAll]
  | [], b :: l => by simp [PyData.eqvAll]
  | a :: k, [] => by simp [PyData.eqvAll]
  | a :: k, b :: l => by
    simp only [List.map_cons, PyData.eqvAll, encT, PyData.eqv, eqv_ints a b]
    rw [show PyData.eqvAll (List.map encT k) (List.map encT l) = _ from eqv_encs k l]
    by_cases h : a.map PyData.int = b.map PyData.int <;> simp [h]
theorem ne_sort_ints (ns : List Int) : dNe (.list (sortD (dedupe (ns.map PyData.int)))) (.list (ns.map PyData.int)) = some (.bool (!adjB PySem.W.dataLt (ns.map PyData.int)), false) := by
  obtain ⟨ms, e⟩ := sort_ints ns
  have q := sort_iff (anti_ints ns)
  rw [e] at q
  rw [e, dNe, if_pos (by simp [okC, PyData.plain, plain_ints, PyData.depth, depth_ints])]
  simp only [PyData.eqv, eqv_ints]
  congr 4
  rw [Bool.eq_iff_iff, decide_eq_true_eq]
  exact q
theorem eq_sort_encs (ks : List (List Int)) : dEq (.list (sortD (dedupe (ks.map encT)))) (.list (ks.map encT)) = some (.bool (adjB PySem.W.dataLt (ks.map encT)), false) := by
  obtain ⟨ms, e⟩ := sort_encs ks
  have q := sort_iff (anti_tups ks)
  rw [e] at q
  have d1 := depth_encs ms
  have d2 := depth_encs ks
  rw [e, dEq, if_pos (by simp [okC, PyData.plain, plain_encs, PyData.depth]; omega)]
  simp only [PyData.eqv, eqv_encs]
  congr 3
  rw [Bool.eq_iff_iff, decide_eq_true_eq]
  exact q
theorem itsOf_map : ∀ ks : List (List Int), itsOf (ks.map encT) = some ks
  | [] => rfl
  | k :: ks => by
    show (intsOf (k.map PyData.int)).bind (fun k => (itsOf (ks.map encT)).map (k :: ·)) = _
    rw [intsOf_map, itsOf_map ks]; rfl
end Ow

namespace Ow
open PySem PyProof.Rows PySem.Spec L2
theorem small24 {n : List D} (hn : n.length < 64) : (n.length : Int) < 2 ^ 24 := by omega
theorem nat_len {n : List D} : ((n.length : Int)).toNat = n.length := by simp
theorem rng_len {ρ : AE} {f : EvO} {n : List D} (h : f ρ = .ok (.int n.length, none) ρ) (hn : n.length < 64) : iRange1 f ρ = .ok (rangeD 0 n.length, []) ρ := by
  have a1 := small24 hn
  have a2 : -(2 ^ 62) ≤ (n.length : Int) := by omega
  unfold iRange1
  rw [h]
  have e : ∀ j : Int, j < 2 ^ 24 → -(2 ^ 62) ≤ j → (Res.ok (PyData.int j, (none : Option Nat)) ρ).bind (fun p ρ' => match p.1 with | .int j => (if j < 2 ^ 24 ∧ -(2 ^ 62) ≤ j then .ok (rangeD 0 j.toNat, ([] : Src)) ρ' else .stuck) | _ => .stuck) = .ok (rangeD 0 j.toNat, []) ρ := fun j h1 h2 => by
    simp only [bind_ok]
    rw [if_pos ⟨h1, h2⟩]
  have := e _ a1 a2
  rw [nat_len] at this
  exact this
theorem len_filter {l : List D} {p : D → Bool} : decide ((0 : Int) < ((l.filter p).length : Int)) = !(l.all fun d => !p d) := by
  induction l with
  | nil => rfl
  | cons a l ih =>
    cases h : p a with
    | true => simp [h]
    | false => simpa [h] using ih
theorem isi_tup1 {d : D} (h : G1 d) (hd : ¬ ∃ ds, d = .tuple ds) : dIsi "tuple" d = some (.bool false, false) := by
  cases d <;> first | rfl | exact absurd ⟨_, rfl⟩ hd | exact h.elim
/-- the parts of a list that aren't so, counted -/
theorem bad_ok {ρ : AE} {i j : Nat} {ds : List D} {tt : EvT} {p : D → Bool} (hj : oVar j ρ = .ok (.tuple ds, none) ρ) (h : quiet ρ[i]?) (ht : ∀ d ∈ ds, tt (ρ.set i (.val d)) = .ok (!p d) (ρ.set i (.val d))) :
    tVal (eBin dGt (oOf (eOps dLen [(oOf (eComp [i] (iSeq (oVar j)) (.name i) tt (eVar i)))])) (oOf (eCon (.int 0)))) ρ = .ok (!ds.all p) ρ := by
  have hl : i < ρ.length := by
    cases e : ρ[i]? with
    | none => rw [e] at h; exact h.elim
    | some s => exact (List.getElem?_eq_some_iff.mp e).1
  have e := eComp_pure (i := i) (it := iSeq (oVar j)) (tt := tt) (el := eVar i) (ρ := ρ) (fun d => !p d) (fun d => (d, false)) (ds := ds) (bs := [(.tuple ds, none)]) (by simp [iSeq, hj, itemsD]) h rfl ht (fun d _ _ => by simp [eVar, hl])
  simp only [tVal, eBin, eOps, oList, oOf, e, bind_ok, stills, still, Bool.and_self, if_true, List.map, dLen, eCon, dGt_ii]
  congr 1
  rw [List.length_map, len_filter]
  congr 2
  funext d
  exact Bool.not_not _
def loneB (es : List D) (c : Nat) : Bool := !es.any (hasC c)
theorem lone_len {l : List D} {c : Nat} {g : D → D × Bool} : decide ((((l.filter (hasC c)).map fun d => (g d).1).length : Int) = 0) = loneB l c := by
  rw [List.length_map, loneB]
  induction l with
  | nil => rfl
  | cons a l ih =>
    cases h : hasC c a with
    | true =>
      simp only [List.filter_cons, h, if_true, List.length_cons, List.any_cons, Bool.true_or, Bool.not_true, decide_eq_false_iff_not]
      omega
    | false => simpa [h] using ih
def loneD (l : List D) : D → Bool
  | .int c => loneB l c.toNat
  | _ => false
theorem lone_list {l : List D} {n : Nat} : ((rangeD 0 n).filter (loneD l)).map (fun d => ((d, false) : D × Bool).1) = ((List.range n).filter (loneB l)).map fun (c : Nat) => PyData.int (c : Int) := by
  unfold rangeD
  rw [List.filter_map, List.map_map]
  simp [Function.comp_def, loneD]
theorem lone_in {s s3 s4 s5 s7 : Slot} {n : List D} {ks : List (List Int)} (h5 : quiet (some s5)) (c : Nat) : tVal (eBin dEq (oOf (eOps dLen [(oOf (eComp [5] (iSeq (oVar 2)) (.name 5) (tVal (eBin dIn (oVar 6) (oVar 5))) (eCon (.int 1))))])) (oOf (eCon (.int 0)))) [s, .val (.tuple n), .val (.tuple (ks.map encT)), s3, s4, s5, .val (.int c), s7] = .ok (loneB (ks.map encT) c) [s, .val (.tuple n), .val (.tuple (ks.map encT)), s3, s4, s5, .val (.int c), s7] := by
    have q := eComp_pure (i := 5) (it := iSeq (oVar 2)) (tt := tVal (eBin dIn (oVar 6) (oVar 5))) (el := eCon (.int 1)) (ρ := [s, .val (.tuple n), .val (.tuple (ks.map encT)), s3, s4, s5, .val (.int c), s7]) (hasC c) (fun _ => (.int 1, false)) (ds := ks.map encT) (bs := [(.tuple (ks.map encT), none)])
      (by simp [iSeq, oVar, itemsD]) h5 rfl (fun d hd => by
        obtain ⟨k, _, rfl⟩ := List.mem_map.mp hd
        simp [tVal, eBin, oVar, encT, dIn, okI_int (plain_ints k), hasC]) (fun d hd _ => by simp [eCon])
    simp only [tVal, eBin, eOps, oList, oOf, q, bind_ok, stills, still, Bool.and_self, if_true, List.map, dLen, eCon, dEq_ii]
    exact congrArg (fun b => Res.ok b _) (lone_len (g := fun _ => (.int 1, false)))
theorem lone_ok {m : Int} {s x1 s3 s4 s5 s6 s7 : Slot} {n : List D} {ks : List (List Int)} (h5 : quiet (some s5)) (h6 : quiet (some s6)) (hn : n.length < 64) :
    eComp [6] (iRange1 (oOf (eOps dLen [(oVar 1)]))) (.name 6) (tVal (eBin dEq (oOf (eOps dLen [(oOf (eComp [5] (iSeq (oVar 2)) (.name 5) (tVal (eBin dIn (oVar 6) (oVar 5))) (eCon (.int 1))))])) (oOf (eCon (.int 0))))) (eVar 6) [s, .val (.tuple n), .val (.tuple (ks.map encT)), s3, s4, s5, s6, s7] =
      .ok (.list (((List.range n.length).filter (loneB (ks.map encT))).map fun (c : Nat) => PyData.int (c : Int)), true) [s, .val (.tuple n), .val (.tuple (ks.map encT)), s3, s4, s5, s6, s7] := by
  have hr : iRange1 (oOf (eOps dLen [(oVar 1)])) [s, .val (.tuple n), .val (.tuple (ks.map encT)), s3, s4, s5, s6, s7] = .ok (rangeD 0 n.length, []) [s, .val (.tuple n), .val (.tuple (ks.map encT)), s3, s4, s5, s6, s7] := by
    exact rng_len (by simp [oOf, eOps, oList, oVar, stills, still, dLen]) hn
  have inner := fun c : Nat => lone_in (s := s) (s3 := s3) (s4 := s4) (s7 := s7) (n := n) (ks := ks) h5 c
  have q := eComp_pure (i := 6) (it := iRange1 (oOf (eOps dLen [(oVar 1)]))) (tt := tVal (eBin dEq (oOf (eOps dLen [(oOf (eComp [5] (iSeq (oVar 2)) (.name 5) (tVal (eBin dIn (oVar 6) (oVar 5))) (eCon (.int 1))))])) (oOf (eCon (.int 0))))) (el := eVar 6) (ρ := [s, .val (.tuple n), .val (.tuple (ks.map encT)), s3, s4, s5, s6, s7]) (loneD (ks.map encT)) (fun d => (d, false)) hr h6 rfl (fun d hd => by
      obtain ⟨c, _, rfl⟩ := List.mem_map.mp hd
      have := inner c
      simp only [Int.zero_add]
      exact this) (fun d hd _ => by simp [eVar])
  rw [q]
  exact congrArg (fun l => Res.ok (PyData.list l, true) _) lone_list
end Ow

namespace Ow
open PySem PyProof.Rows PySem.Spec L2
/-- the product of all -/
theorem size_for {w : Wp} {s0 s1 s2 s3 s5 s6 s7 : Slot} {ns : List Int} (h : ∀ n ∈ ns, 1 ≤ n ∧ n ≤ 4) (h3 : quiet (some s3))
    (q : ∀ s3', quiet (some s3') → w.nx [s0, s1, s2, s3', .val (.int (prod ns)), s5, s6, s7]) :
    SSat (forGo [(.tuple (ns.map PyData.int), none)] (.name 3) (sAsg 4 (eBin dMul (oVar 4) (oVar 3))) (ns.map PyData.int) [s0, s1, s2, s3, .val (.int 1), s5, s6, s7]) w := by
  refine ssat_for (fun ds ρ => ∃ (l : List Int) (acc : Int) (s : Slot), ds = l.map PyData.int ∧ quiet (some s) ∧ ρ = [s0, s1, s2, s, .val (.int acc), s5, s6, s7] ∧ (∀ n ∈ l, 1 ≤ n ∧ n ≤ 4) ∧ l.foldl (· * ·) acc = prod ns) ?_ ?_ _ _ ⟨ns, 1, s3, rfl, h3, rfl, h, rfl⟩
  · rintro d ds ρ ⟨l, acc, s, e, hs, rfl, hl, hp⟩
    cases l with
    | nil => cases e
    | cons n l =>
      simp only [List.map_cons, List.cons.injEq] at e
      obtain ⟨rfl, rfl⟩ := e
      have hn := hl n (by simp)
      have hb : bindT (.name 3) (.int n) [s0, s1, s2, s, .val (.int acc), s5, s6, s7] = some [s0, s1, s2, .val (.int n), .val (.int acc), s5, s6, s7] := by
        cases s <;> first | rfl | exact hs.elim
      refine ⟨rfl, _, hb, ssat_asg ?_⟩
      simp [eBin, oVar, dMul, mulOk, show -(18446744073709551616) < n by omega, show n < 18446744073709551616 by omega, isNoIno, slotOf]
      exact ⟨l, rfl, _, .val (.int n), trivial, ⟨rfl, rfl⟩, fun n hn => hl n (List.mem_cons_of_mem _ hn), hp⟩
  · rintro ρ ⟨l, acc, s, e, hs, rfl, hl, hp⟩
    cases l with
    | cons n l => cases e
    | nil =>
      simp at hp
      subst hp
      exact ⟨rfl, q s hs⟩
theorem notVal {ρ : AE} {d : D} (e : oVar 3 ρ = .ok (d, none) ρ) (h : G1 d) : tOr2 (tNot1 (tVal (eUn (dIsi "int") (oVar 3)))) (tNot1 (tVal (eChain dLe dLe (oOf (eCon (.int 1))) (oVar 3) (oOf (eCon (.int 4)))))) ρ = .ok (!valB d) ρ := by
  simp [tOr2, tNot1, tVal, eUn, e, isi_G1 h]
  cases d <;> simp [isI, valB]
  rename_i n
  by_cases hn : 1 ≤ n <;> simp [eChain, oOf, eCon, e, hn]
theorem notIn {ρ : AE} {d : D} {m : Nat} {vs : List D} (e : oVar 6 ρ = .ok (d, none) ρ) (e1 : oVar 1 ρ = .ok (.tuple vs, none) ρ) (hm : vs.length = m) (h : Leaf d) : tOr2 (tNot1 (tVal (eUn (dIsi "int") (oVar 6)))) (tNot1 (tVal (eChain dLe dLt (oOf (eCon (.int 0))) (oVar 6) (oOf (eOps dLen [(oVar 1)]))))) ρ = .ok (!inB m d) ρ := by
  subst hm
  simp [tOr2, tNot1, tVal, eUn, e, isi_leaf h]
  cases d <;> simp [isI, inB]
  rename_i n
  by_cases hn : 0 ≤ n <;> simp [eChain, oOf, eCon, e, e1, hn, eOps, oList, stills, dLen]
theorem inB_ints {m : Int} : ∀ {ds : List D}, ds.all (inB m) = true → ∃ ns : List Int, ds = ns.map PyData.int ∧ ∀ c ∈ ns, 0 ≤ c ∧ c < m
  | [], _ => ⟨[], rfl, by simp⟩
  | d :: ds, h => by
    simp only [List.all_cons, Bool.and_eq_true] at h
    obtain ⟨ns, rfl, hn⟩ := inB_ints h.2
    cases d with
    | int v =>
      have := h.1
      simp only [inB, Bool.and_eq_true, decide_eq_true_eq] at this
      refine ⟨v :: ns, rfl, fun n hm => ?_⟩
      rcases List.mem_cons.mp hm with rfl | hm
      · exact this
      · exact hn n hm
    | _ => simp [inB] at h
theorem colsB_ints {m : Int} {ns : List Int} (h : ∀ c ∈ ns, 0 ≤ c ∧ c < m) : colsB m (.tuple (ns.map PyData.int)) = adjB PySem.W.dataLt (ns.map PyData.int) := by
  show (match intsOf (ns.map PyData.int) with | some ns => adjB ltI ns && ns.all fun c => decide (0 ≤ c) && decide (c < m) | none => false) = _
  rw [intsOf_map, adj_int]
  have : (ns.all fun c => decide (0 ≤ c) && decide (c < m)) = true := by
    rw [List.all_eq_true]
    intro c hc
    simp [h c hc]
  simp [this]
theorem colsB_not {m : Int} {ds : List D} (h : ds.all (inB m) = false) : colsB m (.tuple ds) = false := by
  cases hc : colsB m (.tuple ds) with
  | false => rfl
  | true =>
    obtain ⟨k, e, h1, h2⟩ := colsB_enc hc
    have e : ds = k.map PyData.int := PyData.tuple.inj e
    rw [e] at h
    have : (k.map PyData.int).all (inB m) = true := by
      rw [List.all_map, List.all_eq_true]
      intro c hc
      simp [inB, h2 c hc]
    rw [h] at this; cases this
/-- each edge -/
theorem edge_for {w : Wp} {s0 s3 s4 s5 s6 s7 : Slot} {vs es : List D} (hes : ∀ d ∈ es, G1 d) (h5 : quiet (some s5)) (h6 : quiet (some s6))
    (bad : ∀ s5', es.all (edgeB vs.length) = false → w.rt (.bool false) false [s0, .val (.tuple vs), .val (.tuple es), s3, s4, s5', s6, s7])
    (q : ∀ s5', es.all (edgeB vs.length) = true → quiet (some s5') → w.nx [s0, .val (.tuple vs), .val (.tuple es), s3, s4, s5', s6, s7]) :
    SSat (forGo [(.tuple es, none)] (.name 5) (sSeq (sIf (tOr2 (tNot1 (tVal (eUn (dIsi "tuple") (oVar 5)))) (tOr2 (tVal (eBin dEq (oOf (eOps dLen [(oVar 5)])) (oOf (eCon (.int 0))))) (tVal (eBin dGt (oOf (eOps dLen [(oOf (eComp [6] (iSeq (oVar 5)) (.name 6) (tOr2 (tNot1 (tVal (eUn (dIsi "int") (oVar 6)))) (tNot1 (tVal (eChain dLe dLt (oOf (eCon (.int 0))) (oVar 6) (oOf (eOps dLen [(oVar 1)])))))) (eVar 6)))])) (oOf (eCon (.int 0))))))) (sRet (eCon (.bool false))) sNx) (sIf (tVal (eBin dNe (oOf (eUn dSortSet (oVar 5))) (oOf (eOps dList [(oVar 5)])))) (sRet (eCon (.bool false))) sNx)) es [s0, .val (.tuple vs), .val (.tuple es), s3, s4, s5, s6, s7]) w := by
  refine ssat_for (fun ds ρ => ∃ s, quiet (some s) ∧ ρ = [s0, .val (.tuple vs), .val (.tuple es), s3, s4, s, s6, s7] ∧ (∀ d ∈ ds, G1 d) ∧ es.all (edgeB vs.length) = ds.all (edgeB vs.length)) ?_ ?_ _ _ ⟨s5, h5, rfl, hes, rfl⟩
  · rintro d ds ρ ⟨s, hs, rfl, hd, he⟩
    have hb : bindT (.name 5) d [s0, .val (.tuple vs), .val (.tuple es), s3, s4, s, s6, s7] = some [s0, .val (.tuple vs), .val (.tuple es), s3, s4, .val d, s6, s7] := by
      cases s <;> first | rfl | exact hs.elim
    refine ⟨rfl, _, hb, ssat_seq (ssat_if ?_)⟩
    have hg := hd d (by simp)
    have no : edgeB vs.length d = false → es.all (edgeB vs.length) = false := fun h => by rw [he]; simp [h]
    by_cases ht : ∃ xs, d = .tuple xs
    · obtain ⟨xs, rfl⟩ := ht
      have hi : dIsi "tuple" (.tuple xs) = some (.bool true, false) := rfl
      have b := bad_ok (ρ := [s0, .val (.tuple vs), .val (.tuple es), s3, s4, .val (.tuple xs), s6, s7]) (i := 6) (j := 5) (ds := xs) (tt := tOr2 (tNot1 (tVal (eUn (dIsi "int") (oVar 6)))) (tNot1 (tVal (eChain dLe dLt (oOf (eCon (.int 0))) (oVar 6) (oOf (eOps dLen [(oVar 1)])))))) (p := inB vs.length) (by simp [oVar]) h6
        (fun c hc => notIn (m := vs.length) (vs := vs) (by simp [oVar]) (by simp [oVar]) rfl (hg.2 c hc))
      have n1 : tVal (eUn (dIsi "tuple") (oVar 5)) [s0, .val (.tuple vs), .val (.tuple es), s3, s4, .val (.tuple xs), s6, s7] = .ok true [s0, .val (.tuple vs), .val (.tuple es), s3, s4, .val (.tuple xs), s6, s7] := by simp [tVal, eUn, oVar, hi]
      have n2 : tVal (eBin dEq (oOf (eOps dLen [(oVar 5)])) (oOf (eCon (.int 0)))) [s0, .val (.tuple vs), .val (.tuple es), s3, s4, .val (.tuple xs), s6, s7] = .ok (decide ((xs.length : Int) = 0)) [s0, .val (.tuple vs), .val (.tuple es), s3, s4, .val (.tuple xs), s6, s7] := by
        simp [tVal, eBin, oOf, eOps, oList, oVar, stills, dLen, eCon]
      simp only [tOr2, tNot1, n1, n2, b, bind_ok, Bool.not_true, Bool.false_eq_true, if_false]
      have nE : nonE (.tuple xs) = !decide ((xs.length : Int) = 0) := by
        cases xs with
        | nil => rfl
        | cons a l => simp [nonE]; omega
      have eB : edgeB vs.length (.tuple xs) = (colsB vs.length (.tuple xs) && !decide ((xs.length : Int) = 0)) := by rw [edgeB, nE]
      cases hz : decide ((xs.length : Int) = 0) with
      | true =>
        simp only [if_true, sat_ok]
        refine ssat_ret ?_
        exact bad _ (no (by rw [eB, hz, Bool.not_true, Bool.and_false]))
      | false =>
        simp only [Bool.false_eq_true, if_false, sat_ok]
        cases ha : xs.all (inB vs.length) with
        | false =>
          refine ssat_ret ?_
          exact bad _ (no (by rw [eB, colsB_not ha, Bool.false_and]))
        | true =>
          obtain ⟨ns, rfl, hn⟩ := inB_ints ha
          simp only [Bool.not_true, Bool.false_eq_true, if_false, sNx, ssat_nx, next_nx]
          refine ssat_if ?_
          have e1 : dSortSet (.tuple (ns.map PyData.int)) = some (.list (sortD (dedupe (ns.map PyData.int))), true) := by
            show (match intsOf (ns.map PyData.int) with | some ns' => _ | none => _) = _
            rw [intsOf_map]
            exact if_pos hg.1
          have e2 : tVal (eBin dNe (oOf (eUn dSortSet (oVar 5))) (oOf (eOps dList [(oVar 5)]))) [s0, .val (.tuple vs), .val (.tuple es), s3, s4, .val (.tuple (ns.map PyData.int)), s6, s7] = .ok (!adjB PySem.W.dataLt (ns.map PyData.int)) [s0, .val (.tuple vs), .val (.tuple es), s3, s4, .val (.tuple (ns.map PyData.int)), s6, s7] := by
            have e3 := ne_sort_ints ns
            simp only [tVal, eBin, oOf, eUn, oVar, List.getElem?_cons_succ, List.getElem?_cons_zero, bind_ok, e1, eOps, oList, stills, still, dList, Bool.and_self, if_true, List.map, e3]
          rw [e2]
          simp only [sat_ok]
          have ec := colsB_ints hn
          cases had : adjB PySem.W.dataLt (ns.map PyData.int) with
          | false =>
            refine ssat_ret ?_
            exact bad _ (no (by rw [eB, ec, had, Bool.false_and]))
          | true =>
            refine ⟨.val (.tuple (ns.map PyData.int)), trivial, rfl, fun d hd' => hd d (List.mem_cons_of_mem _ hd'), ?_⟩
            rw [he, List.all_cons, eB, ec, had, hz]
            rfl
    · have hr : edgeB vs.length d = false := by cases d <;> first | rfl | exact absurd ⟨_, rfl⟩ ht
      simp [tOr2, tNot1, tVal, eUn, oVar, isi_tup1 hg ht]
      refine ssat_ret ?_
      simp [eCon]
      exact bad _ (no hr)
  · rintro ρ ⟨s, hs, rfl, hd, he⟩
    exact ⟨rfl, q s (by rw [he]; rfl) hs⟩
end Ow

namespace Ow
open PySem PyProof.Rows PySem.Spec L2
theorem ssat_sFor {as : List Nat} {it : EvI} {tg : Tg} {f : StF} {ds : List D} {bs : Src} {ρ ρ0 : AE} {w : Wp} (h : it ρ = .ok (ds, bs) ρ0) (hf : freeOf as bs = true) (q : SSat (forGo bs tg f ds ρ0) w) : SSat (sFor as it tg f ρ) w := by
  unfold sFor
  rw [h]
  simp only [sb_ok]
  rw [if_pos hf]
  exact q
theorem lone_zero {l : List D} {n : Nat} {m : List D} (e : m.length = ((List.range n).filter (loneB l)).length) : decide ((m.length : Int) = 0) = (List.range n).all fun c => l.any (hasC c) := by
  rw [e, Bool.eq_iff_iff, decide_eq_true_eq, List.all_eq_true]
  constructor
  · intro h c hc
    have h : ((List.range n).filter (loneB l)).length = 0 := by omega
    have h := List.length_eq_zero_iff.mp h
    rw [List.filter_eq_nil_iff] at h
    have := h c hc
    simpa [loneB] using this
  · intro h
    have : (List.range n).filter (loneB l) = [] := List.filter_eq_nil_iff.mpr fun c hc => by simp [loneB]; simpa using h c hc
    rw [this]; rfl
theorem ex_use {α : Type} {p : α → Prop} {G : Prop} (h : ∃ a, p a) (f : ∀ a, p a → G) : G := h.elim f
theorem law_tail {w : Wp} {d : D} {m P : Int} {vs es : List D} {s3 s5 : Slot} (hv : vs.length < 64) (h1 : 1 ≤ es.length) (h2 : es.length ≤ 10) (hf : es.all (edgeB m) = true) (h5 : quiet (some s5))
    (q : ∀ ρ, w.rt (.bool (decide (P ≤ 512) && (adjB PySem.W.dataLt es && (List.range vs.length).all fun c => es.any (hasC c)))) false ρ) :
    SSat ((sSeq (sAsg 7 (eComp [6] (iRange1 (oOf (eOps dLen [(oVar 1)]))) (.name 6) (tVal (eBin dEq (oOf (eOps dLen [(oOf (eComp [5] (iSeq (oVar 2)) (.name 5) (tVal (eBin dIn (oVar 6) (oVar 5))) (eCon (.int 1))))])) (oOf (eCon (.int 0))))) (eVar 6))) (sRet (eAnd2 (eBin dLe (oVar 4) (oOf (eCon (.int 512)))) (eAnd2 (eBin dEq (oOf (eUn dSortSet (oVar 2))) (oOf (eOps dList [(oVar 2)]))) (eBin dEq (oOf (eOps dLen [(oVar 7)])) (oOf (eCon (.int 0))))))))
      [.val d, .val (.tuple vs), .val (.tuple es), s3, .val (.int P), s5, .non, .non]) w := by
  apply ex_use (edges_enc hf)
  intro ks hk0
  have ek := hk0.1
  have hk := hk0.2
  clear hf hk0
  subst ek
  refine ssat_seq (ssat_asg ?_)
  rw [lone_ok (m := m) (x1 := .non) (s6 := .non) h5 trivial hv]
  refine ⟨rfl, ?_⟩
  simp only [slotOf, isMut, Bool.and_self, if_true, List.set_cons_succ, List.set_cons_zero, next_nx]
  refine ssat_ret ?_
  have kn : ks ≠ [] := by
    intro h; subst h; simp at h1
  have e1 : dSortSet (.tuple (ks.map encT)) = some (.list (sortD (dedupe (ks.map encT))), true) := by
    cases ks with
    | nil => exact absurd rfl kn
    | cons k ks' =>
      have i0 : intsOf ((k :: ks').map encT) = none := rfl
      simp only [dSortSet, i0, itsOf_map]
      refine if_pos ⟨by simp at h2 ⊢; omega, ?_⟩
      rw [List.all_eq_true]
      intro x hx
      have := (hk x hx).1
      cases x with
      | nil => exact absurd rfl this
      | cons a b => rfl
  have e2 := eq_sort_encs ks
  have e3 := lone_zero (l := ks.map encT) (n := vs.length) (m := ((List.range vs.length).filter (loneB (ks.map encT))).map fun (c : Nat) => PyData.int (c : Int)) (by rw [List.length_map])
  generalize hL : ((List.range vs.length).filter (loneB (ks.map encT))).map (fun (c : Nat) => PyData.int (c : Int)) = L at e3
  have x1 : eBin dLe (oVar 4) (oOf (eCon (.int 512))) [.val d, .val (.tuple vs), .val (.tuple (ks.map encT)), s3, .val (.int P), s5, .non, .own (.list L)] = .ok (.bool (decide (P ≤ 512)), false) [.val d, .val (.tuple vs), .val (.tuple (ks.map encT)), s3, .val (.int P), s5, .non, .own (.list L)] := by
    simp only [eBin, oOf, oVar, List.getElem?_cons_succ, List.getElem?_cons_zero, bind_ok, eCon, still_none, if_true, dLe_ii]
  have x2 : eBin dEq (oOf (eUn dSortSet (oVar 2))) (oOf (eOps dList [(oVar 2)])) [.val d, .val (.tuple vs), .val (.tuple (ks.map encT)), s3, .val (.int P), s5, .non, .own (.list L)] = .ok (.bool (adjB PySem.W.dataLt (ks.map encT)), false) [.val d, .val (.tuple vs), .val (.tuple (ks.map encT)), s3, .val (.int P), s5, .non, .own (.list L)] := by
    simp only [eBin, oOf, eUn, oVar, List.getElem?_cons_succ, List.getElem?_cons_zero, bind_ok, e1, eOps, oList, stills, still, dList, Bool.and_self, if_true, List.map_cons, List.map_nil, e2]
  have x3 : eBin dEq (oOf (eOps dLen [(oVar 7)])) (oOf (eCon (.int 0))) [.val d, .val (.tuple vs), .val (.tuple (ks.map encT)), s3, .val (.int P), s5, .non, .own (.list L)] = .ok (.bool (decide ((L.length : Int) = 0)), false) [.val d, .val (.tuple vs), .val (.tuple (ks.map encT)), s3, .val (.int P), s5, .non, .own (.list L)] := by
    simp only [eBin, oOf, eOps, oList, oVar, List.getElem?_cons_succ, List.getElem?_cons_zero, bind_ok, stills, still, decide_true, Bool.and_self, if_true, List.map_cons, List.map_nil, dLen, eCon, dEq_ii]
  simp only [eAnd2, x1, bind_ok]
  cases a1 : decide (P ≤ 512) with
  | false =>
    simp only [Bool.false_eq_true, if_false, sat_ok]
    have := q [.val d, .val (.tuple vs), .val (.tuple (ks.map encT)), s3, .val (.int P), s5, .non, .own (.list L)]
    rw [a1, Bool.false_and] at this
    exact this
  | true =>
    simp only [if_true, x2, bind_ok]
    cases a2 : adjB PySem.W.dataLt (ks.map encT) with
    | false =>
      simp only [Bool.false_eq_true, if_false, sat_ok]
      have := q [.val d, .val (.tuple vs), .val (.tuple (ks.map encT)), s3, .val (.int P), s5, .non, .own (.list L)]
      rw [a1, a2, Bool.false_and, Bool.and_false] at this
      exact this
    | true =>
      simp only [if_true, x3, sat_ok]
      have := q [.val d, .val (.tuple vs), .val (.tuple (ks.map encT)), s3, .val (.int P), s5, .non, .own (.list L)]
      rw [a1, a2, ← e3, Bool.true_and, Bool.true_and] at this
      exact this
theorem lawschema_ok {d : D} (h : G3 d) : FSat (_law_is_schema_S [d]) (fun r fl outs => r = .bool (schB d) ∧ fl = false) (fun _ => False) := by
  refine fsat_run rfl ?_
  show SSat (_law_is_schema_F [.val d, .non, .non, .non, .non, .non, .non, .non]) _
  unfold _law_is_schema_F
  refine ssat_seq (ssat_if ?_)
  by_cases hd : ∃ ds, d = .tuple ds
  · obtain ⟨ds, rfl⟩ := hd
    have hi : ∀ ds, dIsi "tuple" (.tuple ds) = some (.bool true, false) := fun _ => rfl
    by_cases hl : ∃ v e, ds = [v, e]
    · obtain ⟨v, e, rfl⟩ := hl
      have hv : G2 v := h.2 v (by simp)
      have he : G2 e := h.2 e (by simp)
      by_cases hvt : ∃ vs, v = .tuple vs
      · obtain ⟨vs, rfl⟩ := hvt
        by_cases het : ∃ es, e = .tuple es
        · obtain ⟨es, rfl⟩ := het
          simp [tOr2, tNot1, tVal, eUn, oVar, hi, eBin, eOps, oList, oOf, stills, still, dLen, eCon, dIx, atI_0, atI_1, sNx]
          refine ssat_seq ?_
          simp only [sAsgT, eVar, List.getElem?_cons_zero, sb_ok]
          have hb : bindT (.tup [.name 1, .name 2]) (.tuple [.tuple vs, .tuple es]) [.val (.tuple [.tuple vs, .tuple es]), .non, .non, .non, .non, .non, .non, .non] = some [.val (.tuple [.tuple vs, .tuple es]), .val (.tuple vs), .val (.tuple es), .non, .non, .non, .non, .non] := rfl
          rw [hb]
          simp only [ssat_nx, next_nx]
          refine ssat_seq (ssat_if ?_)
          have b := bad_ok (ρ := [.val (.tuple [.tuple vs, .tuple es]), .val (.tuple vs), .val (.tuple es), .non, .non, .non, .non, .non]) (i := 3) (j := 1) (ds := vs) (tt := tOr2 (tNot1 (tVal (eUn (dIsi "int") (oVar 3)))) (tNot1 (tVal (eChain dLe dLe (oOf (eCon (.int 1))) (oVar 3) (oOf (eCon (.int 4))))))) (p := valB) (by simp [oVar]) trivial
            (fun c hc => notVal (by simp [oVar]) (hv.2 c hc))
          have c1 : tVal (eChain dLe dLe (oOf (eCon (.int 1))) (oOf (eOps dLen [(oVar 1)])) (oOf (eCon (.int 9)))) [.val (.tuple [.tuple vs, .tuple es]), .val (.tuple vs), .val (.tuple es), .non, .non, .non, .non, .non] = .ok (decide ((1 : Int) ≤ vs.length) && decide ((vs.length : Int) ≤ 9)) [.val (.tuple [.tuple vs, .tuple es]), .val (.tuple vs), .val (.tuple es), .non, .non, .non, .non, .non] := by
            by_cases l : (1 : Int) ≤ vs.length <;> simp [tVal, eChain, oOf, eCon, oVar, eOps, oList, stills, dLen, l]
          have c2 : tVal (eChain dLe dLe (oOf (eCon (.int 1))) (oOf (eOps dLen [(oVar 2)])) (oOf (eCon (.int 10)))) [.val (.tuple [.tuple vs, .tuple es]), .val (.tuple vs), .val (.tuple es), .non, .non, .non, .non, .non] = .ok (decide ((1 : Int) ≤ es.length) && decide ((es.length : Int) ≤ 10)) [.val (.tuple [.tuple vs, .tuple es]), .val (.tuple vs), .val (.tuple es), .non, .non, .non, .non, .non] := by
            by_cases l : (1 : Int) ≤ es.length <;> simp [tVal, eChain, oOf, eCon, oVar, eOps, oList, stills, dLen, l]
          have sB : schB (.tuple [.tuple vs, .tuple es]) = (schV vs && edgesB vs.length (.tuple es)) := rfl
          have still0 : ∀ ρ : AE, inoStill [false] ρ = true := fun ρ => by simp [inoStill, List.range_succ]
          simp only [tOr2, tNot1, c1, c2, b, bind_ok]
          by_cases g1 : 1 ≤ vs.length ∧ vs.length ≤ 9
          · by_cases g2 : 1 ≤ es.length ∧ es.length ≤ 10
            · rw [decide_eq_true (show (1 : Int) ≤ vs.length by omega), decide_eq_true (show (vs.length : Int) ≤ 9 by omega), decide_eq_true (show (1 : Int) ≤ es.length by omega), decide_eq_true (show (es.length : Int) ≤ 10 by omega)]
              simp only [Bool.and_self, Bool.not_true, Bool.false_eq_true, if_false, bind_ok, sat_ok]
              cases hb : vs.all valB with
              | false =>
                refine ssat_ret ?_
                refine ⟨still0 _, ?_, rfl⟩
                rw [sB, schV, hb]; simp
              | true =>
                obtain ⟨ns, rfl, hn⟩ := vals_ints hb
                simp only [Bool.not_true, Bool.false_eq_true, if_false, sNx, ssat_nx, next_nx]
                refine ssat_seq (ssat_asg ?_)
                simp only [eCon, sat_ok, slotOf, Bool.false_and, Bool.false_eq_true, if_false, List.set_cons_succ, List.set_cons_zero, next_nx]
                refine ⟨rfl, ?_⟩
                refine ssat_seq ?_
                refine ssat_sFor (ds := ns.map PyData.int) (bs := [(.tuple (ns.map PyData.int), none)]) (by simp [iSeq, oVar, itemsD]; rfl) rfl ?_
                refine size_for hn trivial fun s3 h3 => ?_
                simp only [next_nx]
                refine ssat_seq ?_
                refine ssat_sFor (ds := es) (bs := [(.tuple es, none)]) (by simp [iSeq, oVar, itemsD]; rfl) rfl ?_
                have vp : schV (ns.map PyData.int) = decide (prod ns ≤ 512) := by
                  unfold schV
                  rw [hb, intsOf_map, decide_eq_true g1.1, decide_eq_true g1.2]
                  rfl
                have eb : edgesB ((ns.map PyData.int).length : Int) (.tuple es) = (es.all (edgeB ((ns.map PyData.int).length : Int)) && (adjB PySem.W.dataLt es && (List.range (ns.map PyData.int).length).all fun c => es.any (hasC c))) := by
                  show (decide (1 ≤ es.length) && (decide (es.length ≤ 10) && (es.all (edgeB _) && (adjB PySem.W.dataLt es && (List.range (((ns.map PyData.int).length : Int)).toNat).all fun c => es.any (hasC c))))) = _
                  rw [decide_eq_true g2.1, decide_eq_true g2.2, Int.toNat_natCast]
                  rfl
                refine edge_for he.2 trivial trivial (fun s5 hf => ?_) fun s5 hf h5 => ?_
                · refine ⟨still0 _, ?_, rfl⟩
                  rw [sB, eb, hf]; simp
                · simp only [next_nx]
                  refine law_tail (m := ((ns.map PyData.int).length : Int)) hv.1 (by omega) (by omega) hf h5 fun ρ => ⟨still0 ρ, ?_, rfl⟩
                  rw [sB, vp, eb, hf, Bool.true_and]
            · have hr : edgesB ((vs.length : Int)) (.tuple es) = false := by
                show (decide (1 ≤ es.length) && (decide (es.length ≤ 10) && _)) = false
                cases h1 : decide (1 ≤ es.length) with
                | false => rfl
                | true =>
                  cases h2 : decide (es.length ≤ 10) with
                  | false => rfl
                  | true => exact absurd ⟨of_decide_eq_true h1, of_decide_eq_true h2⟩ g2
              have n1 : (decide ((1 : Int) ≤ es.length) && decide ((es.length : Int) ≤ 10)) = false := by
                rw [Bool.and_eq_false_iff, decide_eq_false_iff_not, decide_eq_false_iff_not]
                omega
              rw [decide_eq_true (show (1 : Int) ≤ vs.length by omega), decide_eq_true (show (vs.length : Int) ≤ 9 by omega), n1]
              simp only [Bool.and_self, Bool.not_true, Bool.not_false, Bool.false_eq_true, if_false, if_true, bind_ok, sat_ok]
              refine ssat_ret ?_
              exact ⟨still0 _, by rw [sB, hr, Bool.and_false], rfl⟩
          · have hr : schV vs = false := by
              show (decide (1 ≤ vs.length) && (decide (vs.length ≤ 9) && _)) = false
              cases h1 : decide (1 ≤ vs.length) with
              | false => rfl
              | true =>
                cases h2 : decide (vs.length ≤ 9) with
                | false => rfl
                | true => exact absurd ⟨of_decide_eq_true h1, of_decide_eq_true h2⟩ g1
            have n1 : (decide ((1 : Int) ≤ vs.length) && decide ((vs.length : Int) ≤ 9)) = false := by
              rw [Bool.and_eq_false_iff, decide_eq_false_iff_not, decide_eq_false_iff_not]
              omega
            rw [n1]
            simp only [Bool.not_false, if_true, bind_ok, sat_ok]
            refine ssat_ret ?_
            exact ⟨still0 _, by rw [sB, hr, Bool.false_and], rfl⟩
        · have hr : schB (.tuple [.tuple vs, e]) = false := by
            show (schV vs && edgesB vs.length e) = false
            have : edgesB vs.length e = false := by cases e <;> first | rfl | exact absurd ⟨_, rfl⟩ het
            rw [this, Bool.and_false]
          simp [tOr2, tNot1, tVal, eUn, oVar, hi, eBin, eOps, oList, oOf, stills, still, dLen, eCon, dIx, atI_0, atI_1, isi_tup he het]
          refine ssat_ret ?_
          simp [eCon, inoStill, List.range_succ, hr]
      · have hr : schB (.tuple [v, e]) = false := by cases v <;> first | rfl | exact absurd ⟨_, rfl⟩ hvt
        simp [tOr2, tNot1, tVal, eUn, oVar, hi, eBin, eOps, oList, oOf, stills, still, dLen, eCon, dIx, atI_0, isi_tup hv hvt]
        refine ssat_ret ?_
        simp [eCon, inoStill, List.range_succ, hr]
    · have hr : schB (.tuple ds) = false := by
        unfold schB
        split
        · rename_i a b heq
          cases heq
          exact absurd ⟨_, _, rfl⟩ hl
        · rfl
      have hn : ¬ ((ds.length : Int) = 2) := by
        intro q
        have q : ds.length = 2 := by omega
        match ds, q with
        | [a, b], _ => exact hl ⟨a, b, rfl⟩
      simp [tOr2, tNot1, tVal, eUn, oVar, hi, eBin, eOps, oList, oOf, stills, still, dLen, eCon, hn]
      refine ssat_ret ?_
      simp [eCon, inoStill, List.range_succ, hr]
  · have hr : schB d = false := by cases d <;> first | rfl | exact absurd ⟨_, rfl⟩ hd
    simp [tOr2, tNot1, tVal, eUn, oVar, isi_tup3 h hd]
    refine ssat_ret ?_
    simp [eCon, inoStill, List.range_succ, hr]
end Ow

namespace Ow
open PySem PyProof.Rows PySem.Spec L2
/-! ### rules for what a combinator answers, one each -/
section
variable {α β : Type} {w : Wp} {ρ : AE}
theorem sat_oOf {f : EvE} {P : D × Option Nat → AE → Prop} (h : Sat (f ρ) fun p ρ' => P (p.1, none) ρ') : Sat (oOf f ρ) P := Sat.bind h
theorem sat_bin {op : D → D → Option (D × Bool)} {fa fb : EvO} {P : D × Bool → AE → Prop} (h : Sat (fa ρ) fun p ρ1 => Sat (fb ρ1) fun q ρ2 => still p.2 p.1 ρ2 = true ∧ ∃ r, op p.1 q.1 = some r ∧ P r ρ2) : Sat (eBin op fa fb ρ) P :=
  Sat.bind (h.imp fun p ρ1 h1 => Sat.bind (h1.imp fun q ρ2 ⟨h2, r, e, h3⟩ => by rw [if_pos h2, e]; exact h3))
theorem sat_un {op : D → Option (D × Bool)} {fa : EvO} {P : D × Bool → AE → Prop} (h : Sat (fa ρ) fun p ρ1 => ∃ r, op p.1 = some r ∧ P r ρ1) : Sat (eUn op fa ρ) P :=
  Sat.bind (h.imp fun p ρ1 ⟨r, e, h3⟩ => by rw [e]; exact h3)
theorem sat_tval {f : EvE} {P : Bool → AE → Prop} (h : Sat (f ρ) fun p ρ' => ∃ b, p.1 = .bool b ∧ P b ρ') : Sat (tVal f ρ) P :=
  Sat.bind (h.imp fun p ρ1 ⟨b, e, h3⟩ => by rw [e]; exact h3)
theorem sat_and {f g : EvT} {P : Bool → AE → Prop} (h : Sat (f ρ) fun b ρ' => if b then Sat (g ρ') P else P false ρ') : Sat (tAnd2 f g ρ) P :=
  Sat.bind (h.imp fun b ρ1 h3 => by cases b <;> exact h3)
theorem sat_or {f g : EvT} {P : Bool → AE → Prop} (h : Sat (f ρ) fun b ρ' => if b then P true ρ' else Sat (g ρ') P) : Sat (tOr2 f g ρ) P :=
  Sat.bind (h.imp fun b ρ1 h3 => by cases b <;> exact h3)
theorem sat_not {f : EvT} {P : Bool → AE → Prop} (h : Sat (f ρ) fun b ρ' => P (!b) ρ') : Sat (tNot1 f ρ) P := Sat.bind h
theorem sat_ite {t : EvT} {f g : EvE} {P : D × Bool → AE → Prop} (h : Sat (t ρ) fun b ρ' => if b then Sat (f ρ') P else Sat (g ρ') P) : Sat (eIte t f g ρ) P :=
  Sat.bind (h.imp fun b ρ1 h3 => by cases b <;> exact h3)
theorem sat_ol_nil {P : List (D × Option Nat) → AE → Prop} (h : P [] ρ) : Sat (oList [] ρ) P := h
theorem sat_ol {f : EvO} {fs : List EvO} {P : List (D × Option Nat) → AE → Prop} (h : Sat (f ρ) fun p ρ1 => Sat (oList fs ρ1) fun ps ρ2 => P (p :: ps) ρ2) : Sat (oList (f :: fs) ρ) P :=
  Sat.bind (h.imp fun p ρ1 h1 => Sat.bind h1)
theorem sat_ops {op : List D → Option (D × Bool)} {fs : List EvO} {P : D × Bool → AE → Prop} (h : Sat (oList fs ρ) fun ps ρ' => stills ps ρ' = true ∧ ∃ r, op (ps.map (·.1)) = some r ∧ P r ρ') : Sat (eOps op fs ρ) P :=
  Sat.bind (h.imp fun ps ρ1 ⟨h2, r, e, h3⟩ => by rw [if_pos h2, e]; exact h3)
theorem sat_op1 {op : List D → Option (D × Bool)} {f : EvO} {P : D × Bool → AE → Prop} (h : Sat (f ρ) fun p ρ' => still p.2 p.1 ρ' = true ∧ ∃ r, op [p.1] = some r ∧ P r ρ') : Sat (eOps op [f] ρ) P :=
  sat_ops (sat_ol (h.imp fun p ρ1 ⟨h2, r, e, h3⟩ => ⟨by simp [stills, h2], r, e, h3⟩))
theorem sat_el_nil {P : List D → AE → Prop} (h : P [] ρ) : Sat (eList [] ρ) P := h
theorem sat_el {f : EvE} {fs : List EvE} {P : List D → AE → Prop} (h : Sat (f ρ) fun p ρ1 => Sat (eList fs ρ1) fun ps ρ2 => P (p.1 :: ps) ρ2) : Sat (eList (f :: fs) ρ) P :=
  Sat.bind (h.imp fun p ρ1 h1 => Sat.bind h1)
theorem sat_tup {fs : List EvE} {P : D × Bool → AE → Prop} (h : Sat (eList fs ρ) fun ds ρ' => P (.tuple ds, false) ρ') : Sat (eTup fs ρ) P := Sat.bind h
theorem sat_lst {fs : List EvE} {P : D × Bool → AE → Prop} (h : Sat (eList fs ρ) fun ds ρ' => P (.list ds, true) ρ') : Sat (eLst fs ρ) P := Sat.bind h
theorem sat_rg1 {f : EvO} {P : List D × Src → AE → Prop} (h : Sat (f ρ) fun p ρ' => ∃ j : Int, p.1 = .int j ∧ 0 ≤ j ∧ j < 2 ^ 20 ∧ P (rangeD 0 j.toNat, []) ρ') : Sat (iRange1 f ρ) P := by
  unfold iRange1
  refine Sat.bind (h.imp fun p ρ1 ⟨j, e, h0, h1, h3⟩ => ?_)
  rw [e]
  show Sat (if _ then _ else _) _
  rw [if_pos ⟨by omega, by omega⟩]
  exact h3
theorem ssat_forS {as : List Nat} {it : EvI} {tg : Tg} {f : StF} (h : Sat (it ρ) fun p ρ0 => freeOf as p.2 = true ∧ SSat (forGo p.2 tg f p.1 ρ0) w) : SSat (sFor as it tg f ρ) w :=
  Sat.sb (h.imp fun p ρ0 ⟨h1, h2⟩ => by rw [if_pos h1]; exact h2)
theorem ssat_asgT {t : Tg} {f : EvE} (h : Sat (f ρ) fun p ρ' => ∃ ρ2, bindT t p.1 ρ' = some ρ2 ∧ w.nx ρ2) : SSat (sAsgT t f ρ) w :=
  Sat.sb (h.imp fun p ρ' ⟨ρ2, e, h2⟩ => by rw [e]; exact h2)
theorem ssat_app {i : Nat} {f : EvE} {ds : List D} (hi : ρ[i]? = some (.own (.list ds))) (h : Sat (f ρ) fun p ρ' => ∃ ds', ρ'[i]? = some (.own (.list ds')) ∧ ds'.length < 2 ^ 20 ∧ w.nx (ρ'.set i (.own (.list (ds' ++ [p.1]))))) : SSat (sApp i f ρ) w := by
  unfold sApp
  rw [if_pos (by simp [isOwnL, hi])]
  refine Sat.sb (h.imp fun p ρ' ⟨ds', e, hl, h2⟩ => ?_)
  have hs : ds'.length < sizeLine := Nat.lt_trans hl (by decide)
  have : putL i (appD p.1) ρ' = some (ρ'.set i (.own (.list (ds' ++ [p.1])))) := by
    simp [putL, e, appD, hs]
  rw [this]
  exact h2
theorem sat_eComp {own : List Nat} {it : EvI} {tg : Tg} {tt : EvT} {el : EvE} {P : D × Bool → AE → Prop} (h : Sat (it ρ) fun p ρ0 => Sat (compGo own tg tt el p.2 p.1 (wipeA own ρ0) []) fun acc ρ' => P (.list acc, true) (restA own ρ0 ρ')) : Sat (eComp own it tg tt el ρ) P :=
  Sat.bind (h.imp fun p ρ0 h1 => Sat.bind h1)
end
/-! ### draws -/
theorem sat_draw {i : Nat} {f : EvE} {ρ : AE} {s : Slot} {d : D} {m : Int} {fl : Bool} {P : D × Bool → AE → Prop} (hf : f ρ = .ok (.int m, fl) ρ) (hs : ρ[i]? = some s) (hd : slotD (some s) = some d) (hb : Bx d) (h0 : 0 < m) (h1 : m < 2 ^ 30)
    (h : ∀ (n : Int) (d' : D), 0 ≤ n → n < m → Bx d' → P (.int n, false) (ρ.set i (s.re d'))) : Sat (eCall _law_draw_S [.ref i, .val f] ρ) P := by
  refine sat_call2 (by rw [hs, hd]; rfl) ?_
  rw [hf]
  refine ⟨s, d, hs, hd, (draw_ok hb h0 h1).imp (fun r fl outs q => ?_) fun _ h => h⟩
  obtain ⟨n, rfl, rfl, h2, h3, d', h4, rfl⟩ := q
  exact h n d' h2 h3 h4
theorem sat_draw0 {f : EvE} {r : AE} {d : D} {m : Int} {fl : Bool} {P : D × Bool → AE → Prop} (hb : Bx d) (hf : f (.ino d :: r) = .ok (.int m, fl) (.ino d :: r)) (h0 : 0 < m) (h1 : m < 2 ^ 30)
    (h : ∀ (n : Int) (d' : D), 0 ≤ n → n < m → Bx d' → P (.int n, false) (.ino d' :: r)) : Sat (eCall _law_draw_S [.ref 0, .val f] (.ino d :: r)) P :=
  sat_draw hf rfl rfl hb h0 h1 h
/-- some of them, as it is drawn -/
theorem pick_ok {d : D} {r : AE} {i : Nat} {q : Int} {it : EvI} {ds : List D} {bs : Src} {P : D × Bool → AE → Prop} (hb : Bx d) (h0 : 0 < q) (h1 : q < 2 ^ 30) (hi : it (.ino d :: r) = .ok (ds, bs) (.ino d :: r)) (hbs : ∀ ρ, stills bs ρ = true) (hq : quiet r[i]?)
    (h : ∀ (d' : D) (l : List D), Bx d' → l.Sublist ds → P (.list l, true) (.ino d' :: r)) :
    Sat (eComp [i + 1] it (.name (i + 1)) (tVal (eBin dEq (oOf (eCall _law_draw_S [.ref 0, .val (eCon (.int q))])) (oOf (eCon (.int 0))))) (eVar (i + 1)) (.ino d :: r)) P := by
  have hl : i < r.length := by
    cases e : r[i]? with
    | none => rw [e] at hq; exact hq.elim
    | some s => exact (List.getElem?_eq_some_iff.mp e).1
  refine sat_eComp (Sat.of hi ?_)
  refine (sat_comp (P := fun acc ρ' => ∃ d', Bx d' ∧ acc.Sublist ds ∧ ρ' = .ino d' :: r.set i .non) (fun ds' ρ acc => ∃ d', Bx d' ∧ (acc ++ ds').Sublist ds ∧ ρ = .ino d' :: r.set i .non) ?_ ?_ ds _ [] ⟨d, hb, by simp, rfl⟩).imp ?_
  · rintro x ds' ρ acc ⟨d', hb', hs, rfl⟩
    refine ⟨hbs _, .ino d' :: r.set i (.val x), ?_, ?_⟩
    · simp [bindT, hl]
    · refine sat_tval (sat_bin (sat_oOf (sat_draw0 hb' rfl h0 h1 fun n d2 hn hm hb2 => ?_)))
      simp only [oOf, eCon, bind_ok, sat_ok, still_none, dEq_ii, true_and]
      refine ⟨_, rfl, _, rfl, ?_⟩
      have hw : wipeA [i + 1] (.ino d2 :: r.set i (.val x)) = .ino d2 :: r.set i .non := by simp [wipeA]
      cases decide (n = 0) with
      | true =>
        simp only [if_true]
        have : eVar (i + 1) (.ino d2 :: r.set i (.val x)) = .ok (x, false) (.ino d2 :: r.set i (.val x)) := by simp [eVar, hl]
        rw [this]
        exact ⟨d2, hb2, by simpa using hs, hw⟩
      | false =>
        simp only [Bool.false_eq_true, if_false]
        refine ⟨d2, hb2, ?_, hw⟩
        exact (List.Sublist.append (List.Sublist.refl acc) (List.sublist_cons_self x ds')).trans hs
  · rintro ρ acc ⟨d', hb', hs, rfl⟩
    exact ⟨hbs _, d', hb', by simpa using hs, rfl⟩
  · rintro acc ρ' ⟨d', hb', hs, rfl⟩
    have : restA [i + 1] (.ino d :: r) (.ino d' :: r.set i .non) = .ino d' :: r := by
      simp only [restA, List.getElem?_cons_succ]
      cases e : r[i]? with
      | none => rw [e] at hq; exact hq.elim
      | some s =>
        cases s with
        | non => simp [set_same e]
        | val x => simp [set_same e]
        | _ => rw [e] at hq; exact hq.elim
    rw [this]
    exact h d' acc hb' hs
end Ow

namespace Ow
open PySem PyProof.Rows PySem.Spec L2
def held (E : Slot) (l : List D) : Prop := E = .val (.list l) ∨ E = .own (.list l)
theorem held_var {ρ : AE} {e : Nat} {E : Slot} {l : List D} (he : ρ[e]? = some E) (h : held E l) : ∃ b, oVar e ρ = .ok (.list l, b) ρ ∧ ∀ ρ' : AE, ρ'[e]? = some E → still b (.list l) ρ' = true := by
  rcases h with rfl | rfl
  · exact ⟨none, by simp [oVar, he], fun _ _ => rfl⟩
  · exact ⟨some e, by simp [oVar, he], fun ρ' h' => by simp [still, h']⟩
theorem quiet_lt {ρ : AE} {i : Nat} (h : quiet ρ[i]?) : i < ρ.length := by
  cases e : ρ[i]? with
  | none => rw [e] at h; exact h.elim
  | some s => exact (List.getElem?_eq_some_iff.mp e).1
/-- so many edges have the column -/
theorem has_len {ρ : AE} {e c x : Nat} {E : Slot} {ks : List (List Int)} {n : Nat} (he : ρ[e]? = some E) (hE : held E (ks.map encT)) (hc : ρ[c]? = some (.val (.int n))) (hx : quiet ρ[x]?) (ne : x ≠ e) (nc : x ≠ c) :
    eOps dLen [(oOf (eComp [x] (iSeq (oVar e)) (.name x) (tVal (eBin dIn (oVar c) (oVar x))) (eCon (.int 1))))] ρ = .ok (.int ((ks.map encT).filter (hasC n)).length, false) ρ := by
  obtain ⟨b, hv, hs⟩ := held_var he hE
  have hl := quiet_lt hx
  have q := eComp_pure (i := x) (it := iSeq (oVar e)) (tt := tVal (eBin dIn (oVar c) (oVar x))) (el := eCon (.int 1)) (ρ := ρ) (hasC n) (fun _ => (.int 1, false)) (ds := ks.map encT) (bs := [(.list (ks.map encT), b)])
    (by simp [iSeq, hv, itemsD]) hx (by simp [stills, hs (ρ.set x .non) (by rw [List.getElem?_set_ne ne]; exact he)]) (fun d hd => by
      obtain ⟨k, _, rfl⟩ := List.mem_map.mp hd
      have h1 : (ρ.set x (.val (encT k)))[c]? = some (.val (.int n)) := by rw [List.getElem?_set_ne nc]; exact hc
      have h2 : (ρ.set x (.val (encT k)))[x]? = some (.val (encT k)) := by simp [hl]
      simp only [tVal, eBin, oVar, h1, h2, bind_ok, still_none, if_true]
      simp [encT, dIn, okI_int (plain_ints k), hasC]) (fun d hd _ => by simp [eCon])
  simp only [eOps, oList, oOf, q, bind_ok, stills, still, Bool.and_self, if_true, List.map, dLen, List.length_map]
theorem lone2 {ρ : AE} {E : Slot} {ks : List (List Int)} {n : Nat} (h0 : ρ[0]? = some (.val (.int n))) (he : ρ[1]? = some E) (hE : held E (ks.map encT)) (h3 : quiet ρ[3]?) (h4 : quiet ρ[4]?) (hn : n < 64) :
    eComp [3] (iRange1 (oVar 0)) (.name 3) (tVal (eBin dEq (oOf (eOps dLen [(oOf (eComp [4] (iSeq (oVar 1)) (.name 4) (tVal (eBin dIn (oVar 3) (oVar 4))) (eCon (.int 1))))])) (oOf (eCon (.int 0))))) (eVar 3) ρ =
      .ok (.list (((List.range n).filter (loneB (ks.map encT))).map fun (c : Nat) => PyData.int (c : Int)), true) ρ := by
  have hl := quiet_lt h3
  have hr : iRange1 (oVar 0) ρ = .ok (rangeD 0 n, []) ρ := by
    have a1 : (n : Int) < 2 ^ 24 := by omega
    have a2 : -(2 ^ 62) ≤ (n : Int) := by omega
    have e : ∀ j : Int, j < 2 ^ 24 → -(2 ^ 62) ≤ j → (Res.ok (PyData.int j, (none : Option Nat)) ρ).bind (fun p ρ' => match p.1 with | .int j => (if j < 2 ^ 24 ∧ -(2 ^ 62) ≤ j then .ok (rangeD 0 j.toNat, ([] : Src)) ρ' else .stuck) | _ => .stuck) = .ok (rangeD 0 j.toNat, []) ρ := fun j h1 h2 => by
      simp only [bind_ok]
      rw [if_pos ⟨h1, h2⟩]
    have := e _ a1 a2
    rw [Int.toNat_natCast] at this
    unfold iRange1
    rw [show oVar 0 ρ = .ok (.int n, none) ρ by simp [oVar, h0]]
    exact this
  have q := eComp_pure (i := 3) (it := iRange1 (oVar 0)) (tt := tVal (eBin dEq (oOf (eOps dLen [(oOf (eComp [4] (iSeq (oVar 1)) (.name 4) (tVal (eBin dIn (oVar 3) (oVar 4))) (eCon (.int 1))))])) (oOf (eCon (.int 0))))) (el := eVar 3) (ρ := ρ) (loneD (ks.map encT)) (fun d => (d, false)) hr h3 rfl (fun d hd => by
      obtain ⟨c, _, rfl⟩ := List.mem_map.mp hd
      simp only [Int.zero_add]
      have := has_len (ρ := ρ.set 3 (.val (.int c))) (e := 1) (c := 3) (x := 4) (n := c) (by rw [List.getElem?_set_ne (by decide)]; exact he) hE (by simp [hl]) (by rw [List.getElem?_set_ne (by decide)]; exact h4) (by decide) (by decide)
      simp only [tVal, eBin, oOf, this, bind_ok, still_none, eCon, dEq_ii, if_true]
      have := lone_len (l := ks.map encT) (c := c) (g := fun _ => (.int 1, false))
      rw [List.length_map] at this
      exact congrArg (fun b => Res.ok b _) this) (fun d hd _ => by simp [eVar, hl])
  rw [q]
  exact congrArg (fun l => Res.ok (PyData.list l, true) _) lone_list
theorem eqv_encT (a b : List Int) : PyData.eqv (encT a) (encT b) = decide (a = b) := by
  show PyData.eqvAll (a.map PyData.int) (b.map PyData.int) = _
  rw [eqv_ints, Bool.eq_iff_iff, decide_eq_true_eq, decide_eq_true_eq]
  exact ⟨fun h => List.map_inj_right (fun x y h => PyData.int.inj h) |>.mp h, fun h => by rw [h]⟩
theorem ne_encT (a b : List Int) : dNe (encT a) (encT b) = some (.bool (!decide (a = b)), false) := by
  rw [dNe, if_pos (by simp [okC, encT, PyData.plain, plain_ints, PyData.depth, depth_ints]), eqv_encT]
/-- edges of so many columns -/
def Ks (m : Nat) (L : Nat) (ks : List (List Int)) : Prop := ∀ k ∈ ks, k ≠ [] ∧ k.length ≤ L ∧ ∀ c ∈ k, 0 ≤ c ∧ c < (m : Int)
theorem sortset_list {ks : List (List Int)} (h : ks.length < 64) (hk : ∀ k ∈ ks, k ≠ []) : dSortSet (.list (ks.map encT)) = some (.list (sortD (dedupe (ks.map encT))), true) := by
  show (match itsOf (ks.map encT) with | some ns' => _ | none => _) = _
  rw [itsOf_map]
  exact if_pos ⟨by simpa using h, by simpa using hk⟩
theorem sortset_ints {ns : List Int} (h : ns.length < 64) : dSortSet (.tuple (ns.map PyData.int)) = some (.list (sortD (dedupe (ns.map PyData.int))), true) := by
  show (match intsOf (ns.map PyData.int) with | some ns' => _ | none => _) = _
  rw [intsOf_map]
  exact if_pos (by simpa using h)
theorem enc_inj : ∀ {a b : List Int}, encT a = encT b → a = b := fun h => List.map_inj_right (fun x y h => PyData.int.inj h) |>.mp (PyData.tuple.inj h)
/-- the edges, sorted, each once -/
theorem sorted_ks {m L : Nat} {ks : List (List Int)} (h : Ks m L ks) : ∃ ms : List (List Int), sortD (dedupe (ks.map encT)) = ms.map encT ∧ Ks m L ms ∧ ms.length ≤ ks.length ∧ ms.Nodup ∧ (ks ≠ [] → ms ≠ []) := by
  obtain ⟨ms, e⟩ := sort_encs ks
  have mem : ∀ k, k ∈ ms ↔ k ∈ ks := fun k => by
    have := sort_mem (l := ks.map encT) (d := encT k)
    rw [e] at this
    constructor
    · intro hk
      obtain ⟨k', h1, h2⟩ := List.mem_map.mp (this.mp (List.mem_map_of_mem hk))
      rw [← enc_inj h2]; exact h1
    · intro hk
      obtain ⟨k', h1, h2⟩ := List.mem_map.mp (this.mpr (List.mem_map_of_mem hk))
      rw [← enc_inj h2]; exact h1
  refine ⟨ms, e, fun k hk => h k ((mem k).mp hk), ?_, ?_, ?_⟩
  · have := sort_len (ks.map encT)
    rw [e] at this
    simpa using this
  · have n : (sortD (dedupe (ks.map encT))).Nodup := by
      unfold sortD
      exact (List.mergeSort_perm _ _).nodup_iff.mpr (dedupe_nodup _)
    rw [e] at n
    exact (List.pairwise_map.mp n).imp fun {a b} h e => h (by rw [e])
  · intro hk
    cases ks with
    | nil => exact absurd rfl hk
    | cons a l =>
      intro h0
      have := (mem a).mpr (by simp)
      rw [h0] at this; cases this
theorem sorted_ints {m : Nat} {ns : List Int} (h : ∀ c ∈ ns, 0 ≤ c ∧ c < (m : Int)) : ∃ ms : List Int, sortD (dedupe (ns.map PyData.int)) = ms.map PyData.int ∧ (∀ c ∈ ms, 0 ≤ c ∧ c < (m : Int)) ∧ ms.length ≤ ns.length ∧ (ns ≠ [] → ms ≠ []) := by
  obtain ⟨ms, e⟩ := sort_ints ns
  have mem : ∀ k, k ∈ ms ↔ k ∈ ns := fun k => by
    have := sort_mem (l := ns.map PyData.int) (d := .int k)
    rw [e] at this
    constructor
    · intro hk
      obtain ⟨k', h1, h2⟩ := List.mem_map.mp (this.mp (List.mem_map_of_mem hk))
      rw [← PyData.int.inj h2]; exact h1
    · intro hk
      obtain ⟨k', h1, h2⟩ := List.mem_map.mp (this.mpr (List.mem_map_of_mem hk))
      rw [← PyData.int.inj h2]; exact h1
  refine ⟨ms, e, fun k hk => h k ((mem k).mp hk), ?_, ?_⟩
  · have := sort_len (ns.map PyData.int)
    rw [e] at this
    simpa using this
  · intro hk
    cases ns with
    | nil => exact absurd rfl hk
    | cons a l =>
      intro h0
      have := (mem a).mpr (by simp)
      rw [h0] at this; cases this
/-- the columns that no edge has -/
def loneI (m : Nat) (ks : List (List Int)) : List Int := ((List.range m).filter (loneB (ks.map encT))).map fun (c : Nat) => (c : Int)
theorem loneI_map (m : Nat) (ks : List (List Int)) : (((List.range m).filter (loneB (ks.map encT))).map fun (c : Nat) => PyData.int (c : Int)) = (loneI m ks).map PyData.int := by
  simp [loneI]
theorem loneI_in {m : Nat} {ks : List (List Int)} : ∀ c ∈ loneI m ks, 0 ≤ c ∧ c < (m : Int) := by
  intro c hc
  obtain ⟨n, hn, rfl⟩ := List.mem_map.mp hc
  have := List.mem_range.mp (List.mem_filter.mp hn).1
  omega
theorem loneI_len {m : Nat} {ks : List (List Int)} : (loneI m ks).length ≤ m := by
  unfold loneI
  rw [List.length_map]
  exact Nat.le_trans (List.length_filter_le _ _) (by simp)
theorem loneI_nil {m : Nat} {ks : List (List Int)} (hm : 0 < m) (h : loneI m ks = []) : ks ≠ [] := by
  rintro rfl
  have : (0 : Int) ∈ loneI m [] := by
    unfold loneI
    refine List.mem_map.mpr ⟨0, List.mem_filter.mpr ⟨List.mem_range.mpr hm, rfl⟩, rfl⟩
  rw [h] at this; cases this
end Ow

namespace Ow
open PySem PyProof.Rows PySem.Spec L2
theorem len_gt {ρ : AE} {i : Nat} {E : Slot} {l : List D} {k : Int} (he : ρ[i]? = some E) (h : held E l) : tVal (eBin dGt (oOf (eOps dLen [(oVar i)])) (oOf (eCon (.int k)))) ρ = .ok (decide (k < (l.length : Int))) ρ := by
  obtain ⟨b, hv, hs⟩ := held_var he h
  simp only [tVal, eBin, oOf, eOps, oList, hv, bind_ok, stills, hs ρ he, Bool.and_self, if_true, List.map, dLen, still_none, eCon, dGt_ii]
def p3 (ks : List (List Int)) : D → Bool
  | .int c => decide ((((ks.map encT).filter (hasC c.toNat)).length : Int) = 1)
  | _ => false
def p4 (ks : List (List Int)) : D → Bool
  | .tuple cs => decide (((cs.filter (p3 ks)).length : Int) = 0)
  | _ => false
theorem drop_ok {ρ : AE} {E : Slot} {ks : List (List Int)} (he : ρ[1]? = some E) (hE : held E (ks.map encT)) (h3 : quiet ρ[3]?) (h4 : quiet ρ[4]?) (h6 : quiet ρ[6]?) (hk : ∀ k ∈ ks, ∀ c ∈ k, 0 ≤ c) :
    eComp [4] (iSeq (oVar 1)) (.name 4) (tVal (eBin dEq (oOf (eOps dLen [(oOf (eComp [3] (iSeq (oVar 4)) (.name 3) (tVal (eBin dEq (oOf (eOps dLen [(oOf (eComp [6] (iSeq (oVar 1)) (.name 6) (tVal (eBin dIn (oVar 3) (oVar 6))) (eCon (.int 1))))])) (oOf (eCon (.int 1))))) (eCon (.int 1))))])) (oOf (eCon (.int 0))))) (eVar 4) ρ =
      .ok (.list ((ks.map encT).filter (p4 ks)), true) ρ := by
  have l3 := quiet_lt h3
  have l4 := quiet_lt h4
  obtain ⟨b, hv, hs⟩ := held_var he hE
  have q := eComp_pure (i := 4) (it := iSeq (oVar 1)) (tt := tVal (eBin dEq (oOf (eOps dLen [(oOf (eComp [3] (iSeq (oVar 4)) (.name 3) (tVal (eBin dEq (oOf (eOps dLen [(oOf (eComp [6] (iSeq (oVar 1)) (.name 6) (tVal (eBin dIn (oVar 3) (oVar 6))) (eCon (.int 1))))])) (oOf (eCon (.int 1))))) (eCon (.int 1))))])) (oOf (eCon (.int 0))))) (el := eVar 4) (ρ := ρ) (p4 ks) (fun d => (d, false)) (ds := ks.map encT) (bs := [(.list (ks.map encT), b)])
    (by simp [iSeq, hv, itemsD]) h4 (by simp [stills, hs (ρ.set 4 .non) (by rw [List.getElem?_set_ne (by decide)]; exact he)]) (fun d hd => by
      obtain ⟨k, hkm, rfl⟩ := List.mem_map.mp hd
      have g4 : oVar 4 (ρ.set 4 (.val (encT k))) = .ok (encT k, none) (ρ.set 4 (.val (encT k))) := by simp [oVar, l4]
      have q3 := eComp_pure (i := 3) (it := iSeq (oVar 4)) (tt := tVal (eBin dEq (oOf (eOps dLen [(oOf (eComp [6] (iSeq (oVar 1)) (.name 6) (tVal (eBin dIn (oVar 3) (oVar 6))) (eCon (.int 1))))])) (oOf (eCon (.int 1))))) (el := eCon (.int 1)) (ρ := ρ.set 4 (.val (encT k))) (p3 ks) (fun _ => (.int 1, false)) (ds := k.map PyData.int) (bs := [(encT k, none)])
        (by simp only [iSeq, g4, bind_ok]; rfl) (by rw [List.getElem?_set_ne (by decide)]; exact h3) rfl (fun d hd => by
          obtain ⟨c, hc, rfl⟩ := List.mem_map.mp hd
          have h0 := hk k hkm c hc
          obtain ⟨n, rfl⟩ : ∃ n : Nat, c = n := ⟨c.toNat, by omega⟩
          have := has_len (ρ := (ρ.set 4 (.val (encT k))).set 3 (.val (.int n))) (e := 1) (c := 3) (x := 6) (n := n) (by rw [List.getElem?_set_ne (by decide), List.getElem?_set_ne (by decide)]; exact he) hE (by simp [l3]) (by rw [List.getElem?_set_ne (by decide), List.getElem?_set_ne (by decide)]; exact h6) (by decide) (by decide)
          simp only [tVal, eBin, oOf, this, bind_ok, still_none, eCon, dEq_ii, if_true, p3, Int.toNat_natCast]) (fun d hd _ => by simp [eCon])
      simp only [tVal, eBin, oOf, eOps, oList, q3, bind_ok, stills, still, Bool.and_self, if_true, List.map, dLen, eCon, dEq_ii, List.length_map]
      rfl) (fun d hd _ => by simp [eVar, l4])
  rw [q]
  congr 3
  simp
/-- without the first of both -/
theorem without_ok {ρ : AE} {ks : List (List Int)} {dl : List D} {k0 : List Int} {rest : List D} (he : ρ[1]? = some (.own (.list (ks.map encT)))) (h5 : ρ[5]? = some (.own (.list dl))) (h4 : quiet ρ[4]?) (hd : dl ++ ks.map encT = encT k0 :: rest) (hl : dl.length + ks.length ≤ 1000) :
    eComp [4] (iSeq (oVar 1)) (.name 4) (tVal (eBin dNe (oVar 4) (oOf (eBin dIx (oOf (eBin dAdd (oVar 5) (oVar 1))) (oOf (eCon (.int 0))))))) (eVar 4) ρ = .ok (.list ((ks.filter fun k => !decide (k = k0)).map encT), true) ρ := by
  have l4 := quiet_lt h4
  have q := eComp_pure (i := 4) (it := iSeq (oVar 1)) (tt := tVal (eBin dNe (oVar 4) (oOf (eBin dIx (oOf (eBin dAdd (oVar 5) (oVar 1))) (oOf (eCon (.int 0))))))) (el := eVar 4) (ρ := ρ) (fun d => !PyData.eqv d (encT k0)) (fun d => (d, false)) (ds := ks.map encT) (bs := [(.list (ks.map encT), some 1)])
    (by simp [iSeq, oVar, he, itemsD]) h4 (by simp [stills, still, he]) (fun d hd' => by
      obtain ⟨k, hkm, rfl⟩ := List.mem_map.mp hd'
      have g1 : (ρ.set 4 (.val (encT k)))[1]? = some (.own (.list (ks.map encT))) := by rw [List.getElem?_set_ne (by decide)]; exact he
      have g5 : (ρ.set 4 (.val (encT k)))[5]? = some (.own (.list dl)) := by rw [List.getElem?_set_ne (by decide)]; exact h5
      have g4 : (ρ.set 4 (.val (encT k)))[4]? = some (.val (encT k)) := by simp [l4]
      have ha : dAdd (.list dl) (.list (ks.map encT)) = some (.list (encT k0 :: rest), true) := by
        rw [← hd]
        refine if_pos ?_
        rw [List.length_map]
        exact Nat.le_trans hl (by decide)
      have hn := ne_encT k k0
      simp only [tVal, eBin, oOf, oVar, g1, g4, g5, bind_ok, still, still_none, decide_true, if_true, ha, eCon, dIx, atI_0, Option.map, hn, eqv_encT]) (fun d hd _ => by simp [eVar, l4])
  rw [q]
  congr 3
  rw [List.filter_map, List.map_map]
  simp only [Function.comp_def, eqv_encT, List.map_map]
theorem Ks.imp {m L L' : Nat} {ks : List (List Int)} (h : Ks m L ks) (hl : L ≤ L') : Ks m L' ks := fun k hk => ⟨(h k hk).1, Nat.le_trans (h k hk).2.1 hl, (h k hk).2.2⟩
theorem lone3 {ρ : AE} {E : Slot} {ks : List (List Int)} {n : Nat} (h0 : ρ[0]? = some (.val (.int n))) (he : ρ[1]? = some E) (hE : held E (ks.map encT)) (h3 : quiet ρ[3]?) (h4 : quiet ρ[4]?) (hn : n < 64) :
    eComp [3] (iRange1 (oVar 0)) (.name 3) (tVal (eBin dEq (oOf (eOps dLen [(oOf (eComp [4] (iSeq (oVar 1)) (.name 4) (tVal (eBin dIn (oVar 3) (oVar 4))) (eCon (.int 1))))])) (oOf (eCon (.int 0))))) (eVar 3) ρ = .ok (.list ((loneI n ks).map PyData.int), true) ρ := by
  rw [lone2 h0 he hE h3 h4 hn, loneI_map]
theorem ordered_ok {m : Nat} {ks : List (List Int)} (hm : 0 < m) (hm2 : m ≤ 9) (hk : Ks m 9 ks) (hl : ks.length ≤ 20) :
    FSat (_law_ordered_S [.int m, .list (ks.map encT)]) (fun r fl outs => fl = false ∧ ∃ ms : List (List Int), r = .tuple (ms.map encT) ∧ Ks m 18 ms ∧ ms ≠ [] ∧ ms.length ≤ 10) (fun _ => False) := by
  refine fsat_run rfl ?_
  show SSat (_law_ordered_F [.val (.int m), .val (.list (ks.map encT)), .non, .non, .non, .non, .non]) _
  unfold _law_ordered_F
  refine ssat_seq (ssat_asg ?_)
  refine Sat.of (lone3 (E := .val (.list (ks.map encT))) rfl rfl (.inl rfl) trivial trivial (by omega)) ?_
  refine ⟨rfl, ?_⟩
  simp only [slotOf, isMut, Bool.and_self, if_true, List.set_cons_succ, List.set_cons_zero, next_nx]
  -- what follows behind the first look
  have tail : ∀ (E : Slot) (ks1 : List (List Int)), held E (ks1.map encT) → Ks m 9 ks1 → ks1 ≠ [] → ks1.length ≤ 21 → ∀ {w : Wp}, (∀ (ms : List (List Int)) (ρ : AE), Ks m 18 ms → ms ≠ [] → ms.length ≤ 10 → ρ[0]? = some (.val (.int m)) → w.rt (.tuple (ms.map encT)) false ρ) →
      SSat ((sSeq (sAsg 1 (eUn dSortSet (oVar 1))) (sSeq (sWhile (tVal (eBin dGt (oOf (eOps dLen [(oVar 1)])) (oOf (eCon (.int 10))))) (sSeq (sAsg 5 (eComp [4] (iSeq (oVar 1)) (.name 4) (tVal (eBin dEq (oOf (eOps dLen [(oOf (eComp [3] (iSeq (oVar 4)) (.name 3) (tVal (eBin dEq (oOf (eOps dLen [(oOf (eComp [6] (iSeq (oVar 1)) (.name 6) (tVal (eBin dIn (oVar 3) (oVar 6))) (eCon (.int 1))))])) (oOf (eCon (.int 1))))) (eCon (.int 1))))])) (oOf (eCon (.int 0))))) (eVar 4))) (sAsg 1 (eComp [4] (iSeq (oVar 1)) (.name 4) (tVal (eBin dNe (oVar 4) (oOf (eBin dIx (oOf (eBin dAdd (oVar 5) (oVar 1))) (oOf (eCon (.int 0))))))) (eVar 4))))) (sSeq (sAsg 2 (eComp [3] (iRange1 (oVar 0)) (.name 3) (tVal (eBin dEq (oOf (eOps dLen [(oOf (eComp [4] (iSeq (oVar 1)) (.name 4) (tVal (eBin dIn (oVar 3) (oVar 4))) (eCon (.int 1))))])) (oOf (eCon (.int 0))))) (eVar 3))) (sSeq (sIf (tVal (eBin dGt (oOf (eOps dLen [(oVar 2)])) (oOf (eCon (.int 0))))) (sAsg 1 (eUn dSortSet (oOf (eBin dAdd (oOf (eSlice (oVar 1) (some (oOf (eCon (.int 1)))) none)) (oOf (eLst [(eOps dTuple [(oOf (eUn dSortSet (oOf (eBin dAdd (oOf (eBin dIx (oVar 1) (oOf (eCon (.int 0))))) (oOf (eOps dTuple [(oVar 2)]))))))])])))))) sNx) (sRet (eOps dTuple [(oVar 1)])))))) [.val (.int m), E, .own (.list ((loneI m ks).map PyData.int)), .non, .non, .non, .non]) w := by
    intro E ks1 hE hk1 hn1 hl1 w hw
    refine ssat_seq (ssat_asg ?_)
    have e1 : eUn dSortSet (oVar 1) [.val (.int m), E, .own (.list ((loneI m ks).map PyData.int)), .non, .non, .non, .non] = .ok (.list (sortD (dedupe (ks1.map encT))), true) [.val (.int m), E, .own (.list ((loneI m ks).map PyData.int)), .non, .non, .non, .non] := by
      obtain ⟨b, hv, hs⟩ := held_var (ρ := [.val (.int m), E, .own (.list ((loneI m ks).map PyData.int)), .non, .non, .non, .non]) (e := 1) rfl hE
      simp only [eUn, hv, bind_ok, sortset_list (show ks1.length < 64 by omega) fun k hk => (hk1 k hk).1]
    rw [e1]
    have nE : isNoIno (some E) = true := by rcases hE with rfl | rfl <;> rfl
    refine ⟨nE, ?_⟩
    obtain ⟨ms, hms, hk2, hl2, hd2, hn2⟩ := sorted_ks hk1
    rw [hms]
    simp only [slotOf, isMut, Bool.and_self, if_true, List.set_cons_succ, List.set_cons_zero, next_nx]
    refine ssat_seq ?_
    refine ssat_while (fun n ρ => ∃ (ms : List (List Int)) (s5 : Slot), ρ = [.val (.int m), .own (.list (ms.map encT)), .own (.list ((loneI m ks).map PyData.int)), .non, .non, s5, .non] ∧ isNoIno (some s5) = true ∧ n = ms.length ∧ ms.Nodup ∧ ms ≠ [] ∧ Ks m 9 ms ∧ ms.length ≤ 21) ms.length (Nat.lt_of_le_of_lt (show ms.length ≤ 21 by omega) (by decide)) ⟨ms, .non, rfl, rfl, rfl, hd2, hn2 hn1, hk2, by omega⟩ ?_
    rintro n ρ ⟨ms, s5, rfl, h5, rfl, hd, hn, hk, hl⟩
    refine Sat.of (len_gt (E := .own (.list (ms.map encT))) rfl (.inr rfl)) ?_
    simp only [sat_ok, List.length_map]
    split
    · rename_i hb
      have hb : (10 : Int) < ms.length := by simpa using hb
      refine ssat_seq (ssat_asg ?_)
      refine Sat.of (drop_ok (E := .own (.list (ms.map encT))) rfl (.inr rfl) trivial trivial trivial fun k h c hc => ((hk k h).2.2 c hc).1) ?_
      refine ⟨h5, ?_⟩
      simp only [slotOf, isMut, Bool.and_self, if_true, List.set_cons_succ, List.set_cons_zero, next_nx]
      refine ssat_asg ?_
      have hx : ∃ k0 rest, (ms.map encT).filter (p4 ms) ++ ms.map encT = encT k0 :: rest ∧ k0 ∈ ms := by
        cases hf : (ms.map encT).filter (p4 ms) with
        | nil =>
          cases ms with
          | nil => exact absurd rfl hn
          | cons a l => exact ⟨a, l.map encT, rfl, by simp⟩
        | cons d l =>
          have : d ∈ (ms.map encT).filter (p4 ms) := by rw [hf]; simp
          obtain ⟨k0, h1, rfl⟩ := List.mem_map.mp (List.mem_filter.mp this).1
          exact ⟨k0, _, rfl, h1⟩
      obtain ⟨k0, rest, hx1, hx2⟩ := hx
      refine Sat.of (without_ok (ks := ms) (dl := (ms.map encT).filter (p4 ms)) (k0 := k0) (rest := rest) rfl rfl trivial hx1 (by
        have := List.length_filter_le (p4 ms) (ms.map encT)
        rw [List.length_map] at this
        omega)) ?_
      refine ⟨rfl, ?_⟩
      simp only [slotOf, isMut, Bool.and_self, if_true, List.set_cons_succ, List.set_cons_zero, next_nx]
      have hf : (ms.filter fun k => !decide (k = k0)) = ms.erase k0 := by
        rw [hd.erase_eq_filter]
        congr 1
        funext k
        by_cases e : k = k0 <;> simp [e]
      have he := List.length_erase_of_mem hx2
      rw [hf]
      refine ⟨ms.length - 1, by omega, ms.erase k0, _, rfl, rfl, he.symm, hd.erase _, ?_, fun k h => hk k (List.mem_of_mem_erase h), by omega⟩
      intro h0
      rw [h0] at he
      simp at he
      omega
    · rename_i hb
      have hb : (ms.length : Int) ≤ 10 := by simpa using hb
      simp only [next_nx]
      refine ssat_seq (ssat_asg ?_)
      refine Sat.of (lone3 (E := .own (.list (ms.map encT))) rfl rfl (.inr rfl) trivial trivial (by omega)) ?_
      refine ⟨rfl, ?_⟩
      simp only [slotOf, isMut, Bool.and_self, if_true, List.set_cons_succ, List.set_cons_zero, next_nx]
      refine ssat_seq (ssat_if ?_)
      refine Sat.of (len_gt (E := .own (.list ((loneI m ms).map PyData.int))) rfl (.inr rfl)) ?_
      simp only [sat_ok, List.length_map]
      split
      · rename_i hb2
        refine ssat_asg ?_
        cases ms with
        | nil => exact absurd rfl hn
        | cons a l =>
          have ha := hk a (by simp)
          have ll := loneI_len (m := m) (ks := a :: l)
          have i1 : ∀ c ∈ a ++ loneI m (a :: l), 0 ≤ c ∧ c < (m : Int) := fun c hc => by
            rcases List.mem_append.mp hc with h | h
            · exact ha.2.2 c h
            · exact loneI_in c h
          obtain ⟨a', e2, i2, i3, i4⟩ := sorted_ints i1
          have hlen : (a ++ loneI m (a :: l)).length ≤ 18 := by rw [List.length_append]; omega
          have k2 : Ks m 18 (l ++ [a']) := by
            intro k hk'
            rcases List.mem_append.mp hk' with h | h
            · exact (hk.imp (by decide) : Ks m 18 (a :: l)) k (List.mem_cons_of_mem _ h)
            · rw [List.mem_singleton.mp h]
              exact ⟨i4 (by simp [ha.1]), by omega, i2⟩
          obtain ⟨os, e3, k3, l3, _, n3⟩ := sorted_ks k2
          have x1 : dAdd (encT a) (.tuple ((loneI m (a :: l)).map PyData.int)) = some (.tuple ((a ++ loneI m (a :: l)).map PyData.int), false) := by
            rw [List.map_append]
            refine if_pos ?_
            rw [List.length_map, List.length_map, ← List.length_append]
            exact Nat.le_trans hlen (by decide)
          have x2 := sortset_ints (ns := a ++ loneI m (a :: l)) (by omega)
          have x3 : dAdd (.list (l.map encT)) (.list [.tuple (a'.map PyData.int)]) = some (.list ((l ++ [a']).map encT), true) := by
            rw [List.map_append]
            refine if_pos ?_
            rw [List.length_map]
            simp only [List.length_cons, List.length_nil] at hl ⊢
            exact Nat.le_trans (show l.length + (0 + 1) ≤ 21 by omega) (by decide)
          have x4 := sortset_list (ks := l ++ [a']) (by simp at hl ⊢; omega) fun k h => (k2 k h).1
          have cut : cutD (encT a :: l.map encT) (some 1) none = l.map encT := by
            simp [cutD, HT.sIx]
            exact List.take_of_length_le (by simp)
          have x5 : eUn dSortSet (oOf (eBin dAdd (oOf (eSlice (oVar 1) (some (oOf (eCon (.int 1)))) none)) (oOf (eLst [(eOps dTuple [(oOf (eUn dSortSet (oOf (eBin dAdd (oOf (eBin dIx (oVar 1) (oOf (eCon (.int 0))))) (oOf (eOps dTuple [(oVar 2)]))))))])])))) [.val (.int m), .own (.list (encT a :: l.map encT)), .own (.list ((loneI m (a :: l)).map PyData.int)), .non, .non, s5, .non] =
              .ok (.list (os.map encT), true) [.val (.int m), .own (.list (encT a :: l.map encT)), .own (.list ((loneI m (a :: l)).map PyData.int)), .non, .non, s5, .non] := by
            simp only [eUn, eBin, oOf, eSlice, evPart, eLst, eList, eOps, oList, oVar, eCon, List.getElem?_cons_succ, List.getElem?_cons_zero, bind_ok, stills, still, decide_true, Bool.and_self, if_true, List.map_cons, List.map_nil, dIx, atI_0, Option.map_some, dTuple, cut, x1, x2, e2, x3, x4, e3]
          refine Sat.of x5 ⟨rfl, ?_⟩
          simp only [slotOf, isMut, Bool.and_self, if_true, List.set_cons_succ, List.set_cons_zero, next_nx]
          refine ssat_ret ?_
          have x6 : eOps dTuple [oVar 1] [.val (.int m), .own (.list (os.map encT)), .own (.list ((loneI m (a :: l)).map PyData.int)), .non, .non, s5, .non] = .ok (.tuple (os.map encT), false) [.val (.int m), .own (.list (os.map encT)), .own (.list ((loneI m (a :: l)).map PyData.int)), .non, .non, s5, .non] := by
            simp [eOps, oList, oVar, stills, still, dTuple]
          refine Sat.of x6 (hw os _ k3 (n3 (by simp)) ?_ rfl)
          have : (l ++ [a']).length ≤ 10 := by
            rw [List.length_append]
            simp only [List.length_cons, List.length_nil] at hb ⊢
            omega
          omega
      · rename_i hb2
        simp only [sNx, ssat_nx, next_nx]
        refine ssat_ret ?_
        have : eOps dTuple [oVar 1] [.val (.int m), .own (.list (ms.map encT)), .own (.list ((loneI m ms).map PyData.int)), .non, .non, s5, .non] = .ok (.tuple (ms.map encT), false) [.val (.int m), .own (.list (ms.map encT)), .own (.list ((loneI m ms).map PyData.int)), .non, .non, s5, .non] := by
          simp [eOps, oList, oVar, stills, still, dTuple]
        rw [this]
        exact hw ms _ (hk.imp (by decide)) hn (by omega) rfl
  have fin : ∀ (ms : List (List Int)) (ρ : AE), Ks m 18 ms → ms ≠ [] → ms.length ≤ 10 → ρ[0]? = some (.val (.int m)) → inoStill [false, false] ρ = true ∧ (fun r fl outs => fl = false ∧ ∃ ms : List (List Int), r = .tuple (ms.map encT) ∧ Ks m 18 ms ∧ ms ≠ [] ∧ ms.length ≤ 10) (PyData.tuple (ms.map encT)) false (outsOf [false, false] ρ) := fun ms ρ h1 h2 h3 _ => ⟨by simp [inoStill, List.range_succ], rfl, ms, rfl, h1, h2, h3⟩
  refine ssat_seq (ssat_if ?_)
  refine Sat.of (len_gt (E := .own (.list ((loneI m ks).map PyData.int))) rfl (.inr rfl)) ?_
  simp only [sat_ok, List.length_map]
  split
  · rename_i hb
    have hb : (0 : Int) < (loneI m ks).length := by simpa using hb
    refine ssat_asg ?_
    have x1 : dAdd (.list (ks.map encT)) (.list [.tuple ((loneI m ks).map PyData.int)]) = some (.list ((ks ++ [loneI m ks]).map encT), true) := by
      rw [List.map_append]
      refine if_pos ?_
      rw [List.length_map]
      exact Nat.le_trans (show ks.length + (0 + 1) ≤ 21 by omega) (by decide)
    have : eBin dAdd (oVar 1) (oOf (eLst [(eOps dTuple [(oVar 2)])])) [.val (.int m), .val (.list (ks.map encT)), .own (.list ((loneI m ks).map PyData.int)), .non, .non, .non, .non] = .ok (.list ((ks ++ [loneI m ks]).map encT), true) [.val (.int m), .val (.list (ks.map encT)), .own (.list ((loneI m ks).map PyData.int)), .non, .non, .non, .non] := by
      simp only [eBin, oOf, eLst, eList, eOps, oList, oVar, List.getElem?_cons_succ, List.getElem?_cons_zero, bind_ok, stills, still, decide_true, Bool.and_self, if_true, List.map_cons, List.map_nil, dTuple, x1]
    rw [this]
    refine ⟨rfl, ?_⟩
    simp only [slotOf, isMut, Bool.and_self, if_true, List.set_cons_succ, List.set_cons_zero, next_nx]
    refine tail _ (ks ++ [loneI m ks]) (.inr rfl) ?_ (by simp) (by simp; omega) fin
    intro k h
    rcases List.mem_append.mp h with h | h
    · exact hk k h
    · rw [List.mem_singleton.mp h]
      refine ⟨fun e => by rw [e] at hb; simp at hb, Nat.le_trans loneI_len hm2, loneI_in⟩
  · rename_i hb
    have hb : loneI m ks = [] := by
      cases h : loneI m ks with
      | nil => rfl
      | cons a l => rw [h] at hb; simp at hb
    simp only [sNx, ssat_nx, next_nx]
    exact tail _ ks (.inl rfl) hk (loneI_nil hm hb) (by omega) fin
end Ow

namespace Ow
open PySem PyProof.Rows PySem.Spec L2
theorem sat_var {ρ : AE} {i : Nat} {d : D} {P : D × Bool → AE → Prop} (h : ρ[i]? = some (.val d)) (q : P (d, false) ρ) : Sat (eVar i ρ) P := by
  have : eVar i ρ = .ok (d, false) ρ := by simp [eVar, h]
  rw [this]; exact q
theorem sat_con {ρ : AE} {d : D} {P : D × Bool → AE → Prop} (q : P (d, false) ρ) : Sat (eCon d ρ) P := q
theorem sat_ovar {ρ : AE} {i : Nat} {d : D} {P : D × Option Nat → AE → Prop} (h : ρ[i]? = some (.val d)) (q : P (d, none) ρ) : Sat (oVar i ρ) P := by
  have : oVar i ρ = .ok (d, none) ρ := by simp [oVar, h]
  rw [this]; exact q
theorem sat_oown {ρ : AE} {i : Nat} {d : D} {P : D × Option Nat → AE → Prop} (h : ρ[i]? = some (.own d)) (q : P (d, some i) ρ) : Sat (oVar i ρ) P := by
  have : oVar i ρ = .ok (d, some i) ρ := by simp [oVar, h]
  rw [this]; exact q
theorem rng_nat {ρ : AE} {f : EvO} {b : Option Nat} {n : Nat} (h : f ρ = .ok (.int n, b) ρ) (hn : n < 64) : iRange1 f ρ = .ok (rangeD 0 n, []) ρ := by
  have a1 : (n : Int) < 2 ^ 24 := by omega
  have a2 : -(2 ^ 62) ≤ (n : Int) := by omega
  have e : ∀ j : Int, j < 2 ^ 24 → -(2 ^ 62) ≤ j → (Res.ok (PyData.int j, b) ρ).bind (fun p ρ' => match p.1 with | .int j => (if j < 2 ^ 24 ∧ -(2 ^ 62) ≤ j then .ok (rangeD 0 j.toNat, ([] : Src)) ρ' else .stuck) | _ => .stuck) = .ok (rangeD 0 j.toNat, []) ρ := fun j h1 h2 => by
    simp only [bind_ok]
    rw [if_pos ⟨h1, h2⟩]
  have := e _ a1 a2
  rw [Int.toNat_natCast] at this
  unfold iRange1
  rw [h]
  exact this
theorem rng_var {ρ : AE} {i n : Nat} (h : ρ[i]? = some (.val (.int n))) (hn : n < 64) : iRange1 (oVar i) ρ = .ok (rangeD 0 n, []) ρ :=
  rng_nat (b := none) (by simp [oVar, h]) hn
theorem range_ints (n : Nat) : rangeD 0 n = ((List.range n).map fun (i : Nat) => (i : Int)).map PyData.int := by
  simp [rangeD]
theorem range_mem {n : Nat} {d : D} (h : d ∈ rangeD 0 n) : ∃ c : Nat, d = .int c ∧ c < n := by
  obtain ⟨c, hc, rfl⟩ := List.mem_map.mp h
  exact ⟨c, by simp, List.mem_range.mp hc⟩
theorem range_len (n : Nat) : (rangeD 0 n).length = n := by simp [rangeD]
theorem sub_ints {l : List D} {ns : List Int} (h : l.Sublist (ns.map PyData.int)) : ∃ ms : List Int, l = ms.map PyData.int ∧ ms.Sublist ns := by
  obtain ⟨ms, h1, h2⟩ := List.sublist_map_iff.mp h
  exact ⟨ms, h2, h1⟩
theorem sub_range {l : List D} {n : Nat} (h : l.Sublist (rangeD 0 n)) : ∃ ms : List Int, l = ms.map PyData.int ∧ ms.length ≤ n ∧ ∀ c ∈ ms, 0 ≤ c ∧ c < (n : Int) := by
  rw [range_ints] at h
  obtain ⟨ms, rfl, h1⟩ := sub_ints h
  refine ⟨ms, rfl, ?_, fun c hc => ?_⟩
  · have := h1.length_le
    simpa using this
  · obtain ⟨k, hk, rfl⟩ := List.mem_map.mp (h1.subset hc)
    have := List.mem_range.mp hk
    omega
theorem okS_ints (ns : List Int) : okS (ns.map PyData.int) = true := by
  unfold okS
  rw [plain_ints, depth_ints]
  have h1 : ((ns.map PyData.int).all fun a => (ns.map PyData.int).all fun b => PySem.W.alike a b) = true := by
    simp [PySem.W.alike]
  have h2 : (ns.map PyData.int).all noTup = true := by simp [noTup]
  rw [h1, h2]
  simp
theorem sort_only (ns : List Int) : ∃ ms : List Int, dSorted [.list (ns.map PyData.int)] = some (.list (ms.map PyData.int), true) ∧ ms.length = ns.length ∧ ∀ c, c ∈ ms → c ∈ ns := by
  have p : (sortD (ns.map PyData.int)).Perm (ns.map PyData.int) := by unfold sortD; exact List.mergeSort_perm _ _
  obtain ⟨ms, e⟩ : ∃ ms : List Int, sortD (ns.map PyData.int) = ms.map PyData.int := all_map fun d hd => by
    obtain ⟨x, _, rfl⟩ := List.mem_map.mp (p.mem_iff.mp hd)
    exact ⟨x, rfl⟩
  refine ⟨ms, ?_, ?_, fun c hc => ?_⟩
  · show (if okS (ns.map PyData.int) = true then some (PyData.list (sortD (ns.map PyData.int)), true) else none) = _
    rw [if_pos (okS_ints ns), e]
  · have := p.length_eq
    rw [e] at this
    simpa using this
  · have := p.mem_iff (a := PyData.int c)
    rw [e] at this
    obtain ⟨x, hx, ex⟩ := List.mem_map.mp (this.mp (List.mem_map_of_mem hc))
    cases ex
    exact hx
def edA : StF := (sFor [0, 1, 2, 3, 4, 5, 7, 8, 9, 10, 11, 12] (iRange1 (oOf (eBin dAdd (oOf (eCon (.int 1))) (oOf (eCall _law_draw_S [.ref 0, .val (eCon (.int 8))]))))) (.name 4) (sSeq (sAsg 5 (eOps dTuple [(oOf (eComp [6] (iRange1 (oVar 1)) (.name 6) (tVal (eBin dEq (oOf (eCall _law_draw_S [.ref 0, .val (eCon (.int 3))])) (oOf (eCon (.int 0))))) (eVar 6)))])) (sApp 3 (eIte (tVal (eBin dGt (oOf (eOps dLen [(oVar 5)])) (oOf (eCon (.int 0))))) (eVar 5) (eTup [(eCall _law_draw_S [.ref 0, .val (eVar 1)])])))))
def edBb : StF := (sSeq (sAsg 8 (eBin dIx (oVar 3) (oOf (eCall _law_draw_S [.ref 0, .val (eOps dLen [(oVar 3)])])))) (sSeq (sAsg 9 (eOps dMin [(oOf (eBin dSub (oVar 1) (oVar 7))), (oOf (eBin dAdd (oOf (eCon (.int 1))) (oOf (eCall _law_draw_S [.ref 0, .val (eCon (.int 2))]))))])) (sSeq (sApp 3 (eOps dTuple [(oOf (eBin dAdd (oOf (eComp [6] (iSeq (oVar 8)) (.name 6) (tVal (eBin dEq (oOf (eCall _law_draw_S [.ref 0, .val (eCon (.int 2))])) (oOf (eCon (.int 0))))) (eVar 6))) (oOf (eRg .list true (oVar 7) (oOf (eBin dAdd (oVar 7) (oVar 9)))))))])) (sAsg 7 (eBin dAdd (oVar 7) (oVar 9))))))
def edB : StF := (sSeq (sParO 3 7 (eLst [(eTup [(eCon (.int 0))])]) (eCon (.int 1))) (sWhile (tAnd2 (tVal (eBin dLt (oVar 7) (oVar 1))) (tVal (eBin dLt (oOf (eOps dLen [(oVar 3)])) (oOf (eCon (.int 9)))))) edBb))
def edC : StF := (sSeq (sAsg 10 (eOps dMin [(oVar 1), (oOf (eBin dAdd (oOf (eCon (.int 3))) (oOf (eCall _law_draw_S [.ref 0, .val (eCon (.int 7))]))))])) (sAsg 3 (eComp [4] (iRange1 (oVar 10)) (.name 4) (tVal (eBin dGt (oVar 10) (oOf (eCon (.int 1))))) (eOps dTuple [(oOf (eOps dSorted [(oOf (eLst [(eVar 4), (eBin dMod (oOf (eBin dAdd (oVar 4) (oOf (eCon (.int 1))))) (oVar 10))]))]))]))))
def edD : StF := (sSeq (sAsg 10 (eOps dMin [(oVar 1), (oOf (eBin dAdd (oOf (eCon (.int 3))) (oOf (eCall _law_draw_S [.ref 0, .val (eCon (.int 3))]))))])) (sAsg 3 (eComp [4] (iRange1 (oVar 10)) (.name 4) (tVal (eBin dGt (oVar 10) (oOf (eCon (.int 1))))) (eOps dTuple [(oOf (eComp [6] (iRange1 (oVar 10)) (.name 6) (tVal (eBin dNe (oVar 6) (oVar 4))) (eVar 6)))]))))
def edE : StF := (sSeq (sAsg 10 (eOps dMin [(oVar 1), (oOf (eBin dAdd (oOf (eCon (.int 2))) (oOf (eCall _law_draw_S [.ref 0, .val (eCon (.int 3))]))))])) (sFor [0, 1, 2, 3, 4, 5, 7, 8, 9, 10, 11, 12] (iRange1 (oVar 10)) (.name 4) (sAsg 3 (eBin dAdd (oVar 3) (oOf (eComp [6] (iRange1 (oVar 4)) (.name 6) tTrue (eTup [(eVar 6), (eVar 4)])))))))
def edF : StF := (sFor [0, 1, 2, 3, 4, 5, 7, 8, 9, 10, 11, 12] (iRange1 (oOf (eCall _law_draw_S [.ref 0, .val (eCon (.int 3))]))) (.name 4) (sSeq (sAsg 5 (eOps dTuple [(oOf (eComp [6] (iRange1 (oVar 1)) (.name 6) (tVal (eBin dEq (oOf (eCall _law_draw_S [.ref 0, .val (eCon (.int 3))])) (oOf (eCon (.int 0))))) (eVar 6)))])) (sAsg 3 (eBin dAdd (oVar 3) (oOf (eIte (tVal (eBin dGt (oOf (eOps dLen [(oVar 5)])) (oOf (eCon (.int 0))))) (eLst [(eVar 5)]) (eLst [])))))))
def edH : StF := (sFor [0, 1, 2, 3, 4, 5, 7, 8, 9, 10, 11, 12] (iRange1 (oVar 1)) (.name 4) (sSeq (sAsg 12 (eBin dAdd (oVar 4) (oOf (eCall _law_draw_S [.ref 0, .val (eBin dSub (oVar 1) (oVar 4))])))) (sSub2 11 (oVar 4) 11 (oVar 12) (eTup [(eBin dIx (oVar 11) (oVar 12)), (eBin dIx (oVar 11) (oVar 4))]))))
def edI : StF := (sRet (eCall _law_ordered_S [.val (eVar 1), .val (eComp [5] (iSeq (oVar 3)) (.name 5) tTrue (eOps dTuple [(oOf (eOps dSorted [(oOf (eComp [6] (iSeq (oVar 5)) (.name 6) tTrue (eBin dIx (oVar 11) (oVar 6))))]))]))]))
theorem edges_split : _law_edges_F = sSeq (sAsg 2 (eCall _law_draw_S [.ref 0, .val (eCon (.int 6))])) (sSeq (sAsg 3 (eLst [])) (sSeq (sIf (tVal (eBin dEq (oVar 2) (oOf (eCon (.int 0))))) edA (sIf (tVal (eBin dLt (oVar 2) (oOf (eCon (.int 3))))) edB (sIf (tVal (eBin dEq (oVar 2) (oOf (eCon (.int 3))))) edC (sIf (tVal (eBin dEq (oVar 2) (oOf (eCon (.int 4))))) edD edE)))) (sSeq edF (sSeq (sAsg 11 (eRg1 .list true (oVar 1))) (sSeq edH edI))))) := rfl
/-- the state while the edges are drawn -/
def ESt (m : Nat) (N : Nat) (ρ : AE) : Prop := ∃ (b : D) (p : Int) (ks : List (List Int)) (s4 s5 s6 s7 s8 s9 s10 : Slot), Bx b ∧ Ks m 9 ks ∧ ks.length ≤ N ∧ quiet (some s4) ∧ quiet (some s5) ∧ quiet (some s6) ∧ ρ = [.ino b, .val (.int m), .val (.int p), .own (.list (ks.map encT)), s4, s5, s6, s7, s8, s9, s10, .non, .non]
theorem quiet_no {s : Slot} (h : quiet (some s)) : isNoIno (some s) = true := by
  cases s <;> first | rfl | exact h.elim
theorem pick5 {w : Wp} {b : D} {m : Nat} {s2 s3 s4 s5 s6 : Slot} {r : AE} (hb : Bx b) (hm : m ≤ 9) (h5 : quiet (some s5)) (h6 : quiet (some s6))
    (q : ∀ b' (ns : List Int), Bx b' → ns.length ≤ m → (∀ c ∈ ns, 0 ≤ c ∧ c < (m : Int)) → w.nx (.ino b' :: .val (.int m) :: s2 :: s3 :: s4 :: .val (encT ns) :: s6 :: r)) :
    SSat (sAsg 5 (eOps dTuple [(oOf (eComp [6] (iRange1 (oVar 1)) (.name 6) (tVal (eBin dEq (oOf (eCall _law_draw_S [.ref 0, .val (eCon (.int 3))])) (oOf (eCon (.int 0))))) (eVar 6)))]) (.ino b :: .val (.int m) :: s2 :: s3 :: s4 :: s5 :: s6 :: r)) w := by
  refine ssat_asg (sat_op1 (sat_oOf (pick_ok (i := 5) hb (by decide) (by decide) (rng_var rfl (by omega)) (fun _ => rfl) h6 fun d' l hb' hs => ?_)))
  obtain ⟨ns, rfl, h1, h2⟩ := sub_range hs
  exact ⟨rfl, _, rfl, quiet_no h5, q d' ns hb' h1 h2⟩
theorem len5 {ρ : AE} {ns : List Int} (h : ρ[5]? = some (.val (encT ns))) : tVal (eBin dGt (oOf (eOps dLen [(oVar 5)])) (oOf (eCon (.int 0)))) ρ = .ok (decide ((0 : Int) < ns.length)) ρ := by
  simp [tVal, eBin, oOf, eOps, oList, oVar, h, stills, still, encT, dLen, eCon]
theorem bind_q {i : Nat} {d : D} {ρ : AE} (h : quiet ρ[i]?) : bindT (.name i) d ρ = some (ρ.set i (.val d)) := by
  cases e : ρ[i]? with
  | none => rw [e] at h; exact h.elim
  | some s =>
    cases s with
    | non => simp [bindT, e]
    | val x => simp [bindT, e]
    | _ => rw [e] at h; exact h.elim
theorem Ks.app {m L : Nat} {ks : List (List Int)} {k : List Int} (h : Ks m L ks) (h1 : k ≠ []) (h2 : k.length ≤ L) (h3 : ∀ c ∈ k, 0 ≤ c ∧ c < (m : Int)) : Ks m L (ks ++ [k]) := by
  intro x hx
  rcases List.mem_append.mp hx with hx | hx
  · exact h x hx
  · rw [List.mem_singleton.mp hx]; exact ⟨h1, h2, h3⟩
theorem edA_ok {m : Nat} {b : D} {p : Int} {w : Wp} (hm : 0 < m) (hm2 : m ≤ 9) (hb : Bx b) (q : ∀ ρ, ESt m 12 ρ → w.nx ρ) : SSat (edA [.ino b, .val (.int m), .val (.int p), .own (.list []), .non, .non, .non, .non, .non, .non, .non, .non, .non]) w := by
  unfold edA
  refine ssat_forS (sat_rg1 (sat_oOf (sat_bin (sat_oOf ?_))))
  simp only [eCon, sat_ok]
  refine sat_oOf (sat_draw0 hb rfl (by decide) (by decide) fun n b' h0 h1 hb' => ?_)
  refine ⟨rfl, _, rfl, 1 + n, rfl, by omega, by omega, rfl, ?_⟩
  have hlen : (rangeD 0 (1 + n).toNat).length ≤ 8 := by rw [range_len]; omega
  refine ssat_for (fun ds ρ => ∃ b ks s4 s5 s6, Bx b ∧ Ks m 9 ks ∧ ks.length + ds.length ≤ 8 ∧ quiet (some s4) ∧ quiet (some s5) ∧ quiet (some s6) ∧ ρ = [.ino b, .val (.int m), .val (.int p), .own (.list (ks.map encT)), s4, s5, s6, .non, .non, .non, .non, .non, .non]) ?_ ?_ _ _ ⟨b', [], .non, .non, .non, hb', (fun k h => by cases h), by simpa using hlen, trivial, trivial, trivial, rfl⟩
  · rintro d ds ρ ⟨b, ks, s4, s5, s6, hb, hk, hl, h4, h5, h6, rfl⟩
    refine ⟨rfl, _, bind_q h4, ?_⟩
    simp only [List.set_cons_succ, List.set_cons_zero]
    refine ssat_seq (pick5 hb hm2 h5 h6 fun b1 ns hb1 hn1 hn2 => ?_)
    simp only [next_nx]
    refine ssat_app (ds := ks.map encT) rfl (sat_ite ?_)
    refine Sat.of (len5 (ns := ns) rfl) ?_
    simp only [List.length_cons] at hl
    split
    · rename_i hz
      have hz : (0 : Int) < ns.length := by simpa using hz
      refine sat_var rfl ⟨ks.map encT, rfl, by rw [List.length_map]; omega, b1, ks ++ [ns], .val d, .val (encT ns), s6, hb1, hk.app (by rintro rfl; simp at hz) (by omega) hn2, by simp; omega, trivial, trivial, h6, by simp⟩
    · refine sat_tup (sat_el (sat_draw0 (m := m) (fl := false) hb1 (by simp [eVar]) (by omega) (by omega) fun z b2 hz0 hz1 hb2 => sat_el_nil ?_))
      refine ⟨ks.map encT, rfl, by rw [List.length_map]; omega, b2, ks ++ [[z]], .val d, .val (encT ns), s6, hb2, hk.app (by simp) (by simp) (by simp; omega), by simp; omega, trivial, trivial, h6, by simp [encT]⟩
  · rintro ρ ⟨b, ks, s4, s5, s6, hb, hk, hl, h4, h5, h6, rfl⟩
    exact ⟨rfl, q _ ⟨b, p, ks, s4, s5, s6, _, _, _, _, hb, hk, by simp at hl; omega, h4, h5, h6, rfl⟩⟩
end Ow

namespace Ow
open PySem PyProof.Rows PySem.Spec L2
theorem len_lt {ρ : AE} {i : Nat} {E : Slot} {l : List D} {k : Int} (he : ρ[i]? = some E) (h : held E l) : tVal (eBin dLt (oOf (eOps dLen [(oVar i)])) (oOf (eCon (.int k)))) ρ = .ok (decide ((l.length : Int) < k)) ρ := by
  obtain ⟨b, hv, hs⟩ := held_var he h
  simp only [tVal, eBin, oOf, eOps, oList, hv, bind_ok, stills, hs ρ he, Bool.and_self, if_true, List.map, dLen, still_none, eCon, dLt_ii]
theorem len_val {ρ : AE} {i : Nat} {E : Slot} {l : List D} (he : ρ[i]? = some E) (h : held E l) : eOps dLen [(oVar i)] ρ = .ok (.int (l.length : Int), false) ρ := by
  obtain ⟨b, hv, hs⟩ := held_var he h
  simp only [eOps, oList, hv, bind_ok, stills, hs ρ he, Bool.and_self, if_true, List.map, dLen]
theorem rgOk_small {a b : Int} (h0 : 0 ≤ a) (h1 : a ≤ b) (h2 : b ≤ 1000) : rgOk a b = true := by
  unfold rgOk
  simp only [Bool.and_eq_true, decide_eq_true_eq]
  refine ⟨⟨⟨⟨?_, ?_⟩, ?_⟩, ?_⟩, ?_⟩ <;> omega
theorem rg_ok {ρ : AE} {f f2 : EvO} {mk : List D → D} {fl : Bool} {x y : Option Nat} {a b : Int} (hf : f ρ = .ok (.int a, x) ρ) (hf2 : f2 ρ = .ok (.int b, y) ρ) (h : rgOk a b = true) : eRg mk fl f f2 ρ = .ok (mk (rgD a b), fl) ρ := by
  unfold eRg
  rw [hf]
  simp only [bind_ok]
  rw [hf2]
  simp only [bind_ok]
  rw [if_pos h]
theorem rg1_ok {ρ : AE} {f : EvO} {mk : List D → D} {fl : Bool} {y : Option Nat} {b : Int} (hf : f ρ = .ok (.int b, y) ρ) (h : rgOk 0 b = true) : eRg1 mk fl f ρ = .ok (mk (rgD 0 b), fl) ρ := by
  unfold eRg1
  rw [hf]
  simp only [bind_ok]
  rw [if_pos h]
theorem asg10 {w : Wp} {b : D} {m : Nat} {c q : Nat} {s2 s3 s4 s5 s6 s7 s8 s9 s11 s12 : Slot} (hm : 0 < m) (hb : Bx b) (hc : 0 < c) (hq : 0 < q) (hq2 : q < 100)
    (h : ∀ b' (z : Nat), Bx b' → 1 ≤ z → z ≤ m → z < c + q → w.nx [.ino b', .val (.int m), s2, s3, s4, s5, s6, s7, s8, s9, .val (.int z), s11, s12]) :
    SSat (sAsg 10 (eOps dMin [(oVar 1), (oOf (eBin dAdd (oOf (eCon (.int (c : Int)))) (oOf (eCall _law_draw_S [.ref 0, .val (eCon (.int (q : Int)))]))))]) [.ino b, .val (.int m), s2, s3, s4, s5, s6, s7, s8, s9, .non, s11, s12]) w := by
  refine ssat_asg (sat_ops (sat_ol (sat_ovar rfl (sat_ol (sat_oOf (sat_bin (sat_oOf (sat_con (sat_oOf (sat_draw0 (m := q) (fl := false) hb rfl (by omega) (by omega) fun n b' h0 h1 hb' => ?_))))))))))
  refine ⟨rfl, _, rfl, sat_ol_nil ⟨rfl, _, rfl, rfl, ?_⟩⟩
  obtain ⟨z, hz, z1, z2, z3⟩ : ∃ z : Nat, (if (c : Int) + n < m then (c : Int) + n else m) = z ∧ 1 ≤ z ∧ z ≤ m ∧ z < c + q := by
    by_cases e : (c : Int) + n < m
    · exact ⟨((c : Int) + n).toNat, by rw [if_pos e]; omega, by omega, by omega, by omega⟩
    · exact ⟨m, by rw [if_neg e], by omega, by omega, by omega⟩
  have := h b' z hb' z1 z2 z3
  rw [← hz] at this
  exact this
theorem edBb_ok {m : Nat} {b : D} {p : Int} {w : Wp} {ks : List (List Int)} {seen : Nat} {s8 s9 : Slot} (hm2 : m ≤ 9) (hb : Bx b) (hs1 : 1 ≤ seen) (h : seen < m) (hn : ks ≠ []) (h2 : ks.length < 9) (hk : ∀ k ∈ ks, k ≠ [] ∧ k.length ≤ seen ∧ ∀ c ∈ k, 0 ≤ c ∧ c < (seen : Int)) (h8 : quiet (some s8)) (h9 : quiet (some s9))
    (q : ∀ (b : D) (se : Nat) (ks : List (List Int)) (s8 s9 : Slot) (ρ : AE), Bx b → seen < se → 1 ≤ se → se ≤ m → ks ≠ [] → ks.length ≤ 9 → (∀ k ∈ ks, k ≠ [] ∧ k.length ≤ se ∧ ∀ c ∈ k, 0 ≤ c ∧ c < (se : Int)) → quiet (some s8) → quiet (some s9) → ρ = [.ino b, .val (.int m), .val (.int p), .own (.list (ks.map encT)), .non, .non, .non, .val (.int se), s8, s9, .non, .non, .non] → w.nx ρ) :
    SSat (edBb [.ino b, .val (.int m), .val (.int p), .own (.list (ks.map encT)), .non, .non, .non, .val (.int seen), s8, s9, .non, .non, .non]) w := by
  unfold edBb
  have kl : 0 < ks.length := List.length_pos_iff.mpr hn
  refine ssat_seq (ssat_asg (sat_bin (sat_oown rfl (sat_oOf (sat_draw0 (m := ((ks.map encT).length : Nat)) (fl := false) hb (len_val (E := .own (.list (ks.map encT))) rfl (.inr rfl)) (by rw [List.length_map]; omega) (by rw [List.length_map]; omega) fun i b1 hi0 hi1 hb1 => ?_)))))
  rw [List.length_map] at hi1
  obtain ⟨k0, e0, hk0⟩ := atI_lt (l := ks) hi0 hi1
  have e1 : dIx (.list (ks.map encT)) (.int i) = some (encT k0, false) := by simp [dIx, atI_map, e0]
  refine ⟨by simp [still], _, e1, quiet_no h8, ?_⟩
  simp only [slotOf, Bool.false_and, Bool.false_eq_true, if_false, List.set_cons_succ, List.set_cons_zero, next_nx]
  refine ssat_seq (ssat_asg (sat_ops (sat_ol (sat_oOf (sat_bin (sat_ovar rfl (sat_ovar rfl ?_)))))))
  refine ⟨rfl, _, rfl, ?_⟩
  refine sat_ol (sat_oOf (sat_bin (sat_oOf (sat_con (sat_oOf (sat_draw0 (m := 2) (fl := false) hb1 rfl (by decide) (by decide) fun n2 b2 hn0 hn1 hb2 => ?_))))))
  refine ⟨rfl, _, rfl, sat_ol_nil ⟨rfl, _, rfl, quiet_no h9, ?_⟩⟩
  obtain ⟨v, hv, v1, v2⟩ : ∃ v : Nat, (if 1 + n2 < (m : Int) - seen then 1 + n2 else (m : Int) - seen) = v ∧ 1 ≤ v ∧ v + seen ≤ m := by
    by_cases e : 1 + n2 < (m : Int) - seen
    · exact ⟨(1 + n2).toNat, by rw [if_pos e]; omega, by omega, by omega⟩
    · exact ⟨m - seen, by rw [if_neg e]; omega, by omega, by omega⟩
  simp only [hv, slotOf, Bool.false_and, Bool.false_eq_true, if_false, List.set_cons_succ, List.set_cons_zero, next_nx]
  refine ssat_seq (ssat_app (ds := ks.map encT) rfl (sat_op1 (sat_oOf (sat_bin (sat_oOf (pick_ok (i := 5) hb2 (by decide) (by decide) (ds := k0.map PyData.int) (bs := [(encT k0, none)]) (by simp [iSeq, oVar, itemsD, encT]) (fun _ => rfl) trivial fun b3 l hb3 hs => ?_))))))
  obtain ⟨ms, rfl, hms⟩ := sub_ints hs
  have hk0' := hk k0 hk0
  have ml : ms.length ≤ seen := Nat.le_trans hms.length_le hk0'.2.1
  have eR : eRg .list true (oVar 7) (oOf (eBin dAdd (oVar 7) (oVar 9))) [.ino b3, .val (.int m), .val (.int p), .own (.list (ks.map encT)), .non, .non, .non, .val (.int seen), .val (encT k0), .val (.int v), .non, .non, .non] =
      .ok (.list (((List.range v).map fun (i : Nat) => (seen : Int) + i).map PyData.int), true) [.ino b3, .val (.int m), .val (.int p), .own (.list (ks.map encT)), .non, .non, .non, .val (.int seen), .val (encT k0), .val (.int v), .non, .non, .non] := by
    have e1 : rgOk (seen : Int) (seen + v) = true := rgOk_small (by omega) (by omega) (by omega)
    have e2 : rgD (seen : Int) (seen + v) = ((List.range v).map fun (i : Nat) => (seen : Int) + i).map PyData.int := by
      unfold rgD
      rw [show ((seen : Int) + v - seen).toNat = v by omega, List.map_map]
      rfl
    rw [← e2]
    exact rg_ok (x := none) (y := none) (by simp only [oVar, List.getElem?_cons_succ, List.getElem?_cons_zero]) (by simp only [oOf, eBin, oVar, List.getElem?_cons_succ, List.getElem?_cons_zero, bind_ok, still_none, if_true, dAdd]) e1
  refine sat_oOf (Sat.of eR ?_)
  have ea : dAdd (.list (ms.map PyData.int)) (.list (((List.range v).map fun (i : Nat) => (seen : Int) + i).map PyData.int)) = some (.list ((ms ++ (List.range v).map fun (i : Nat) => (seen : Int) + i).map PyData.int), true) := by
    rw [List.map_append]
    refine if_pos ?_
    rw [List.length_map, List.length_map, List.length_map, List.length_range]
    exact Nat.le_trans (show ms.length + v ≤ 9 by omega) (by decide)
  refine ⟨rfl, _, ea, rfl, _, rfl, ks.map encT, rfl, by rw [List.length_map]; omega, ?_⟩
  simp only [List.set_cons_succ, List.set_cons_zero, next_nx]
  refine ssat_asg (sat_bin (sat_ovar rfl (sat_ovar rfl ⟨rfl, _, rfl, rfl, ?_⟩)))
  refine q b3 (seen + v) (ks ++ [ms ++ (List.range v).map fun (i : Nat) => (seen : Int) + i]) (.val (encT k0)) (.val (.int v)) _ hb3 (by omega) (by omega) (by omega) (by simp) (by simp; omega) ?_ trivial trivial ?_
  · intro k hkm
    rcases List.mem_append.mp hkm with hkm | hkm
    · have := hk k hkm
      exact ⟨this.1, by omega, fun c hc => by have := this.2.2 c hc; omega⟩
    · rw [List.mem_singleton.mp hkm]
      refine ⟨?_, ?_, fun c hc => ?_⟩
      · intro e
        have := congrArg List.length e
        simp at this
        omega
      · simp; omega
      · rcases List.mem_append.mp hc with hc | hc
        · have := hk0'.2.2 c (hms.subset hc); omega
        · obtain ⟨j, hj, rfl⟩ := List.mem_map.mp hc
          have := List.mem_range.mp hj
          omega
  · simp [encT, slotOf]
theorem edB_ok {m : Nat} {b : D} {p : Int} {w : Wp} (hm : 0 < m) (hm2 : m ≤ 9) (hb : Bx b) (q : ∀ ρ, ESt m 12 ρ → w.nx ρ) : SSat (edB [.ino b, .val (.int m), .val (.int p), .own (.list []), .non, .non, .non, .non, .non, .non, .non, .non, .non]) w := by
  unfold edB
  refine ssat_seq ?_
  have e0 : sParO 3 7 (eLst [(eTup [(eCon (.int 0))])]) (eCon (.int 1)) [.ino b, .val (.int m), .val (.int p), .own (.list []), .non, .non, .non, .non, .non, .non, .non, .non, .non] = .nx [.ino b, .val (.int m), .val (.int p), .own (.list ([[0]].map encT)), .non, .non, .non, .val (.int (1 : Nat)), .non, .non, .non, .non, .non] := rfl
  rw [e0]
  simp only [ssat_nx, next_nx]
  refine ssat_while (fun n ρ => ∃ (b : D) (ks : List (List Int)) (seen : Nat) (s8 s9 : Slot), Bx b ∧ 1 ≤ seen ∧ seen ≤ m ∧ ks ≠ [] ∧ ks.length ≤ 9 ∧ (∀ k ∈ ks, k ≠ [] ∧ k.length ≤ seen ∧ ∀ c ∈ k, 0 ≤ c ∧ c < (seen : Int)) ∧ quiet (some s8) ∧ quiet (some s9) ∧ n = m - seen ∧ ρ = [.ino b, .val (.int m), .val (.int p), .own (.list (ks.map encT)), .non, .non, .non, .val (.int seen), s8, s9, .non, .non, .non]) (m - 1) (Nat.lt_of_le_of_lt (show m - 1 ≤ 9 by omega) (by decide))
    ⟨b, [[0]], 1, .non, .non, hb, by omega, by omega, by simp, by simp, by simp, trivial, trivial, rfl, rfl⟩ ?_
  rintro n ρ ⟨b, ks, seen, s8, s9, hb, hs1, hs2, hn, hl, hk, h8, h9, rfl, rfl⟩
  have out : w.nx [.ino b, .val (.int m), .val (.int p), .own (.list (ks.map encT)), .non, .non, .non, .val (.int seen), s8, s9, .non, .non, .non] :=
    q _ ⟨b, p, ks, .non, .non, .non, _, _, _, _, hb, fun k h => ⟨(hk k h).1, by have := (hk k h).2.1; omega, fun c hc => by have := (hk k h).2.2 c hc; omega⟩, by omega, trivial, trivial, trivial, rfl⟩
  refine sat_and (sat_tval (sat_bin (sat_ovar rfl (sat_ovar rfl ⟨rfl, _, dLt_ii _ _, _, rfl, ?_⟩))))
  split
  · rename_i h
    have h : (seen : Int) < m := by simpa using h
    refine Sat.of (len_lt (E := .own (.list (ks.map encT))) rfl (.inr rfl)) ?_
    split
    · rename_i h2
      have h2 : (ks.length : Int) < 9 := by simpa using h2
      refine edBb_ok hm2 hb hs1 (by omega) hn (by omega) hk h8 h9 fun b' se ks' s8' s9' ρ' g1 g2 g3 g4 g5 g6 g7 g8 g9 g10 => ?_
      exact ⟨m - se, by omega, b', ks', se, s8', s9', g1, g3, g4, g5, g6, g7, g8, g9, rfl, g10⟩
    · exact out
  · simp only [Bool.false_eq_true, if_false]
    exact out
theorem edC_ok {m : Nat} {b : D} {p : Int} {w : Wp} (hm : 0 < m) (hm2 : m ≤ 9) (hb : Bx b) (q : ∀ ρ, ESt m 12 ρ → w.nx ρ) : SSat (edC [.ino b, .val (.int m), .val (.int p), .own (.list []), .non, .non, .non, .non, .non, .non, .non, .non, .non]) w := by
  unfold edC
  refine ssat_seq (asg10 (c := 3) (q := 7) hm hb (by decide) (by decide) (by decide) fun b' z hb' z1 z2 z3 => ?_)
  simp only [next_nx]
  refine ssat_asg ?_
  have hr := rng_var (ρ := [.ino b', .val (.int m), .val (.int p), .own (.list []), .non, .non, .non, .non, .non, .non, .val (.int z), .non, .non]) (i := 10) (n := z) rfl (by omega)
  have each : ∀ c : Nat, c < z → ∃ ms : List Int, eOps dTuple [(oOf (eOps dSorted [(oOf (eLst [(eVar 4), (eBin dMod (oOf (eBin dAdd (oVar 4) (oOf (eCon (.int 1))))) (oVar 10))]))]))] [.ino b', .val (.int m), .val (.int p), .own (.list []), .val (.int c), .non, .non, .non, .non, .non, .val (.int z), .non, .non] =
      .ok (encT ms, false) [.ino b', .val (.int m), .val (.int p), .own (.list []), .val (.int c), .non, .non, .non, .non, .non, .val (.int z), .non, .non] ∧ ms.length = 2 ∧ ∀ x ∈ ms, 0 ≤ x ∧ x < (m : Int) := by
    intro c hc
    obtain ⟨ms, e1, e2, e3⟩ := sort_only [(c : Int), ((c : Int) + 1).fmod z]
    have hz0 : (z : Int) ≠ 0 := by omega
    have e1' : dSorted [.list [.int c, .int (((c : Int) + 1).fmod z)]] = some (.list (ms.map PyData.int), true) := e1
    refine ⟨ms, ?_, e2, fun x hx => ?_⟩
    · simp only [eOps, oList, oOf, eLst, eList, eVar, eBin, oVar, eCon, List.getElem?_cons_succ, List.getElem?_cons_zero, bind_ok, still_none, if_true, dAdd, dMod, hz0, ne_eq, not_false_eq_true, stills, Bool.and_self, List.map_cons, List.map_nil, e1', dTuple, encT]
    · rcases List.mem_cons.mp (e3 x hx) with rfl | hx
      · omega
      · rw [List.mem_singleton.mp hx]
        have a1 := Int.fmod_nonneg (show (0 : Int) ≤ (c : Int) + 1 by omega) (show (0 : Int) ≤ (z : Int) by omega)
        have a2 := Int.fmod_lt_of_pos ((c : Int) + 1) (show (0 : Int) < (z : Int) by omega)
        omega
  let g : D → D × Bool := fun d => match d with
    | .int c => if h : c.toNat < z then (encT (each c.toNat h).choose, false) else (.none, false)
    | _ => (.none, false)
  have e := eComp_pure (i := 4) (it := iRange1 (oVar 10)) (tt := tVal (eBin dGt (oVar 10) (oOf (eCon (.int 1))))) (el := eOps dTuple [(oOf (eOps dSorted [(oOf (eLst [(eVar 4), (eBin dMod (oOf (eBin dAdd (oVar 4) (oOf (eCon (.int 1))))) (oVar 10))]))]))]) (ρ := [.ino b', .val (.int m), .val (.int p), .own (.list []), .non, .non, .non, .non, .non, .non, .val (.int z), .non, .non]) (fun _ => decide ((1 : Int) < z)) g hr trivial rfl
    (fun d hd => by simp [tVal, eBin, oVar, oOf, eCon])
    (fun d hd _ => by
      obtain ⟨c, rfl, hc⟩ := range_mem hd
      have := (each c hc).choose_spec.1
      simp only [List.set_cons_succ, List.set_cons_zero]
      rw [this]
      simp only [g, Int.toNat_natCast, dif_pos hc])
  refine Sat.of e ⟨rfl, ?_⟩
  have k0 : ∀ (ds : List D), (∀ d ∈ ds, ∃ c : Nat, d = .int c ∧ c < z) → ∃ ks : List (List Int), (ds.map fun d => (g d).1) = ks.map encT ∧ Ks m 9 ks ∧ ks.length = ds.length := by
    intro ds
    induction ds with
    | nil => exact fun _ => ⟨[], rfl, (fun k h => by cases h), rfl⟩
    | cons d ds ih =>
      intro h
      obtain ⟨ks, i1, i2, i3⟩ := ih fun d hd => h d (List.mem_cons_of_mem _ hd)
      obtain ⟨c, rfl, hc⟩ := h d (by simp)
      have s := (each c hc).choose_spec
      refine ⟨(each c hc).choose :: ks, ?_, fun k hk => ?_, by simp [i3]⟩
      · simp only [List.map_cons, i1, g, Int.toNat_natCast, dif_pos hc]
      · rcases List.mem_cons.mp hk with rfl | hk
        · exact ⟨(fun e => by have := s.2.1; rw [e] at this; cases this), (by rw [s.2.1]; decide), s.2.2⟩
        · exact i2 k hk
  obtain ⟨ks, i1, i2, i3⟩ := k0 ((rangeD 0 z).filter fun _ => decide ((1 : Int) < z)) fun d hd => range_mem (List.mem_filter.mp hd).1
  rw [i1]
  have hl : ks.length ≤ 9 := by
    rw [i3]
    exact Nat.le_trans (List.length_filter_le _ _) (by rw [range_len]; omega)
  exact q _ ⟨b', p, ks, .non, .non, .non, .non, .non, .non, .val (.int z), hb', i2, by omega, trivial, trivial, trivial, rfl⟩
theorem edD_ok {m : Nat} {b : D} {p : Int} {w : Wp} (hm : 0 < m) (hm2 : m ≤ 9) (hb : Bx b) (q : ∀ ρ, ESt m 12 ρ → w.nx ρ) : SSat (edD [.ino b, .val (.int m), .val (.int p), .own (.list []), .non, .non, .non, .non, .non, .non, .non, .non, .non]) w := by
  unfold edD
  refine ssat_seq (asg10 (c := 3) (q := 3) hm hb (by decide) (by decide) (by decide) fun b' z hb' z1 z2 z3 => ?_)
  simp only [next_nx]
  refine ssat_asg ?_
  have hr := rng_var (ρ := [.ino b', .val (.int m), .val (.int p), .own (.list []), .non, .non, .non, .non, .non, .non, .val (.int z), .non, .non]) (i := 10) (n := z) rfl (by omega)
  have each : ∀ c : Nat, c < z → eOps dTuple [(oOf (eComp [6] (iRange1 (oVar 10)) (.name 6) (tVal (eBin dNe (oVar 6) (oVar 4))) (eVar 6)))] [.ino b', .val (.int m), .val (.int p), .own (.list []), .val (.int c), .non, .non, .non, .non, .non, .val (.int z), .non, .non] =
      .ok (.tuple ((rangeD 0 z).filter fun d => !PyData.eqv d (.int c)), false) [.ino b', .val (.int m), .val (.int p), .own (.list []), .val (.int c), .non, .non, .non, .non, .non, .val (.int z), .non, .non] := by
    intro c hc
    have hr6 := rng_var (ρ := [.ino b', .val (.int m), .val (.int p), .own (.list []), .val (.int c), .non, .non, .non, .non, .non, .val (.int z), .non, .non]) (i := 10) (n := z) rfl (by omega)
    have e := eComp_pure (i := 6) (it := iRange1 (oVar 10)) (tt := tVal (eBin dNe (oVar 6) (oVar 4))) (el := eVar 6) (ρ := [.ino b', .val (.int m), .val (.int p), .own (.list []), .val (.int c), .non, .non, .non, .non, .non, .val (.int z), .non, .non]) (fun d => !PyData.eqv d (.int c)) (fun d => (d, false)) hr6 trivial rfl
      (fun d hd => by
        obtain ⟨k, rfl, _⟩ := range_mem hd
        simp [tVal, eBin, oVar, PyData.eqv]
        rfl)
      (fun d hd _ => by simp [eVar])
    simp only [eOps, oList, oOf, e, bind_ok, stills, still_none, Bool.and_self, if_true, List.map_cons, List.map_nil, dTuple, List.map_id']
  let g : D → D × Bool := fun d => (.tuple ((rangeD 0 z).filter fun x => !PyData.eqv x d), false)
  have e := eComp_pure (i := 4) (it := iRange1 (oVar 10)) (tt := tVal (eBin dGt (oVar 10) (oOf (eCon (.int 1))))) (el := eOps dTuple [(oOf (eComp [6] (iRange1 (oVar 10)) (.name 6) (tVal (eBin dNe (oVar 6) (oVar 4))) (eVar 6)))]) (ρ := [.ino b', .val (.int m), .val (.int p), .own (.list []), .non, .non, .non, .non, .non, .non, .val (.int z), .non, .non]) (fun _ => decide ((1 : Int) < z)) g hr trivial rfl
    (fun d hd => by simp [tVal, eBin, oVar, oOf, eCon])
    (fun d hd _ => by
      obtain ⟨c, rfl, hc⟩ := range_mem hd
      exact each c hc)
  refine Sat.of e ⟨rfl, ?_⟩
  have hk : ∃ ks : List (List Int), (((rangeD 0 z).filter fun _ => decide ((1 : Int) < z)).map fun d => (g d).1) = ks.map encT ∧ Ks m 9 ks ∧ ks.length ≤ 9 := by
    by_cases h1 : (1 : Int) < z
    · have k0 : ∀ (ds : List D), (∀ d ∈ ds, ∃ c : Nat, d = .int c ∧ c < z) → ∃ ks : List (List Int), (ds.map fun d => (g d).1) = ks.map encT ∧ Ks m 9 ks ∧ ks.length = ds.length := by
        intro ds
        induction ds with
        | nil => exact fun _ => ⟨[], rfl, (fun k h => by cases h), rfl⟩
        | cons d ds ih =>
          intro h
          obtain ⟨ks, i1, i2, i3⟩ := ih fun d hd => h d (List.mem_cons_of_mem _ hd)
          obtain ⟨c, rfl, hc⟩ := h d (by simp)
          obtain ⟨ms, e1, e2, e3⟩ := sub_range (l := (rangeD 0 z).filter fun x => !PyData.eqv x (.int c)) (n := z) List.filter_sublist
          refine ⟨ms :: ks, by simp only [List.map_cons, i1, g, e1, encT], fun k hk => ?_, by simp [i3]⟩
          rcases List.mem_cons.mp hk with rfl | hk
          · refine ⟨?_, by omega, fun x hx => by have := e3 x hx; omega⟩
            rintro rfl
            have : PyData.int (if c = 0 then (1 : Nat) else (0 : Nat) : Nat) ∈ ((rangeD 0 z).filter fun x => !PyData.eqv x (.int c)) := by
              refine List.mem_filter.mpr ⟨?_, ?_⟩
              · refine List.mem_map.mpr ⟨if c = 0 then 1 else 0, List.mem_range.mpr (by split <;> omega), by simp⟩
              · by_cases hc0 : c = 0
                · subst hc0; simp [PyData.eqv]
                · rw [if_neg hc0]; simp only [PyData.eqv]; simp; omega
            rw [e1] at this
            cases this
          · exact i2 k hk
      obtain ⟨ks, i1, i2, i3⟩ := k0 ((rangeD 0 z).filter fun _ => decide ((1 : Int) < z)) fun d hd => range_mem (List.mem_filter.mp hd).1
      refine ⟨ks, i1, i2, ?_⟩
      rw [i3]
      exact Nat.le_trans (List.length_filter_le _ _) (by rw [range_len]; omega)
    · rw [decide_eq_false h1]
      exact ⟨[], by simp, (fun k h => by cases h), by simp⟩
  obtain ⟨ks, i1, i2, i3⟩ := hk
  rw [i1]
  exact q _ ⟨b', p, ks, .non, .non, .non, .non, .non, .non, .val (.int z), hb', i2, by omega, trivial, trivial, trivial, rfl⟩
theorem edE_ok {m : Nat} {b : D} {p : Int} {w : Wp} (hm : 0 < m) (hm2 : m ≤ 9) (hb : Bx b) (q : ∀ ρ, ESt m 12 ρ → w.nx ρ) : SSat (edE [.ino b, .val (.int m), .val (.int p), .own (.list []), .non, .non, .non, .non, .non, .non, .non, .non, .non]) w := by
  unfold edE
  refine ssat_seq (asg10 (c := 2) (q := 3) hm hb (by decide) (by decide) (by decide) fun b' z hb' z1 z2 z3 => ?_)
  simp only [next_nx]
  refine ssat_forS ?_
  have hr := rng_var (ρ := [.ino b', .val (.int m), .val (.int p), .own (.list []), .non, .non, .non, .non, .non, .non, .val (.int z), .non, .non]) (i := 10) (n := z) rfl (by omega)
  refine Sat.of hr ⟨rfl, ?_⟩
  refine ssat_for (fun ds ρ => ∃ (ks : List (List Int)) (s4 : Slot), quiet (some s4) ∧ Ks m 9 ks ∧ (∀ d ∈ ds, ∃ c : Nat, d = .int c ∧ c < z) ∧ ks.length + 3 * ds.length ≤ 12 ∧ ρ = [.ino b', .val (.int m), .val (.int p), .own (.list (ks.map encT)), s4, .non, .non, .non, .non, .non, .val (.int z), .non, .non]) ?_ ?_ _ _ ⟨[], .non, trivial, (fun k h => by cases h), fun d hd => range_mem hd, by rw [range_len]; simp; omega, rfl⟩
  · rintro d ds ρ ⟨ks, s4, h4, hk, hd, hl, rfl⟩
    refine ⟨rfl, _, bind_q h4, ?_⟩
    obtain ⟨c, rfl, hc⟩ := hd d (by simp)
    simp only [List.set_cons_succ, List.set_cons_zero, List.length_cons] at hl ⊢
    refine ssat_asg (sat_bin (sat_oown rfl (sat_oOf ?_)))
    have hr4 := rng_var (ρ := [.ino b', .val (.int m), .val (.int p), .own (.list (ks.map encT)), .val (.int c), .non, .non, .non, .non, .non, .val (.int z), .non, .non]) (i := 4) (n := c) rfl (by omega)
    have e := eComp_map (i := 6) (it := iRange1 (oVar 4)) (el := eTup [(eVar 6), (eVar 4)]) (ρ := [.ino b', .val (.int m), .val (.int p), .own (.list (ks.map encT)), .val (.int c), .non, .non, .non, .non, .non, .val (.int z), .non, .non]) (fun d => (.tuple [d, .int c], false)) hr4 trivial rfl (fun d hd => by simp [eTup, eList, eVar])
    refine Sat.of e ?_
    have e2 : ((rangeD 0 c).map fun d => ((PyData.tuple [d, .int c], false) : D × Bool).1) = ((List.range c).map fun (i : Nat) => [(i : Int), (c : Int)]).map encT := by
      simp [rangeD, encT]
    rw [e2]
    have ea : dAdd (.list (ks.map encT)) (.list (((List.range c).map fun (i : Nat) => [(i : Int), (c : Int)]).map encT)) = some (.list ((ks ++ (List.range c).map fun (i : Nat) => [(i : Int), (c : Int)]).map encT), true) := by
      rw [List.map_append]
      refine if_pos ?_
      rw [List.length_map, List.length_map, List.length_map, List.length_range]
      exact Nat.le_trans (show ks.length + c ≤ 20 by omega) (by decide)
    refine ⟨by simp [still], _, ea, rfl, ks ++ (List.range c).map (fun (i : Nat) => [(i : Int), (c : Int)]), .val (.int c), trivial, fun k h => ?_, fun d h => hd d (List.mem_cons_of_mem _ h), ?_, rfl⟩
    · rcases List.mem_append.mp h with h | h
      · exact hk k h
      · obtain ⟨i, hi, rfl⟩ := List.mem_map.mp h
        have := List.mem_range.mp hi
        exact ⟨by simp, by simp, by simp; omega⟩
    · simp; omega
  · rintro ρ ⟨ks, s4, h4, hk, hd, hl, rfl⟩
    exact ⟨rfl, q _ ⟨b', p, ks, s4, .non, .non, .non, .non, .non, .val (.int z), hb', hk, by simp at hl; omega, h4, trivial, trivial, rfl⟩⟩
end Ow

namespace Ow
open PySem PyProof.Rows PySem.Spec L2
theorem edF_ok {m : Nat} {ρ : AE} {w : Wp} (hm : 0 < m) (hm2 : m ≤ 9) (h : ESt m 12 ρ) (q : ∀ ρ, ESt m 14 ρ → w.nx ρ) : SSat (edF ρ) w := by
  obtain ⟨b, p, ks, s4, s5, s6, s7, s8, s9, s10, hb, hk, hl, h4, h5, h6, rfl⟩ := h
  unfold edF
  refine ssat_forS (sat_rg1 (sat_oOf (sat_draw0 (m := 3) (fl := false) hb rfl (by decide) (by decide) fun n b' h0 h1 hb' => ?_)))
  refine ⟨n, rfl, by omega, by omega, rfl, ?_⟩
  have hlen : (rangeD 0 n.toNat).length ≤ 2 := by rw [range_len]; omega
  refine ssat_for (fun ds ρ => ∃ b ks s4 s5 s6, Bx b ∧ Ks m 9 ks ∧ ks.length + ds.length ≤ 14 ∧ quiet (some s4) ∧ quiet (some s5) ∧ quiet (some s6) ∧ ρ = [.ino b, .val (.int m), .val (.int p), .own (.list (ks.map encT)), s4, s5, s6, s7, s8, s9, s10, .non, .non]) ?_ ?_ _ _ ⟨b', ks, s4, s5, s6, hb', hk, (by show _ + (rangeD 0 n.toNat).length ≤ _; omega), h4, h5, h6, rfl⟩
  · rintro d ds ρ ⟨b, ks, s4, s5, s6, hb, hk, hl, h4, h5, h6, rfl⟩
    refine ⟨rfl, _, bind_q h4, ?_⟩
    simp only [List.set_cons_succ, List.set_cons_zero]
    refine ssat_seq (pick5 hb hm2 h5 h6 fun b1 ns hb1 hn1 hn2 => ?_)
    simp only [next_nx, List.length_cons] at hl ⊢
    refine ssat_asg (sat_bin (sat_oown rfl (sat_oOf (sat_ite ?_))))
    refine Sat.of (len5 (ns := ns) rfl) ?_
    split
    · rename_i hz
      have hz : (0 : Int) < ns.length := by simpa using hz
      refine sat_lst (sat_el (sat_var rfl (sat_el_nil ?_)))
      have ea : dAdd (.list (ks.map encT)) (.list [encT ns]) = some (.list ((ks ++ [ns]).map encT), true) := by
        rw [List.map_append]
        refine if_pos ?_
        rw [List.length_map]
        exact Nat.le_trans (show ks.length + (0 + 1) ≤ 20 by omega) (by decide)
      refine ⟨by simp [still], _, ea, rfl, b1, ks ++ [ns], .val d, .val (encT ns), s6, hb1, hk.app (by rintro rfl; simp at hz) (by omega) hn2, by simp; omega, trivial, trivial, h6, rfl⟩
    · refine sat_lst (sat_el_nil ?_)
      have ea : dAdd (.list (ks.map encT)) (.list []) = some (.list (ks.map encT), true) := by
        have : dAdd (.list (ks.map encT)) (.list []) = some (.list (ks.map encT ++ []), true) := by
          refine if_pos ?_
          rw [List.length_map]
          exact Nat.le_trans (show ks.length + 0 ≤ 20 by omega) (by decide)
        rw [this, List.append_nil]
      refine ⟨by simp [still], _, ea, rfl, b1, ks, .val d, .val (encT ns), s6, hb1, hk, by omega, trivial, trivial, h6, rfl⟩
  · rintro ρ ⟨b, ks, s4, s5, s6, hb, hk, hl, h4, h5, h6, rfl⟩
    exact ⟨rfl, q _ ⟨b, p, ks, s4, s5, s6, _, _, _, _, hb, hk, by simp at hl; omega, h4, h5, h6, rfl⟩⟩
theorem setD_ints {ts : List Int} {k : Nat} {v : Int} (hk : k < ts.length) : setD (.int k) (.int v) (ts.map PyData.int) = some ((ts.set k v).map PyData.int) := by
  have : ixN ts.length (k : Int) = some k := by simp [ixN, hk]
  simp [setD, this]
theorem at_ints {ts : List Int} {k : Nat} (hk : k < ts.length) : dIx (.list (ts.map PyData.int)) (.int k) = some (.int ts[k], false) := by
  have e : atI ts (k : Int) = some ts[k] := by
    have : ixN ts.length (k : Int) = some k := by simp [ixN, hk]
    simp [atI, this, hk]
  simp [dIx, atI_map, e]
theorem set_mem {P : Int → Prop} {ts : List Int} {k : Nat} {v : Int} (h : ∀ c ∈ ts, P c) (hv : P v) : ∀ c ∈ ts.set k v, P c := fun c hc => by
  rcases List.mem_or_eq_of_mem_set hc with h1 | h1
  · exact h c h1
  · rw [h1]; exact hv
/-- the columns, turned -/
def HSt (m : Nat) (ρ : AE) : Prop := ∃ (b : D) (p : Int) (ks : List (List Int)) (ts : List Int) (s4 s5 s6 s7 s8 s9 s10 s12 : Slot), Bx b ∧ Ks m 9 ks ∧ ks.length ≤ 14 ∧ ts.length = m ∧ (∀ c ∈ ts, 0 ≤ c ∧ c < (m : Int)) ∧ quiet (some s4) ∧ quiet (some s5) ∧ quiet (some s6) ∧ quiet (some s12) ∧ ρ = [.ino b, .val (.int m), .val (.int p), .own (.list (ks.map encT)), s4, s5, s6, s7, s8, s9, s10, .own (.list (ts.map PyData.int)), s12]
theorem swap_ok {w : Wp} {m : Nat} {k j : Nat} {ts : List Int} {s0 s1 s2 s3 s5 s6 s7 s8 s9 s10 : Slot} (hk : k < ts.length) (hj : j < ts.length)
    (q : w.nx [s0, s1, s2, s3, .val (.int k), s5, s6, s7, s8, s9, s10, .own (.list (((ts.set k ts[j]).set j ts[k]).map PyData.int)), .val (.int j)]) :
    SSat (sSub2 11 (oVar 4) 11 (oVar 12) (eTup [(eBin dIx (oVar 11) (oVar 12)), (eBin dIx (oVar 11) (oVar 4))]) [s0, s1, s2, s3, .val (.int k), s5, s6, s7, s8, s9, s10, .own (.list (ts.map PyData.int)), .val (.int j)]) w := by
  have e : eTup [(eBin dIx (oVar 11) (oVar 12)), (eBin dIx (oVar 11) (oVar 4))] [s0, s1, s2, s3, .val (.int k), s5, s6, s7, s8, s9, s10, .own (.list (ts.map PyData.int)), .val (.int j)] = .ok (.tuple [.int ts[j], .int ts[k]], false) [s0, s1, s2, s3, .val (.int k), s5, s6, s7, s8, s9, s10, .own (.list (ts.map PyData.int)), .val (.int j)] := by
    simp only [eTup, eList, eBin, oVar, List.getElem?_cons_succ, List.getElem?_cons_zero, bind_ok, still, decide_true, if_true, at_ints hj, at_ints hk]
  have s1 := setD_ints (ts := ts) (v := ts[j]) hk
  have s2 := setD_ints (ts := ts.set k ts[j]) (k := j) (v := ts[k]) (by rw [List.length_set]; exact hj)
  unfold sSub2
  rw [e]
  simp only [sb_ok, stSub, isOwnL, putL, oVar, List.getElem?_cons_succ, List.getElem?_cons_zero, bind_ok, if_true, s1, s2, Option.map_some, List.set_cons_succ, List.set_cons_zero, ssat_nx]
  exact q
theorem edH_ok {m : Nat} {ρ : AE} {w : Wp} (hm : 0 < m) (hm2 : m ≤ 9) (h : HSt m ρ) (q : ∀ ρ, HSt m ρ → w.nx ρ) : SSat (edH ρ) w := by
  obtain ⟨b, p, ks, ts, s4, s5, s6, s7, s8, s9, s10, s12, hb, hk, hl, ht, ht2, h4, h5, h6, h12, rfl⟩ := h
  unfold edH
  refine ssat_forS (Sat.of (rng_var rfl (show m < 64 by omega)) ⟨rfl, ?_⟩)
  refine ssat_for (fun ds ρ => ∃ b ts s4 s12, Bx b ∧ ts.length = m ∧ (∀ c ∈ ts, 0 ≤ c ∧ c < (m : Int)) ∧ (∀ d ∈ ds, ∃ c : Nat, d = .int c ∧ c < m) ∧ quiet (some s4) ∧ quiet (some s12) ∧ ρ = [.ino b, .val (.int m), .val (.int p), .own (.list (ks.map encT)), s4, s5, s6, s7, s8, s9, s10, .own (.list (ts.map PyData.int)), s12]) ?_ ?_ _ _ ⟨b, ts, s4, s12, hb, ht, ht2, fun d hd => range_mem hd, h4, h12, rfl⟩
  · rintro d ds ρ ⟨b, ts, s4, s12, hb, ht, ht2, hd, h4, h12, rfl⟩
    refine ⟨rfl, _, bind_q h4, ?_⟩
    obtain ⟨c, rfl, hc⟩ := hd d (by simp)
    simp only [List.set_cons_succ, List.set_cons_zero]
    refine ssat_seq (ssat_asg (sat_bin (sat_ovar rfl (sat_oOf (sat_draw0 (m := (m : Int) - c) (fl := false) hb ?_ (by omega) (by omega) fun n b' h0 h1 hb' => ?_)))))
    · simp only [eBin, oVar, List.getElem?_cons_succ, List.getElem?_cons_zero, bind_ok, still_none, if_true, dSub]
    · obtain ⟨j, hj, hj2⟩ : ∃ j : Nat, (c : Int) + n = j ∧ j < m := ⟨((c : Int) + n).toNat, by omega, by omega⟩
      have ea : dAdd (.int c) (.int n) = some (.int j, false) := by rw [← hj]; rfl
      refine ⟨rfl, _, ea, quiet_no h12, ?_⟩
      simp only [slotOf, Bool.false_and, Bool.false_eq_true, if_false, List.set_cons_succ, List.set_cons_zero, next_nx]
      refine swap_ok (m := m) (by omega) (by omega) ?_
      have m1 := ht2 _ (List.getElem_mem (show j < ts.length by omega))
      have m2 := ht2 _ (List.getElem_mem (show c < ts.length by omega))
      exact ⟨b', _, .val (.int c), .val (.int j), hb', by rw [List.length_set, List.length_set]; exact ht, set_mem (P := fun c => 0 ≤ c ∧ c < (m : Int)) (set_mem (P := fun c => 0 ≤ c ∧ c < (m : Int)) ht2 m1) m2, fun d h => hd d (List.mem_cons_of_mem _ h), trivial, trivial, rfl⟩
  · rintro ρ ⟨b, ts, s4, s12, hb, ht, ht2, hd, h4, h12, rfl⟩
    exact ⟨rfl, q _ ⟨b, p, ks, ts, s4, s5, s6, s7, s8, s9, s10, s12, hb, hk, hl, ht, ht2, h4, h5, h6, h12, rfl⟩⟩
theorem all_mapP {α : Type} {f : α → D} {P : α → Prop} {m : List D} (h : ∀ d ∈ m, ∃ a, d = f a ∧ P a) : ∃ as : List α, m = as.map f ∧ (∀ a ∈ as, P a) ∧ as.length = m.length := by
  induction m with
  | nil => exact ⟨[], rfl, (fun a h => by cases h), rfl⟩
  | cons d m ih =>
    obtain ⟨a, rfl, ha⟩ := h d (by simp)
    obtain ⟨as, rfl, has, _⟩ := ih fun d hd => h d (List.mem_cons_of_mem _ hd)
    refine ⟨a :: as, rfl, fun x hx => ?_, by simp⟩
    rcases List.mem_cons.mp hx with rfl | hx
    · exact ha
    · exact has x hx
theorem comp_map {i : Nat} {it : EvI} {el : EvE} {bs : Src} {ρ : AE} {ds : List D} (R : D → D → Prop) (hi : it ρ = .ok (ds, bs) ρ) (h : quiet ρ[i]?) (hs : stills bs (ρ.set i .non) = true)
    (he : ∀ d ∈ ds, ∃ d', (∃ fl, el (ρ.set i (.val d)) = .ok (d', fl) (ρ.set i (.val d))) ∧ R d d') :
    ∃ ds', eComp [i] it (.name i) tTrue el ρ = .ok (.list ds', true) ρ ∧ ds'.length = ds.length ∧ ∀ d' ∈ ds', ∃ d ∈ ds, R d d' := by
  have hg : ∃ g : D → D × Bool, ∀ d ∈ ds, el (ρ.set i (.val d)) = .ok (g d) (ρ.set i (.val d)) ∧ R d (g d).1 :=
    ⟨fun d => if hd : d ∈ ds then ((he d hd).choose, (he d hd).choose_spec.1.choose) else (.none, false), fun d hd => by
      simp only [dif_pos hd]
      exact ⟨(he d hd).choose_spec.1.choose_spec, (he d hd).choose_spec.2⟩⟩
  obtain ⟨g, hg⟩ := hg
  refine ⟨_, eComp_map g hi h hs fun d hd => (hg d hd).1, by simp, fun d' hd' => ?_⟩
  obtain ⟨d, hd, rfl⟩ := List.mem_map.mp hd'
  exact ⟨d, hd, (hg d hd).2⟩
/-- the edges as they are told -/
def OutE (m : Nat) (r : D) : Prop := ∃ ms : List (List Int), r = .tuple (ms.map encT) ∧ Ks m 18 ms ∧ ms ≠ [] ∧ ms.length ≤ 10
theorem edI_ok {m : Nat} {ρ : AE} {w : Wp} (hm : 0 < m) (hm2 : m ≤ 9) (h : HSt m ρ) (q : ∀ r b ρ, OutE m r → Bx b → ρ[0]? = some (.ino b) → ρ[1]? = some (.val (.int m)) → w.rt r false ρ) : SSat (edI ρ) w := by
  obtain ⟨b, p, ks, ts, s4, s5, s6, s7, s8, s9, s10, s12, hb, hk, hl, ht, ht2, h4, h5, h6, h12, rfl⟩ := h
  unfold edI
  have each : ∀ k : List Int, (k ≠ [] ∧ k.length ≤ 9 ∧ ∀ c ∈ k, 0 ≤ c ∧ c < (m : Int)) → ∃ ms : List Int, eOps dTuple [(oOf (eOps dSorted [(oOf (eComp [6] (iSeq (oVar 5)) (.name 6) tTrue (eBin dIx (oVar 11) (oVar 6))))]))] [.ino b, .val (.int m), .val (.int p), .own (.list (ks.map encT)), s4, .val (encT k), s6, s7, s8, s9, s10, .own (.list (ts.map PyData.int)), s12] =
      .ok (encT ms, false) [.ino b, .val (.int m), .val (.int p), .own (.list (ks.map encT)), s4, .val (encT k), s6, s7, s8, s9, s10, .own (.list (ts.map PyData.int)), s12] ∧ (ms ≠ [] ∧ ms.length ≤ 9 ∧ ∀ c ∈ ms, 0 ≤ c ∧ c < (m : Int)) := by
    rintro k ⟨k1, k2, k3⟩
    obtain ⟨ds', e, e2, e3⟩ := comp_map (i := 6) (it := iSeq (oVar 5)) (el := eBin dIx (oVar 11) (oVar 6)) (ρ := [.ino b, .val (.int m), .val (.int p), .own (.list (ks.map encT)), s4, .val (encT k), s6, s7, s8, s9, s10, .own (.list (ts.map PyData.int)), s12]) (ds := k.map PyData.int) (bs := [(encT k, none)])
      (fun _ d => ∃ x : Int, d = .int x ∧ (0 ≤ x ∧ x < (m : Int))) (by simp [iSeq, oVar, itemsD, encT]) h6 rfl (fun d hd => by
        obtain ⟨c, hc, rfl⟩ := List.mem_map.mp hd
        have := k3 c hc
        obtain ⟨n, rfl⟩ : ∃ n : Nat, c = n := ⟨c.toNat, by omega⟩
        have hn : n < ts.length := by omega
        refine ⟨.int ts[n], ⟨false, ?_⟩, ts[n], rfl, ht2 _ (List.getElem_mem hn)⟩
        simp only [eBin, oVar, List.set_cons_succ, List.set_cons_zero, List.getElem?_cons_succ, List.getElem?_cons_zero, bind_ok, still, decide_true, if_true, at_ints hn])
    obtain ⟨xs, rfl, x1, x2⟩ := all_mapP (f := PyData.int) (P := fun x => 0 ≤ x ∧ x < (m : Int)) (m := ds') fun d hd => by
      obtain ⟨d0, _, x, h1, h2⟩ := e3 d hd
      exact ⟨x, h1, h2⟩
    rw [List.length_map] at e2
    obtain ⟨ms, e4, e5, e6⟩ := sort_only xs
    refine ⟨ms, ?_, ?_, ?_, fun c hc => x1 c (e6 c hc)⟩
    · simp only [eOps, oList, oOf, e, bind_ok, stills, still_none, Bool.and_self, if_true, List.map_cons, List.map_nil, e4, dTuple]
      rfl
    · rintro rfl
      rw [List.length_map] at e2
      have : k.length = 0 := by simp at e5; omega
      exact k1 (List.length_eq_zero_iff.mp this)
    · rw [List.length_map] at e2; omega
  obtain ⟨ds', e, e2, e3⟩ := comp_map (i := 5) (it := iSeq (oVar 3)) (el := eOps dTuple [(oOf (eOps dSorted [(oOf (eComp [6] (iSeq (oVar 5)) (.name 6) tTrue (eBin dIx (oVar 11) (oVar 6))))]))]) (ρ := [.ino b, .val (.int m), .val (.int p), .own (.list (ks.map encT)), s4, s5, s6, s7, s8, s9, s10, .own (.list (ts.map PyData.int)), s12]) (ds := ks.map encT) (bs := [(.list (ks.map encT), some 3)])
    (fun _ d => ∃ ms : List Int, d = encT ms ∧ (ms ≠ [] ∧ ms.length ≤ 9 ∧ ∀ c ∈ ms, 0 ≤ c ∧ c < (m : Int))) (by simp [iSeq, oVar, itemsD]) h5 (by simp [stills, still]) (fun d hd => by
      obtain ⟨k, hkm, rfl⟩ := List.mem_map.mp hd
      obtain ⟨ms, h1, h2⟩ := each k (hk k hkm)
      exact ⟨encT ms, ⟨false, h1⟩, ms, rfl, h2⟩)
  obtain ⟨ks', rfl, k1, k2⟩ := all_mapP (f := encT) (P := fun ms => ms ≠ [] ∧ ms.length ≤ 9 ∧ ∀ c ∈ ms, 0 ≤ c ∧ c < (m : Int)) (m := ds') fun d hd => by
    obtain ⟨d0, _, ms, h1, h2⟩ := e3 d hd
    exact ⟨ms, h1, h2⟩
  rw [List.length_map, List.length_map] at e2
  refine ssat_ret (sat_callV (evArgs_val (sat_var (d := .int m) rfl (evArgs_val (Sat.of e ?_)))))
  simp only [evArgs, sat_ok]
  refine ⟨by simp, ?_⟩
  refine (ordered_ok (m := m) (ks := ks') hm hm2 k1 (by omega)).imp (fun r fl outs h => ?_) fun _ h => h
  obtain ⟨h1, h2⟩ := h
  rw [h1]
  exact q r b _ h2 hb rfl rfl
theorem edges_rest {m : Nat} {w : Wp} (hm : 0 < m) (hm2 : m ≤ 9) (q : ∀ r b ρ, OutE m r → Bx b → ρ[0]? = some (.ino b) → ρ[1]? = some (.val (.int m)) → w.rt r false ρ) (ρ : AE) (h : ESt m 12 ρ) :
    SSat ((sSeq edF (sSeq (sAsg 11 (eRg1 .list true (oVar 1))) (sSeq edH edI))) ρ) w := by
  refine ssat_seq (edF_ok hm hm2 h fun ρ h => ?_)
  simp only [next_nx]
  obtain ⟨b, p, ks, s4, s5, s6, s7, s8, s9, s10, hb, hk, hl, h4, h5, h6, rfl⟩ := h
  refine ssat_seq (ssat_asg ?_)
  have e := rg1_ok (mk := .list) (fl := true) (f := oVar 1) (y := none) (ρ := [.ino b, .val (.int m), .val (.int p), .own (.list (ks.map encT)), s4, s5, s6, s7, s8, s9, s10, .non, .non]) (b := m) rfl (rgOk_small (by decide) (by omega) (by omega))
  refine Sat.of e ⟨rfl, ?_⟩
  simp only [slotOf, isMut, Bool.and_self, if_true, List.set_cons_succ, List.set_cons_zero, next_nx]
  have er : rgD 0 m = ((List.range m).map fun (i : Nat) => (i : Int)).map PyData.int := by
    simp [rgD]
  rw [er]
  refine ssat_seq (edH_ok hm hm2 ⟨b, p, ks, _, s4, s5, s6, s7, s8, s9, s10, .non, hb, hk, hl, by simp, ?_, h4, h5, h6, trivial, rfl⟩ fun ρ h => ?_)
  · intro c hc
    obtain ⟨i, hi, rfl⟩ := List.mem_map.mp hc
    have := List.mem_range.mp hi
    omega
  · simp only [next_nx]
    exact edI_ok hm hm2 h q
theorem edges_fn {m : Nat} {b : D} (hm : 0 < m) (hm2 : m ≤ 9) (hb : Bx b) : FSat (_law_edges_S [b, .int m]) (fun r fl outs => fl = false ∧ OutE m r ∧ ∃ b', Bx b' ∧ outs = [b', .none]) (fun _ => False) := by
  refine fsat_run rfl ?_
  show SSat (_law_edges_F [.ino b, .val (.int m), .non, .non, .non, .non, .non, .non, .non, .non, .non, .non, .non]) _
  rw [edges_split]
  refine ssat_seq (ssat_asg (sat_draw0 (m := 6) (fl := false) hb rfl (by decide) (by decide) fun p b' h0 h1 hb' => ⟨rfl, ?_⟩))
  simp only [slotOf, Bool.false_and, Bool.false_eq_true, if_false, List.set_cons_succ, List.set_cons_zero, next_nx]
  refine ssat_seq (ssat_asg (sat_lst (sat_el_nil ⟨rfl, ?_⟩)))
  simp only [slotOf, isMut, Bool.and_self, if_true, List.set_cons_succ, List.set_cons_zero, next_nx]
  have qf : ∀ r b (ρ : AE), OutE m r → Bx b → ρ[0]? = some (.ino b) → ρ[1]? = some (.val (.int m)) → (inoStill [true, false] ρ = true ∧ (false = false ∧ OutE m r ∧ ∃ b', Bx b' ∧ outsOf [true, false] ρ = [b', .none])) := fun r b ρ h1 h2 h3 h4 =>
    ⟨by simp [inoStill, List.range_succ, h3, isIno], rfl, h1, b, h2, by simp [outsOf, List.range_succ, h3, h4, inoD]⟩
  have c1 : ∀ k : Int, tVal (eBin dEq (oVar 2) (oOf (eCon (.int k)))) [.ino b', .val (.int m), .val (.int p), .own (.list []), .non, .non, .non, .non, .non, .non, .non, .non, .non] = .ok (decide (p = k)) [.ino b', .val (.int m), .val (.int p), .own (.list []), .non, .non, .non, .non, .non, .non, .non, .non, .non] := fun k => by
    simp only [tVal, eBin, oVar, oOf, eCon, List.getElem?_cons_succ, List.getElem?_cons_zero, bind_ok, still_none, if_true, dEq_ii]
  have c2 : ∀ k : Int, tVal (eBin dLt (oVar 2) (oOf (eCon (.int k)))) [.ino b', .val (.int m), .val (.int p), .own (.list []), .non, .non, .non, .non, .non, .non, .non, .non, .non] = .ok (decide (p < k)) [.ino b', .val (.int m), .val (.int p), .own (.list []), .non, .non, .non, .non, .non, .non, .non, .non, .non] := fun k => by
    simp only [tVal, eBin, oVar, oOf, eCon, List.getElem?_cons_succ, List.getElem?_cons_zero, bind_ok, still_none, if_true, dLt_ii]
  refine ssat_seq (ssat_if (Sat.of (c1 0) ?_))
  split
  · exact edA_ok hm hm2 hb' fun ρ h => edges_rest hm hm2 qf ρ h
  · refine ssat_if (Sat.of (c2 3) ?_)
    split
    · exact edB_ok hm hm2 hb' fun ρ h => edges_rest hm hm2 qf ρ h
    · refine ssat_if (Sat.of (c1 3) ?_)
      split
      · exact edC_ok hm hm2 hb' fun ρ h => edges_rest hm hm2 qf ρ h
      · refine ssat_if (Sat.of (c1 4) ?_)
        split
        · exact edD_ok hm hm2 hb' fun ρ h => edges_rest hm hm2 qf ρ h
        · exact edE_ok hm hm2 hb' fun ρ h => edges_rest hm hm2 qf ρ h
end Ow

namespace Ow
open PySem PyProof.Rows PySem.Spec L2
theorem nx_in {ρ : AE} {P : AE → Prop} {w : Wp} (h : P ρ) : SSat (SR.nx ρ) (w.next P) := h
/-- a schema as it is drawn -/
def SchO (r : D) : Prop := ∃ (vs : List Int) (e : D), r = .tuple [.tuple (vs.map PyData.int), e] ∧ 0 < vs.length ∧ vs.length ≤ 9 ∧ OutE vs.length e ∧ ∀ v ∈ vs, 1 ≤ v ∧ v ≤ 4
def scW : StF := (sWhile (tVal (eBin dGt (oVar 6) (oVar 4))) (sAsg 6 (eBin dSub (oVar 6) (oOf (eCon (.int 1))))))
theorem scW_ok {w : Wp} {s0 s1 s2 s3 s5 : Slot} {v : Nat} {room : Int} (h1 : 1 ≤ v) (h2 : v ≤ 4) (hr : 1 ≤ room) (q : ∀ v : Nat, 1 ≤ v → v ≤ 4 → (v : Int) ≤ room → w.nx [s0, s1, s2, s3, .val (.int room), s5, .val (.int v)]) :
    SSat (scW [s0, s1, s2, s3, .val (.int room), s5, .val (.int v)]) w := by
  unfold scW
  refine ssat_while (fun n ρ => ∃ v : Nat, 1 ≤ v ∧ v ≤ 4 ∧ n = v ∧ ρ = [s0, s1, s2, s3, .val (.int room), s5, .val (.int v)]) v (Nat.lt_of_le_of_lt h2 (by decide)) ⟨v, h1, h2, rfl, rfl⟩ ?_
  rintro n ρ ⟨v, h1, h2, en, rfl⟩
  refine sat_tval (sat_bin (sat_ovar rfl (sat_ovar rfl ⟨rfl, _, dGt_ii _ _, _, rfl, ?_⟩)))
  split
  · rename_i h
    have h : room < (v : Int) := by simpa using h
    refine ssat_asg (sat_bin (sat_ovar rfl (sat_oOf (sat_con ⟨rfl, _, rfl, rfl, ?_⟩))))
    have e : (v : Int) - 1 = ((v - 1 : Nat) : Int) := by omega
    simp only [e, slotOf, Bool.false_and, Bool.false_eq_true, if_false, List.set_cons_succ, List.set_cons_zero, next_nx]
    exact ⟨v - 1, by omega, v - 1, by omega, by omega, rfl, rfl⟩
  · rename_i h
    have h : (v : Int) ≤ room := by simpa using h
    exact q v h1 h2 h
theorem div_ok {room : Int} {v : Nat} (hr : 1 ≤ room) (hr2 : room ≤ 1000) (h1 : 1 ≤ v) (h2 : v ≤ 4) (h : (v : Int) ≤ room) : ∃ r : Int, dDiv (.int room) (.int v) = some (.int r, false) ∧ 1 ≤ r ∧ r ≤ 1000 := by
  have hl : (v : Int).natAbs.log2 < 9000 := by
    rw [Int.natAbs_natCast, Nat.log2_lt (by omega)]
    calc v < 2 ^ 3 := by omega
      _ ≤ 2 ^ 9000 := Nat.pow_le_pow_right (by decide) (by decide)
  refine ⟨room.fdiv v, if_pos ⟨by omega, hl⟩, ?_, ?_⟩
  · rw [Int.fdiv_eq_ediv_of_nonneg _ (by omega)]
    exact (Int.le_ediv_iff_mul_le (by omega)).mpr (by omega)
  · rw [Int.fdiv_eq_ediv_of_nonneg _ (by omega)]
    exact Int.le_trans (Int.ediv_le_self _ (by omega)) hr2
theorem pick_v {n : Int} (h0 : 0 ≤ n) (h1 : n < 7) : ∃ v : Nat, dIx (.list [.int 2, .int 2, .int 2, .int 3, .int 2, .int 1, .int 4]) (.int n) = some (.int v, false) ∧ 1 ≤ v ∧ v ≤ 4 := by
  obtain ⟨v, e, hv⟩ := atI_lt (l := [2, 2, 2, 3, 2, 1, (4 : Nat)]) h0 h1
  have e2 := atI_map (fun v : Nat => PyData.int v) [2, 2, 2, 3, 2, 1, (4 : Nat)] n
  rw [e] at e2
  refine ⟨v, ?_, ?_⟩
  · show (atI ([2, 2, 2, 3, 2, 1, (4 : Nat)].map fun v : Nat => PyData.int v) n).map (fun d => (d, false)) = _
    rw [e2]; rfl
  · simp at hv
    omega
def scB : StF := (sSeq (sAsg 6 (eBin dIx (oOf (eLst [(eCon (.int 2)), (eCon (.int 2)), (eCon (.int 2)), (eCon (.int 3)), (eCon (.int 2)), (eCon (.int 1)), (eCon (.int 4))])) (oOf (eCall _law_draw_S [.ref 0, .val (eCon (.int 7))])))) (sSeq scW (sSeq (sApp 3 (eVar 6)) (sAsg 4 (eBin dDiv (oVar 4) (oVar 6))))))
theorem schema_split : _law_schema_F = (sSeq (sAsg 2 (eBin dAdd (oOf (eCon (.int 1))) (oOf (eCall _law_draw_S [.ref 0, .val (eCon (.int 9))])))) (sSeq (sParO 3 4 (eLst []) (eVar 1)) (sSeq (sFor [0, 1, 2, 3, 4, 5, 6] (iRange1 (oVar 2)) (.name 5) scB) (sRet (eTup [(eOps dTuple [(oVar 3)]), (eCall _law_edges_S [.ref 0, .val (eVar 2)])]))))) := rfl
theorem scB_ok {w : Wp} {b : D} {room : Int} {vs : List Int} {s1 s2 s5 s6 : Slot} (hb : Bx b) (hr : 1 ≤ room) (hr2 : room ≤ 1000) (hl : vs.length ≤ 20) (h6 : quiet (some s6))
    (q : ∀ (b : D) (room v : Int), Bx b → 1 ≤ room → room ≤ 1000 → 1 ≤ v → v ≤ 4 → w.nx [.ino b, s1, s2, .own (.list ((vs ++ [v]).map PyData.int)), .val (.int room), s5, .val (.int v)]) :
    SSat (scB [.ino b, s1, s2, .own (.list (vs.map PyData.int)), .val (.int room), s5, s6]) w := by
  unfold scB
  have el : eLst [(eCon (.int 2)), (eCon (.int 2)), (eCon (.int 2)), (eCon (.int 3)), (eCon (.int 2)), (eCon (.int 1)), (eCon (.int 4))] [.ino b, s1, s2, .own (.list (vs.map PyData.int)), .val (.int room), s5, s6] = .ok (.list [.int 2, .int 2, .int 2, .int 3, .int 2, .int 1, .int 4], true) [.ino b, s1, s2, .own (.list (vs.map PyData.int)), .val (.int room), s5, s6] := rfl
  refine ssat_seq (ssat_asg (sat_bin (sat_oOf (Sat.of el (sat_oOf (sat_draw0 (m := 7) (fl := false) hb rfl (by decide) (by decide) fun n b' h0 h1 hb' => ?_))))))
  obtain ⟨v, ev, v1, v2⟩ := pick_v h0 h1
  refine ⟨rfl, _, ev, quiet_no h6, ?_⟩
  simp only [slotOf, Bool.false_and, Bool.false_eq_true, if_false, List.set_cons_succ, List.set_cons_zero, next_nx]
  refine ssat_seq (scW_ok v1 v2 hr fun v v1 v2 v3 => ?_)
  simp only [next_nx]
  refine ssat_seq (ssat_app (ds := vs.map PyData.int) rfl (sat_var rfl ⟨vs.map PyData.int, rfl, by rw [List.length_map]; omega, ?_⟩))
  simp only [List.set_cons_succ, List.set_cons_zero, next_nx]
  obtain ⟨r, er, r1, r2⟩ := div_ok hr hr2 v1 v2 v3
  refine ssat_asg (sat_bin (sat_ovar rfl (sat_ovar rfl ⟨rfl, _, er, rfl, ?_⟩)))
  simp only [slotOf, Bool.false_and, Bool.false_eq_true, if_false, List.set_cons_succ, List.set_cons_zero]
  have := q b' r v hb' r1 r2 (by omega) (by omega)
  rw [List.map_append] at this
  exact this
theorem sat_edges {f : EvE} {r : AE} {d : D} {m : Nat} {fl : Bool} {P : D × Bool → AE → Prop} (hb : Bx d) (hf : f (.ino d :: r) = .ok (.int m, fl) (.ino d :: r)) (hm : 0 < m) (hm2 : m ≤ 9)
    (h : ∀ (e : D) (d' : D), OutE m e → Bx d' → P (e, false) (.ino d' :: r)) : Sat (eCall _law_edges_S [.ref 0, .val f] (.ino d :: r)) P := by
  refine sat_call2 rfl ?_
  rw [hf]
  refine ⟨.ino d, d, rfl, rfl, (edges_fn hm hm2 hb).imp (fun r fl outs q => ?_) fun _ h => h⟩
  obtain ⟨rfl, h2, d', h4, rfl⟩ := q
  exact h r d' h2 h4
theorem schema_fn {most : Int} {b : D} (hm : 1 ≤ most) (hm2 : most ≤ 1000) (hb : Bx b) : FSat (_law_schema_S [b, .int most]) (fun r fl outs => fl = false ∧ SchO r ∧ ∃ b', Bx b' ∧ outs = [b', .none]) (fun _ => False) := by
  refine fsat_run rfl ?_
  show SSat (_law_schema_F [.ino b, .val (.int most), .non, .non, .non, .non, .non]) _
  rw [schema_split]
  refine ssat_seq (ssat_asg (sat_bin (sat_oOf (sat_con (sat_oOf (sat_draw0 (m := 9) (fl := false) hb rfl (by decide) (by decide) fun n b' h0 h1 hb' => ?_))))))
  obtain ⟨m, hm1, hm3, hm4⟩ : ∃ m : Nat, 1 + n = m ∧ 0 < m ∧ m ≤ 9 := ⟨(1 + n).toNat, by omega, by omega, by omega⟩
  have ea : dAdd (.int 1) (.int n) = some (.int m, false) := by rw [← hm1]; rfl
  refine ⟨rfl, _, ea, rfl, ?_⟩
  simp only [slotOf, Bool.false_and, Bool.false_eq_true, if_false, List.set_cons_succ, List.set_cons_zero, next_nx]
  refine ssat_seq ?_
  have ep : sParO 3 4 (eLst []) (eVar 1) [.ino b', .val (.int most), .val (.int m), .non, .non, .non, .non] = .nx [.ino b', .val (.int most), .val (.int m), .own (.list []), .val (.int most), .non, .non] := rfl
  rw [ep]
  refine nx_in ?_
  refine ssat_seq (ssat_forS (Sat.of (rng_var rfl (show m < 64 by omega)) ⟨rfl, ?_⟩))
  refine ssat_for (fun ds ρ => ∃ (b : D) (vs : List Int) (room : Int) (s5 s6 : Slot), Bx b ∧ vs.length + ds.length = m ∧ (∀ v ∈ vs, 1 ≤ v ∧ v ≤ 4) ∧ 1 ≤ room ∧ room ≤ 1000 ∧ quiet (some s5) ∧ quiet (some s6) ∧ ρ = [.ino b, .val (.int most), .val (.int m), .own (.list (vs.map PyData.int)), .val (.int room), s5, s6]) ?_ ?_ _ _ ⟨b', [], most, .non, .non, hb', by simp [range_len], by simp, hm, hm2, trivial, trivial, rfl⟩
  · rintro d ds ρ ⟨b, vs, room, s5, s6, hb, hl, hv, r1, r2, h5, h6, rfl⟩
    refine ⟨rfl, _, bind_q h5, ?_⟩
    simp only [List.set_cons_succ, List.set_cons_zero, List.length_cons] at hl ⊢
    refine scB_ok hb r1 r2 (by omega) h6 fun b room v hb r1 r2 v1 v2 => ?_
    refine ⟨b, vs ++ [v], room, .val d, .val (.int v), hb, by simp; omega, fun x hx => ?_, r1, r2, trivial, trivial, rfl⟩
    rcases List.mem_append.mp hx with hx | hx
    · exact hv x hx
    · rw [List.mem_singleton.mp hx]; exact ⟨v1, v2⟩
  · rintro ρ ⟨b, vs, room, s5, s6, hb, hl, hv, r1, r2, h5, h6, rfl⟩
    refine ⟨rfl, ?_⟩
    simp only [next_nx]
    simp at hl
    refine ssat_ret (sat_tup (sat_el (sat_op1 (sat_oown rfl ⟨by simp [still], _, rfl, ?_⟩))))
    refine sat_el (sat_edges (m := m) (fl := false) hb (by simp [eVar]) hm3 hm4 fun e b' he hb' => sat_el_nil ?_)
    exact ⟨by simp [inoStill, List.range_succ, isIno], rfl, ⟨vs, e, rfl, by omega, by omega, by rw [hl]; exact he, hv⟩, b', hb', by simp [outsOf, List.range_succ, inoD]⟩
end Ow

namespace Ow
open PySem PyProof.Rows PySem.Spec L2
/-! ### kinds of data that a text without effects tells -/
def Gv (P : D → Prop) (f : EvE) (ρ : AE) : Prop := ∃ d fl, f ρ = .ok (d, fl) ρ ∧ P d
def GvO (P : D → Prop) (f : EvO) (ρ : AE) : Prop := ∃ d b, f ρ = .ok (d, b) ρ ∧ P d ∧ still b d ρ = true
def GvL (P : D → Prop) (fs : List EvE) (ρ : AE) : Prop := ∃ ds, eList fs ρ = .ok ds ρ ∧ ds.length = fs.length ∧ ∀ d ∈ ds, P d
def TP (P : D → Prop) (n : Nat) (d : D) : Prop := ∃ ds, d = .tuple ds ∧ ds.length ≤ n ∧ ∀ x ∈ ds, P x
section
variable {P Q : D → Prop} {f g : EvE} {fo go : EvO} {fs : List EvE} {ρ : AE} {n m : Nat}
theorem Gv.imp (h : Gv P f ρ) (q : ∀ d, P d → Q d) : Gv Q f ρ := by
  obtain ⟨d, fl, e, hd⟩ := h
  exact ⟨d, fl, e, q d hd⟩
theorem gvo_of (h : Gv P f ρ) : GvO P (oOf f) ρ := by
  obtain ⟨d, fl, e, hd⟩ := h
  exact ⟨d, none, by simp [oOf, e], hd, rfl⟩
theorem gvo_var {i : Nat} {d : D} (h : ρ[i]? = some (.val d)) (hp : P d) : GvO P (oVar i) ρ := ⟨d, none, by simp [oVar, h], hp, rfl⟩
theorem gv_var {i : Nat} {d : D} (h : ρ[i]? = some (.val d)) (hp : P d) : Gv P (eVar i) ρ := ⟨d, false, by simp [eVar, h], hp⟩
theorem gv_con {d : D} (hp : P d) : Gv P (eCon d) ρ := ⟨d, false, rfl, hp⟩
theorem gvl_nil : GvL P [] ρ := ⟨[], rfl, rfl, fun d h => by cases h⟩
theorem gvl (h : Gv P f ρ) (hs : GvL P fs ρ) : GvL P (f :: fs) ρ := by
  obtain ⟨d, fl, e, hd⟩ := h
  obtain ⟨ds, e2, hl, hds⟩ := hs
  refine ⟨d :: ds, by simp [eList, e, e2], by simp [hl], fun x hx => ?_⟩
  rcases List.mem_cons.mp hx with rfl | hx
  · exact hd
  · exact hds x hx
theorem gv_tup (h : GvL P fs ρ) : Gv (TP P fs.length) (eTup fs) ρ := by
  obtain ⟨ds, e, hl, hds⟩ := h
  exact ⟨.tuple ds, false, by simp [eTup, e], ds, rfl, by omega, hds⟩
theorem gv_add (h : GvO (TP P n) fo ρ) (h2 : GvO (TP P m) go ρ) (hn : n + m ≤ 1000) : Gv (TP P (n + m)) (eBin dAdd fo go) ρ := by
  obtain ⟨d, b, e, ⟨ds, rfl, hl, hds⟩, hs⟩ := h
  obtain ⟨d2, b2, e2, ⟨ds2, rfl, hl2, hds2⟩, hs2⟩ := h2
  have ea : dAdd (.tuple ds) (.tuple ds2) = some (.tuple (ds ++ ds2), false) := by
    refine if_pos ?_
    exact Nat.le_trans (show ds.length + ds2.length ≤ 1000 by omega) (by decide)
  refine ⟨.tuple (ds ++ ds2), false, by simp only [eBin, e, e2, bind_ok, hs, if_true, ea], ds ++ ds2, rfl, by rw [List.length_append]; omega, fun x hx => ?_⟩
  rcases List.mem_append.mp hx with hx | hx
  · exact hds x hx
  · exact hds2 x hx
theorem gv_slice {lo hi : Option EvO} {l h : Option Int} (hf : GvO (TP P n) fo ρ) (e1 : evPart lo ρ = .ok l ρ) (e2 : evPart hi ρ = .ok h ρ) : Gv (TP P n) (eSlice fo lo hi) ρ := by
  obtain ⟨d, b, e, ⟨ds, rfl, hl, hds⟩, hs⟩ := hf
  refine ⟨.tuple (cutD ds l h), false, by simp only [eSlice, e, bind_ok, e1, e2, hs, if_true], _, rfl, ?_, fun x hx => hds x (List.mem_of_mem_drop (List.mem_of_mem_take hx))⟩
  unfold cutD
  rw [List.length_take, List.length_drop]
  omega
theorem gv_rev (h : GvO (TP P n) fo ρ) : Gv (TP P n) (eUn dRev fo) ρ := by
  obtain ⟨d, b, e, ⟨ds, rfl, hl, hds⟩, hs⟩ := h
  exact ⟨.tuple ds.reverse, false, by simp only [eUn, e, bind_ok, dRev], _, rfl, by simpa using hl, fun x hx => hds x (by simpa using hx)⟩
theorem gv_mul {d : D} {k : Nat} (hp : P d) (h2 : 2 ≤ k) (h3 : k ≤ 1000) (hf : fo ρ = .ok (.tuple [d], none) ρ) (hg : go ρ = .ok (.int k, none) ρ) : Gv (TP P k) (eBin dMul fo go) ρ := by
  have e : dMul (.tuple [d]) (.int k) = some (.tuple (List.replicate k [d]).flatten, false) := by
    simp only [dMul]
    rw [if_pos ⟨by simp, by omega, by omega, by simp⟩, Int.toNat_natCast]
  refine ⟨.tuple (List.replicate k [d]).flatten, false, by simp only [eBin, hf, hg, bind_ok, still_none, if_true, e], _, rfl, by simp, fun x hx => ?_⟩
  simp at hx
  rw [hx.2]; exact hp
theorem gv_rg {k : Nat} (hk : k ≤ 1000) (hP : ∀ c : Nat, c < k → P (.int c)) (hf : fo ρ = .ok (.int k, none) ρ) : Gv (TP P k) (eRg1 .tuple false fo) ρ := by
  have e := rg1_ok (mk := .tuple) (fl := false) hf (rgOk_small (by decide) (by omega) (by omega))
  refine ⟨_, false, e, _, rfl, by simp [rgD], fun x hx => ?_⟩
  obtain ⟨c, hc, rfl⟩ := List.mem_map.mp hx
  have := List.mem_range.mp hc
  simp only [Int.zero_add]
  exact hP c (by omega)
theorem gv_last {ds : List D} {i : Nat} (hi : ρ[i]? = some (.val (.tuple ds))) (hn : ds ≠ []) (hds : ∀ x ∈ ds, P x) : Gv P (eBin dIx (oVar i) (oOf (eUn dNeg (oOf (eCon (.int 1)))))) ρ := by
  have hl : 0 < ds.length := List.length_pos_iff.mpr hn
  have : ixN ds.length (-1) = some (ds.length - 1) := by
    unfold ixN
    rw [if_neg (by omega), if_pos (by omega)]
    congr 1
    omega
  have hx : ds.length - 1 < ds.length := by omega
  refine ⟨ds[ds.length - 1], false, ?_, hds _ (List.getElem_mem hx)⟩
  simp [eBin, oVar, hi, oOf, eUn, eCon, dNeg, dIx, atI, this, hx]
end
theorem leaf_g1 {d : D} (h : Leaf d) : G1 d := by cases d <;> first | exact h | exact h.elim
theorem leaf_g2 {d : D} (h : Leaf d) : G2 d := by cases d <;> first | exact h | exact h.elim
theorem leaf_g3 {d : D} (h : Leaf d) : G3 d := by cases d <;> first | exact h | exact h.elim
theorem tp_g1 {n : Nat} (hn : n < 64) (d : D) (h : TP Leaf n d) : G1 d := by
  obtain ⟨ds, rfl, hl, h⟩ := h
  exact ⟨by omega, h⟩
theorem tp_g2 {n : Nat} (hn : n < 64) (d : D) (h : TP G1 n d) : G2 d := by
  obtain ⟨ds, rfl, hl, h⟩ := h
  exact ⟨by omega, h⟩
theorem tp_g3 {n : Nat} (hn : n < 64) (d : D) (h : TP G2 n d) : G3 d := by
  obtain ⟨ds, rfl, hl, h⟩ := h
  exact ⟨by omega, h⟩
theorem leaf_int {n : Int} (h : -1000 ≤ n) (h2 : n ≤ 1000) : Leaf (.int n) := ⟨by omega, by omega⟩
theorem leaf_0 : Leaf (.str "0") := .inr (.inl rfl)
theorem leaf_1 : Leaf (.str "1") := .inr (.inr (.inl rfl))
theorem leaf_2 : Leaf (.str "2") := .inr (.inr (.inr rfl))
theorem leaf_s : Leaf (.str "schema") := .inl rfl
theorem leaf_n : Leaf .none := trivial
end Ow

namespace Ow
open PySem PyProof.Rows PySem.Spec L2

theorem long_ok {ρ : AE} (h7 : quiet ρ[7]?) : Gv (TP G1 20) (eOps dTuple [(oOf (eBin dAdd (oOf (eComp [7] (iRange2 (oOf (eCon (.int 1))) (oOf (eCon (.int 9)))) (.name 7) tTrue (eTup [(eCon (.int 0)), (eVar 7)]))) (oOf (eLst [(eTup [(eCon (.int 1)), (eCon (.int 2))]), (eTup [(eCon (.int 1)), (eCon (.int 3))]), (eTup [(eCon (.int 1)), (eCon (.int 4))])]))))]) ρ := by
  have hl := quiet_lt h7
  have hr : iRange2 (oOf (eCon (.int 1))) (oOf (eCon (.int 9))) ρ = .ok (rangeD 1 8, []) ρ := by
    unfold iRange2
    rfl
  obtain ⟨ds, e, e2, e3⟩ := comp_map (i := 7) (it := (iRange2 (oOf (eCon (.int 1))) (oOf (eCon (.int 9))))) (el := (eTup [(eCon (.int 0)), (eVar 7)])) (ρ := ρ) (ds := rangeD 1 8) (bs := []) (fun _ d => G1 d) hr h7 rfl (fun d hd => by
    obtain ⟨c, hc, rfl⟩ := List.mem_map.mp hd
    have := List.mem_range.mp hc
    refine ⟨.tuple [.int 0, .int (1 + (c : Int))], ⟨false, by simp [eTup, eList, eCon, eVar, hl]⟩, by simp, fun x hx => ?_⟩
    simp at hx
    rcases hx with rfl | rfl
    · exact leaf_int (by decide) (by decide)
    · exact leaf_int (by omega) (by omega))
  have e4 : (eLst [(eTup [(eCon (.int 1)), (eCon (.int 2))]), (eTup [(eCon (.int 1)), (eCon (.int 3))]), (eTup [(eCon (.int 1)), (eCon (.int 4))])]) ρ = .ok (.list [.tuple [.int 1, .int 2], .tuple [.int 1, .int 3], .tuple [.int 1, .int 4]], true) ρ := rfl
  have hl8 : ds.length = 8 := by rw [e2]; rfl
  have ea : dAdd (.list ds) (.list [.tuple [.int 1, .int 2], .tuple [.int 1, .int 3], .tuple [.int 1, .int 4]]) = some (.list (ds ++ [.tuple [.int 1, .int 2], .tuple [.int 1, .int 3], .tuple [.int 1, .int 4]]), true) := by
    refine if_pos ?_
    rw [hl8]
    decide
  refine ⟨.tuple (ds ++ [.tuple [.int 1, .int 2], .tuple [.int 1, .int 3], .tuple [.int 1, .int 4]]), false, ?_, _, rfl, by rw [List.length_append, hl8]; decide, fun x hx => ?_⟩
  · simp only [eOps, oList, oOf, eBin, e, e4, bind_ok, still_none, if_true, ea, stills, Bool.and_self, List.map_cons, List.map_nil, dTuple]
  · rcases List.mem_append.mp hx with hx | hx
    · obtain ⟨_, _, h⟩ := e3 x hx
      exact h
    · simp at hx
      have p : ∀ a c : Int, -1000 ≤ a → a ≤ 1000 → -1000 ≤ c → c ≤ 1000 → G1 (.tuple [.int a, .int c]) := fun a c h1 h2 h3 h4 => ⟨by simp, fun x hx => by
        simp at hx
        rcases hx with rfl | rfl
        · exact leaf_int h1 h2
        · exact leaf_int h3 h4⟩
      rcases hx with rfl | rfl | rfl <;> exact p _ _ (by decide) (by decide) (by decide) (by decide)
def spL0 : List EvE := [(eTup [(eBin dAdd (oVar 2) (oOf (eTup [(eCon (.int 5))]))), (eBin dAdd (oVar 3) (oOf (eTup [(eTup [(eVar 4)])])))]), (eTup [(eBin dAdd (oOf (eSlice (oVar 2) none (some (oOf (eUn dNeg (oOf (eCon (.int 1)))))))) (oOf (eTup [(eCon (.int 0))]))), (eVar 3)]), (eTup [(eTup [(eCon (.int 4)), (eCon (.int 4)), (eCon (.int 4)), (eCon (.int 4)), (eCon (.int 4))]), (eTup [(eTup [(eCon (.int 0)), (eCon (.int 1)), (eCon (.int 2)), (eCon (.int 3)), (eCon (.int 4))])])]), (eTup [(eTup []), (eTup [])]), (eTup [(eBin dMul (oOf (eTup [(eCon (.int 2))])) (oOf (eCon (.int 10)))), (eTup [(eRg1 .tuple false (oOf (eCon (.int 10))))])])]
theorem spL0_ok {b : D} {x1 x6 : Slot} {vs : List Int} {es : List (List Int)} (hv : TP G1 9 (.tuple (vs.map PyData.int))) (he : TP G1 10 (.tuple (es.map encT))) (hf : TP Leaf 9 (.tuple (rgD 0 vs.length))) (hm : Leaf (.int (vs.length : Int))) (hm2 : Leaf (.int ((vs.length : Int) - 1))) (hen : es.map encT ≠ []) (he1 : ∀ d ∈ es.map encT, G1 d) : GvL G3 spL0 [.ino b, x1, .val (.tuple (vs.map PyData.int)), .val (.tuple (es.map encT)), .val (.int (vs.length : Int)), .val (.tuple (rgD 0 vs.length)), x6, .non] := by
  have sub1 : Gv Leaf (eBin dSub (oVar 4) (oOf (eCon (.int 1)))) [.ino b, x1, .val (.tuple (vs.map PyData.int)), .val (.tuple (es.map encT)), .val (.int (vs.length : Int)), .val (.tuple (rgD 0 vs.length)), x6, .non] := ⟨.int ((vs.length : Int) - 1), false, by simp [eBin, oVar, oOf, eCon, dSub], hm2⟩
  have long_ok := long_ok (ρ := [.ino b, x1, .val (.tuple (vs.map PyData.int)), .val (.tuple (es.map encT)), .val (.int (vs.length : Int)), .val (.tuple (rgD 0 vs.length)), x6, .non]) trivial
  unfold spL0
  refine gvl (Gv.imp (gv_tup (P := G2) (gvl (Gv.imp (gv_add (n := 9) (m := 1) (gvo_var rfl hv) (gvo_of (gv_tup (P := G1) (gvl (gv_con (leaf_g1 (leaf_int (by decide) (by decide)))) gvl_nil))) (by decide)) (tp_g2 (n := 10) (by decide))) (gvl (Gv.imp (gv_add (n := 10) (m := 1) (gvo_var rfl he) (gvo_of (gv_tup (P := G1) (gvl (Gv.imp (gv_tup (P := Leaf) (gvl (gv_var rfl hm) gvl_nil)) (tp_g1 (n := 1) (by decide))) gvl_nil))) (by decide)) (tp_g2 (n := 11) (by decide))) gvl_nil))) (tp_g3 (n := 2) (by decide))) ?_
  refine gvl (Gv.imp (gv_tup (P := G2) (gvl (Gv.imp (gv_add (n := 9) (m := 1) (gvo_of (gv_slice (n := 9) (l := none) (h := (some (-1))) (gvo_var rfl hv) rfl rfl)) (gvo_of (gv_tup (P := G1) (gvl (gv_con (leaf_g1 (leaf_int (by decide) (by decide)))) gvl_nil))) (by decide)) (tp_g2 (n := 10) (by decide))) (gvl (Gv.imp (gv_var rfl he) (tp_g2 (n := 10) (by decide))) gvl_nil))) (tp_g3 (n := 2) (by decide))) ?_
  refine gvl (Gv.imp (gv_tup (P := G2) (gvl (Gv.imp (gv_tup (P := G1) (gvl (gv_con (leaf_g1 (leaf_int (by decide) (by decide)))) (gvl (gv_con (leaf_g1 (leaf_int (by decide) (by decide)))) (gvl (gv_con (leaf_g1 (leaf_int (by decide) (by decide)))) (gvl (gv_con (leaf_g1 (leaf_int (by decide) (by decide)))) (gvl (gv_con (leaf_g1 (leaf_int (by decide) (by decide)))) gvl_nil)))))) (tp_g2 (n := 5) (by decide))) (gvl (Gv.imp (gv_tup (P := G1) (gvl (Gv.imp (gv_tup (P := Leaf) (gvl (gv_con (leaf_int (by decide) (by decide))) (gvl (gv_con (leaf_int (by decide) (by decide))) (gvl (gv_con (leaf_int (by decide) (by decide))) (gvl (gv_con (leaf_int (by decide) (by decide))) (gvl (gv_con (leaf_int (by decide) (by decide))) gvl_nil)))))) (tp_g1 (n := 5) (by decide))) gvl_nil)) (tp_g2 (n := 1) (by decide))) gvl_nil))) (tp_g3 (n := 2) (by decide))) ?_
  refine gvl (Gv.imp (gv_tup (P := G2) (gvl (Gv.imp (gv_tup (P := G1) gvl_nil) (tp_g2 (n := 0) (by decide))) (gvl (Gv.imp (gv_tup (P := G1) gvl_nil) (tp_g2 (n := 0) (by decide))) gvl_nil))) (tp_g3 (n := 2) (by decide))) ?_
  refine gvl (Gv.imp (gv_tup (P := G2) (gvl (Gv.imp (gv_mul (k := 10) (leaf_g1 (leaf_int (by decide) (by decide))) (by decide) (by decide) rfl rfl) (tp_g2 (n := 10) (by decide))) (gvl (Gv.imp (gv_tup (P := G1) (gvl (Gv.imp (gv_rg (k := 10) (by decide) (fun c hc => (leaf_int (by omega) (by omega))) rfl) (tp_g1 (n := 10) (by decide))) gvl_nil)) (tp_g2 (n := 1) (by decide))) gvl_nil))) (tp_g3 (n := 2) (by decide))) ?_
  exact gvl_nil
def spL1 : List EvE := [(eTup [(eVar 2), (eTup [])]), (eTup [(eVar 2), (eBin dAdd (oVar 3) (oOf (eTup [(eBin dIx (oVar 3) (oOf (eUn dNeg (oOf (eCon (.int 1))))))])))]), (eTup [(eVar 2), (eBin dAdd (oOf (eSlice (oVar 3) (some (oOf (eCon (.int 1)))) none)) (oOf (eSlice (oVar 3) none (some (oOf (eCon (.int 1)))))))]), (eTup [(eVar 2), (eBin dAdd (oVar 3) (oOf (eTup [(eTup [(eVar 4)])])))]), (eTup [(eVar 2), (eBin dAdd (oOf (eTup [(eTup [])])) (oVar 3))])]
theorem spL1_ok {b : D} {x1 x6 : Slot} {vs : List Int} {es : List (List Int)} (hv : TP G1 9 (.tuple (vs.map PyData.int))) (he : TP G1 10 (.tuple (es.map encT))) (hf : TP Leaf 9 (.tuple (rgD 0 vs.length))) (hm : Leaf (.int (vs.length : Int))) (hm2 : Leaf (.int ((vs.length : Int) - 1))) (hen : es.map encT ≠ []) (he1 : ∀ d ∈ es.map encT, G1 d) : GvL G3 spL1 [.ino b, x1, .val (.tuple (vs.map PyData.int)), .val (.tuple (es.map encT)), .val (.int (vs.length : Int)), .val (.tuple (rgD 0 vs.length)), x6, .non] := by
  have sub1 : Gv Leaf (eBin dSub (oVar 4) (oOf (eCon (.int 1)))) [.ino b, x1, .val (.tuple (vs.map PyData.int)), .val (.tuple (es.map encT)), .val (.int (vs.length : Int)), .val (.tuple (rgD 0 vs.length)), x6, .non] := ⟨.int ((vs.length : Int) - 1), false, by simp [eBin, oVar, oOf, eCon, dSub], hm2⟩
  have long_ok := long_ok (ρ := [.ino b, x1, .val (.tuple (vs.map PyData.int)), .val (.tuple (es.map encT)), .val (.int (vs.length : Int)), .val (.tuple (rgD 0 vs.length)), x6, .non]) trivial
  unfold spL1
  refine gvl (Gv.imp (gv_tup (P := G2) (gvl (Gv.imp (gv_var rfl hv) (tp_g2 (n := 9) (by decide))) (gvl (Gv.imp (gv_tup (P := G1) gvl_nil) (tp_g2 (n := 0) (by decide))) gvl_nil))) (tp_g3 (n := 2) (by decide))) ?_
  refine gvl (Gv.imp (gv_tup (P := G2) (gvl (Gv.imp (gv_var rfl hv) (tp_g2 (n := 9) (by decide))) (gvl (Gv.imp (gv_add (n := 10) (m := 1) (gvo_var rfl he) (gvo_of (gv_tup (P := G1) (gvl (gv_last rfl hen he1) gvl_nil))) (by decide)) (tp_g2 (n := 11) (by decide))) gvl_nil))) (tp_g3 (n := 2) (by decide))) ?_
  refine gvl (Gv.imp (gv_tup (P := G2) (gvl (Gv.imp (gv_var rfl hv) (tp_g2 (n := 9) (by decide))) (gvl (Gv.imp (gv_add (n := 10) (m := 10) (gvo_of (gv_slice (n := 10) (l := (some 1)) (h := none) (gvo_var rfl he) rfl rfl)) (gvo_of (gv_slice (n := 10) (l := none) (h := (some 1)) (gvo_var rfl he) rfl rfl)) (by decide)) (tp_g2 (n := 20) (by decide))) gvl_nil))) (tp_g3 (n := 2) (by decide))) ?_
  refine gvl (Gv.imp (gv_tup (P := G2) (gvl (Gv.imp (gv_var rfl hv) (tp_g2 (n := 9) (by decide))) (gvl (Gv.imp (gv_add (n := 10) (m := 1) (gvo_var rfl he) (gvo_of (gv_tup (P := G1) (gvl (Gv.imp (gv_tup (P := Leaf) (gvl (gv_var rfl hm) gvl_nil)) (tp_g1 (n := 1) (by decide))) gvl_nil))) (by decide)) (tp_g2 (n := 11) (by decide))) gvl_nil))) (tp_g3 (n := 2) (by decide))) ?_
  refine gvl (Gv.imp (gv_tup (P := G2) (gvl (Gv.imp (gv_var rfl hv) (tp_g2 (n := 9) (by decide))) (gvl (Gv.imp (gv_add (n := 1) (m := 10) (gvo_of (gv_tup (P := G1) (gvl (Gv.imp (gv_tup (P := Leaf) gvl_nil) (tp_g1 (n := 0) (by decide))) gvl_nil))) (gvo_var rfl he) (by decide)) (tp_g2 (n := 11) (by decide))) gvl_nil))) (tp_g3 (n := 2) (by decide))) ?_
  exact gvl_nil
def spL2 : List EvE := [(eTup [(eVar 2), (eTup [(eUn dRev (oVar 5))])]), (eTup [(eVar 2), (eSlice (oVar 3) (some (oOf (eCon (.int 1)))) none)]), (eTup [(eVar 2), (eVar 3), (eTup [])]), (eTup [(eVar 2), (eTup [(eBin dAdd (oVar 5) (oOf (eTup [(eBin dSub (oVar 4) (oOf (eCon (.int 1))))])))])]), (eTup [(eBin dAdd (oVar 2) (oOf (eTup [(eCon (.int 1))]))), (eVar 3)]), (eCon (.int 7)), (eCon (.str "schema")), (eTup [(eVar 2)])]
theorem spL2_ok {b : D} {x1 x6 : Slot} {vs : List Int} {es : List (List Int)} (hv : TP G1 9 (.tuple (vs.map PyData.int))) (he : TP G1 10 (.tuple (es.map encT))) (hf : TP Leaf 9 (.tuple (rgD 0 vs.length))) (hm : Leaf (.int (vs.length : Int))) (hm2 : Leaf (.int ((vs.length : Int) - 1))) (hen : es.map encT ≠ []) (he1 : ∀ d ∈ es.map encT, G1 d) : GvL G3 spL2 [.ino b, x1, .val (.tuple (vs.map PyData.int)), .val (.tuple (es.map encT)), .val (.int (vs.length : Int)), .val (.tuple (rgD 0 vs.length)), x6, .non] := by
  have sub1 : Gv Leaf (eBin dSub (oVar 4) (oOf (eCon (.int 1)))) [.ino b, x1, .val (.tuple (vs.map PyData.int)), .val (.tuple (es.map encT)), .val (.int (vs.length : Int)), .val (.tuple (rgD 0 vs.length)), x6, .non] := ⟨.int ((vs.length : Int) - 1), false, by simp [eBin, oVar, oOf, eCon, dSub], hm2⟩
  have long_ok := long_ok (ρ := [.ino b, x1, .val (.tuple (vs.map PyData.int)), .val (.tuple (es.map encT)), .val (.int (vs.length : Int)), .val (.tuple (rgD 0 vs.length)), x6, .non]) trivial
  unfold spL2
  refine gvl (Gv.imp (gv_tup (P := G2) (gvl (Gv.imp (gv_var rfl hv) (tp_g2 (n := 9) (by decide))) (gvl (Gv.imp (gv_tup (P := G1) (gvl (Gv.imp (gv_rev (n := 9) (gvo_var rfl hf)) (tp_g1 (n := 9) (by decide))) gvl_nil)) (tp_g2 (n := 1) (by decide))) gvl_nil))) (tp_g3 (n := 2) (by decide))) ?_
  refine gvl (Gv.imp (gv_tup (P := G2) (gvl (Gv.imp (gv_var rfl hv) (tp_g2 (n := 9) (by decide))) (gvl (Gv.imp (gv_slice (n := 10) (l := (some 1)) (h := none) (gvo_var rfl he) rfl rfl) (tp_g2 (n := 10) (by decide))) gvl_nil))) (tp_g3 (n := 2) (by decide))) ?_
  refine gvl (Gv.imp (gv_tup (P := G2) (gvl (Gv.imp (gv_var rfl hv) (tp_g2 (n := 9) (by decide))) (gvl (Gv.imp (gv_var rfl he) (tp_g2 (n := 10) (by decide))) (gvl (Gv.imp (gv_tup (P := G1) gvl_nil) (tp_g2 (n := 0) (by decide))) gvl_nil)))) (tp_g3 (n := 3) (by decide))) ?_
  refine gvl (Gv.imp (gv_tup (P := G2) (gvl (Gv.imp (gv_var rfl hv) (tp_g2 (n := 9) (by decide))) (gvl (Gv.imp (gv_tup (P := G1) (gvl (Gv.imp (gv_add (n := 9) (m := 1) (gvo_var rfl hf) (gvo_of (gv_tup (P := Leaf) (gvl (Gv.imp sub1 fun _ h => h) gvl_nil))) (by decide)) (tp_g1 (n := 10) (by decide))) gvl_nil)) (tp_g2 (n := 1) (by decide))) gvl_nil))) (tp_g3 (n := 2) (by decide))) ?_
  refine gvl (Gv.imp (gv_tup (P := G2) (gvl (Gv.imp (gv_add (n := 9) (m := 1) (gvo_var rfl hv) (gvo_of (gv_tup (P := G1) (gvl (gv_con (leaf_g1 (leaf_int (by decide) (by decide)))) gvl_nil))) (by decide)) (tp_g2 (n := 10) (by decide))) (gvl (Gv.imp (gv_var rfl he) (tp_g2 (n := 10) (by decide))) gvl_nil))) (tp_g3 (n := 2) (by decide))) ?_
  refine gvl (gv_con (leaf_g3 (leaf_int (by decide) (by decide)))) ?_
  refine gvl (gv_con (leaf_g3 leaf_s)) ?_
  refine gvl (Gv.imp (gv_tup (P := G2) (gvl (Gv.imp (gv_var rfl hv) (tp_g2 (n := 9) (by decide))) gvl_nil)) (tp_g3 (n := 1) (by decide))) ?_
  exact gvl_nil
def spL3 : List EvE := [(eTup [(eVar 2), (eCon (.int 3))]), (eTup [(eVar 2), (eTup [(eCon (.int 3))])]), (eTup [(eVar 2), (eTup [(eCon (.str "0"))])]), (eTup [(eBin dAdd (oOf (eTup [(eCon (.str "2"))])) (oOf (eSlice (oVar 2) (some (oOf (eCon (.int 1)))) none))), (eVar 3)]), (eTup [(eVar 2), (eTup [(eTup [(eCon (.int 0)), (eCon (.str "1"))])])]), (eTup [(eCon (.int 2)), (eVar 3)]), (eCon .none), (eTup [(eTup [(eCon (.int 2)), (eCon (.int 4)), (eCon (.int 4)), (eCon (.int 4)), (eCon (.int 4))]), (eTup [(eTup [(eCon (.int 0)), (eCon (.int 1))]), (eTup [(eCon (.int 1)), (eCon (.int 2)), (eCon (.int 3)), (eCon (.int 4))])])])]
theorem spL3_ok {b : D} {x1 x6 : Slot} {vs : List Int} {es : List (List Int)} (hv : TP G1 9 (.tuple (vs.map PyData.int))) (he : TP G1 10 (.tuple (es.map encT))) (hf : TP Leaf 9 (.tuple (rgD 0 vs.length))) (hm : Leaf (.int (vs.length : Int))) (hm2 : Leaf (.int ((vs.length : Int) - 1))) (hen : es.map encT ≠ []) (he1 : ∀ d ∈ es.map encT, G1 d) : GvL G3 spL3 [.ino b, x1, .val (.tuple (vs.map PyData.int)), .val (.tuple (es.map encT)), .val (.int (vs.length : Int)), .val (.tuple (rgD 0 vs.length)), x6, .non] := by
  have sub1 : Gv Leaf (eBin dSub (oVar 4) (oOf (eCon (.int 1)))) [.ino b, x1, .val (.tuple (vs.map PyData.int)), .val (.tuple (es.map encT)), .val (.int (vs.length : Int)), .val (.tuple (rgD 0 vs.length)), x6, .non] := ⟨.int ((vs.length : Int) - 1), false, by simp [eBin, oVar, oOf, eCon, dSub], hm2⟩
  have long_ok := long_ok (ρ := [.ino b, x1, .val (.tuple (vs.map PyData.int)), .val (.tuple (es.map encT)), .val (.int (vs.length : Int)), .val (.tuple (rgD 0 vs.length)), x6, .non]) trivial
  unfold spL3
  refine gvl (Gv.imp (gv_tup (P := G2) (gvl (Gv.imp (gv_var rfl hv) (tp_g2 (n := 9) (by decide))) (gvl (gv_con (leaf_g2 (leaf_int (by decide) (by decide)))) gvl_nil))) (tp_g3 (n := 2) (by decide))) ?_
  refine gvl (Gv.imp (gv_tup (P := G2) (gvl (Gv.imp (gv_var rfl hv) (tp_g2 (n := 9) (by decide))) (gvl (Gv.imp (gv_tup (P := G1) (gvl (gv_con (leaf_g1 (leaf_int (by decide) (by decide)))) gvl_nil)) (tp_g2 (n := 1) (by decide))) gvl_nil))) (tp_g3 (n := 2) (by decide))) ?_
  refine gvl (Gv.imp (gv_tup (P := G2) (gvl (Gv.imp (gv_var rfl hv) (tp_g2 (n := 9) (by decide))) (gvl (Gv.imp (gv_tup (P := G1) (gvl (gv_con (leaf_g1 leaf_0)) gvl_nil)) (tp_g2 (n := 1) (by decide))) gvl_nil))) (tp_g3 (n := 2) (by decide))) ?_
  refine gvl (Gv.imp (gv_tup (P := G2) (gvl (Gv.imp (gv_add (n := 1) (m := 9) (gvo_of (gv_tup (P := G1) (gvl (gv_con (leaf_g1 leaf_2)) gvl_nil))) (gvo_of (gv_slice (n := 9) (l := (some 1)) (h := none) (gvo_var rfl hv) rfl rfl)) (by decide)) (tp_g2 (n := 10) (by decide))) (gvl (Gv.imp (gv_var rfl he) (tp_g2 (n := 10) (by decide))) gvl_nil))) (tp_g3 (n := 2) (by decide))) ?_
  refine gvl (Gv.imp (gv_tup (P := G2) (gvl (Gv.imp (gv_var rfl hv) (tp_g2 (n := 9) (by decide))) (gvl (Gv.imp (gv_tup (P := G1) (gvl (Gv.imp (gv_tup (P := Leaf) (gvl (gv_con (leaf_int (by decide) (by decide))) (gvl (gv_con leaf_1) gvl_nil))) (tp_g1 (n := 2) (by decide))) gvl_nil)) (tp_g2 (n := 1) (by decide))) gvl_nil))) (tp_g3 (n := 2) (by decide))) ?_
  refine gvl (Gv.imp (gv_tup (P := G2) (gvl (gv_con (leaf_g2 (leaf_int (by decide) (by decide)))) (gvl (Gv.imp (gv_var rfl he) (tp_g2 (n := 10) (by decide))) gvl_nil))) (tp_g3 (n := 2) (by decide))) ?_
  refine gvl (gv_con (leaf_g3 leaf_n)) ?_
  refine gvl (Gv.imp (gv_tup (P := G2) (gvl (Gv.imp (gv_tup (P := G1) (gvl (gv_con (leaf_g1 (leaf_int (by decide) (by decide)))) (gvl (gv_con (leaf_g1 (leaf_int (by decide) (by decide)))) (gvl (gv_con (leaf_g1 (leaf_int (by decide) (by decide)))) (gvl (gv_con (leaf_g1 (leaf_int (by decide) (by decide)))) (gvl (gv_con (leaf_g1 (leaf_int (by decide) (by decide)))) gvl_nil)))))) (tp_g2 (n := 5) (by decide))) (gvl (Gv.imp (gv_tup (P := G1) (gvl (Gv.imp (gv_tup (P := Leaf) (gvl (gv_con (leaf_int (by decide) (by decide))) (gvl (gv_con (leaf_int (by decide) (by decide))) gvl_nil))) (tp_g1 (n := 2) (by decide))) (gvl (Gv.imp (gv_tup (P := Leaf) (gvl (gv_con (leaf_int (by decide) (by decide))) (gvl (gv_con (leaf_int (by decide) (by decide))) (gvl (gv_con (leaf_int (by decide) (by decide))) (gvl (gv_con (leaf_int (by decide) (by decide))) gvl_nil))))) (tp_g1 (n := 4) (by decide))) gvl_nil))) (tp_g2 (n := 2) (by decide))) gvl_nil))) (tp_g3 (n := 2) (by decide))) ?_
  exact gvl_nil
def spL4 : List EvE := [(eTup [(eBin dMul (oOf (eTup [(eCon (.int 2))])) (oOf (eCon (.int 9)))), (eOps dTuple [(oOf (eBin dAdd (oOf (eComp [7] (iRange2 (oOf (eCon (.int 1))) (oOf (eCon (.int 9)))) (.name 7) tTrue (eTup [(eCon (.int 0)), (eVar 7)]))) (oOf (eLst [(eTup [(eCon (.int 1)), (eCon (.int 2))]), (eTup [(eCon (.int 1)), (eCon (.int 3))]), (eTup [(eCon (.int 1)), (eCon (.int 4))])]))))])]), (eTup [(eBin dMul (oOf (eTup [(eCon (.int 2))])) (oOf (eCon (.int 9)))), (eTup [(eTup [(eCon (.int 0)), (eCon (.int 1)), (eCon (.int 2)), (eCon (.int 3)), (eCon (.int 4)), (eCon (.int 5)), (eCon (.int 6)), (eCon (.int 7)), (eCon (.int 8))])])]), (eTup [(eBin dMul (oOf (eTup [(eCon (.int 1))])) (oOf (eCon (.int 9)))), (eTup [(eTup [(eCon (.int 0)), (eCon (.int 1)), (eCon (.int 2)), (eCon (.int 3)), (eCon (.int 4)), (eCon (.int 5)), (eCon (.int 6)), (eCon (.int 7)), (eCon (.int 8))])])])]
theorem spL4_ok {b : D} {x1 x6 : Slot} {vs : List Int} {es : List (List Int)} (hv : TP G1 9 (.tuple (vs.map PyData.int))) (he : TP G1 10 (.tuple (es.map encT))) (hf : TP Leaf 9 (.tuple (rgD 0 vs.length))) (hm : Leaf (.int (vs.length : Int))) (hm2 : Leaf (.int ((vs.length : Int) - 1))) (hen : es.map encT ≠ []) (he1 : ∀ d ∈ es.map encT, G1 d) : GvL G3 spL4 [.ino b, x1, .val (.tuple (vs.map PyData.int)), .val (.tuple (es.map encT)), .val (.int (vs.length : Int)), .val (.tuple (rgD 0 vs.length)), x6, .non] := by
  have sub1 : Gv Leaf (eBin dSub (oVar 4) (oOf (eCon (.int 1)))) [.ino b, x1, .val (.tuple (vs.map PyData.int)), .val (.tuple (es.map encT)), .val (.int (vs.length : Int)), .val (.tuple (rgD 0 vs.length)), x6, .non] := ⟨.int ((vs.length : Int) - 1), false, by simp [eBin, oVar, oOf, eCon, dSub], hm2⟩
  have long_ok := long_ok (ρ := [.ino b, x1, .val (.tuple (vs.map PyData.int)), .val (.tuple (es.map encT)), .val (.int (vs.length : Int)), .val (.tuple (rgD 0 vs.length)), x6, .non]) trivial
  unfold spL4
  refine gvl (Gv.imp (gv_tup (P := G2) (gvl (Gv.imp (gv_mul (k := 9) (leaf_g1 (leaf_int (by decide) (by decide))) (by decide) (by decide) rfl rfl) (tp_g2 (n := 9) (by decide))) (gvl (Gv.imp (long_ok) (tp_g2 (n := 20) (by decide))) gvl_nil))) (tp_g3 (n := 2) (by decide))) ?_
  refine gvl (Gv.imp (gv_tup (P := G2) (gvl (Gv.imp (gv_mul (k := 9) (leaf_g1 (leaf_int (by decide) (by decide))) (by decide) (by decide) rfl rfl) (tp_g2 (n := 9) (by decide))) (gvl (Gv.imp (gv_tup (P := G1) (gvl (Gv.imp (gv_tup (P := Leaf) (gvl (gv_con (leaf_int (by decide) (by decide))) (gvl (gv_con (leaf_int (by decide) (by decide))) (gvl (gv_con (leaf_int (by decide) (by decide))) (gvl (gv_con (leaf_int (by decide) (by decide))) (gvl (gv_con (leaf_int (by decide) (by decide))) (gvl (gv_con (leaf_int (by decide) (by decide))) (gvl (gv_con (leaf_int (by decide) (by decide))) (gvl (gv_con (leaf_int (by decide) (by decide))) (gvl (gv_con (leaf_int (by decide) (by decide))) gvl_nil)))))))))) (tp_g1 (n := 9) (by decide))) gvl_nil)) (tp_g2 (n := 1) (by decide))) gvl_nil))) (tp_g3 (n := 2) (by decide))) ?_
  refine gvl (Gv.imp (gv_tup (P := G2) (gvl (Gv.imp (gv_mul (k := 9) (leaf_g1 (leaf_int (by decide) (by decide))) (by decide) (by decide) rfl rfl) (tp_g2 (n := 9) (by decide))) (gvl (Gv.imp (gv_tup (P := G1) (gvl (Gv.imp (gv_tup (P := Leaf) (gvl (gv_con (leaf_int (by decide) (by decide))) (gvl (gv_con (leaf_int (by decide) (by decide))) (gvl (gv_con (leaf_int (by decide) (by decide))) (gvl (gv_con (leaf_int (by decide) (by decide))) (gvl (gv_con (leaf_int (by decide) (by decide))) (gvl (gv_con (leaf_int (by decide) (by decide))) (gvl (gv_con (leaf_int (by decide) (by decide))) (gvl (gv_con (leaf_int (by decide) (by decide))) (gvl (gv_con (leaf_int (by decide) (by decide))) gvl_nil)))))))))) (tp_g1 (n := 9) (by decide))) gvl_nil)) (tp_g2 (n := 1) (by decide))) gvl_nil))) (tp_g3 (n := 2) (by decide))) ?_
  exact gvl_nil
theorem spoilt_split : _law_spoilt_F = sSeq (sAsgT (.tup [(.name 2), (.name 3)]) (eVar 1)) (sSeq (sAsg 4 (eOps dLen [(oVar 2)])) (sSeq (sAsg 5 (eRg1 .tuple false (oVar 4))) (sSeq (sAsg 6 (eLst spL0)) (sSeq (sAsg 6 (eBin dAdd (oVar 6) (oOf (eLst spL1)))) (sSeq (sAsg 6 (eBin dAdd (oVar 6) (oOf (eLst spL2)))) (sSeq (sAsg 6 (eBin dAdd (oVar 6) (oOf (eLst spL3)))) (sSeq (sAsg 6 (eBin dAdd (oVar 6) (oOf (eLst spL4)))) (sRet (eBin dIx (oVar 6) (oOf (eCall _law_draw_S [.ref 0, .val (eOps dLen [(oVar 6)])]))))))))))) := rfl
end Ow

namespace Ow
open PySem PyProof.Rows PySem.Spec L2
theorem ints_leaf {ns : List Int} (h : ∀ n ∈ ns, -1000 ≤ n ∧ n ≤ 1000) : ∀ x ∈ ns.map PyData.int, Leaf x := fun x hx => by
  obtain ⟨n, hn, rfl⟩ := List.mem_map.mp hx
  exact leaf_int (h n hn).1 (h n hn).2
theorem enc_g1 {m : Nat} {es : List (List Int)} (hm : m ≤ 9) (h : Ks m 18 es) : ∀ x ∈ es.map encT, G1 x := fun x hx => by
  obtain ⟨k, hk, rfl⟩ := List.mem_map.mp hx
  have := h k hk
  exact ⟨by rw [List.length_map]; omega, ints_leaf fun n hn => by have := this.2.2 n hn; omega⟩
theorem SchO.g3 {r : D} (h : SchO r) : G3 r := by
  obtain ⟨vs, e, rfl, h1, h2, ⟨es, rfl, h3, h4, h5⟩, h6⟩ := h
  refine ⟨by simp, fun x hx => ?_⟩
  simp only [List.mem_cons, List.not_mem_nil, or_false] at hx
  rcases hx with rfl | rfl
  · exact ⟨by rw [List.length_map]; omega, fun x hx => leaf_g1 (ints_leaf (fun n hn => by have := h6 n hn; omega) x hx)⟩
  · exact ⟨by rw [List.length_map]; omega, enc_g1 h2 h3⟩
theorem ssat_gvl {w : Wp} {s0 s1 s2 s3 s4 s5 s6 s7 : Slot} {fs : List EvE} {P : D → Prop} {n : Nat} (h : GvL P fs [s0, s1, s2, s3, s4, s5, s6, s7]) (hn : fs.length = n) (h6 : isNoIno (some s6) = true)
    (q : ∀ ds : List D, ds.length = n → (∀ d ∈ ds, P d) → w.nx [s0, s1, s2, s3, s4, s5, .own (.list ds), s7]) : SSat (sAsg 6 (eLst fs) [s0, s1, s2, s3, s4, s5, s6, s7]) w := by
  obtain ⟨ds, e, hl, hd⟩ := h
  refine ssat_asg (sat_lst (Sat.of e ⟨h6, ?_⟩))
  simp only [slotOf, isMut, Bool.and_self, if_true, List.set_cons_succ, List.set_cons_zero]
  exact q ds (by omega) hd
theorem ssat_gva {w : Wp} {s0 s1 s2 s3 s4 s5 s7 : Slot} {fs : List EvE} {P : D → Prop} {n k : Nat} {ds : List D} (h : GvL P fs [s0, s1, s2, s3, s4, s5, .own (.list ds), s7]) (hn : fs.length = n) (hk : ds.length = k) (hs : k + n ≤ 1000) (hd : ∀ d ∈ ds, P d)
    (q : ∀ ds : List D, ds.length = k + n → (∀ d ∈ ds, P d) → w.nx [s0, s1, s2, s3, s4, s5, .own (.list ds), s7]) : SSat (sAsg 6 (eBin dAdd (oVar 6) (oOf (eLst fs))) [s0, s1, s2, s3, s4, s5, .own (.list ds), s7]) w := by
  obtain ⟨ds2, e, hl, hd2⟩ := h
  have ea : dAdd (.list ds) (.list ds2) = some (.list (ds ++ ds2), true) := by
    refine if_pos ?_
    exact Nat.le_trans (show ds.length + ds2.length ≤ 1000 by omega) (by decide)
  refine ssat_asg (sat_bin (sat_oown rfl (sat_oOf (sat_lst (Sat.of e ⟨by simp [still], _, ea, rfl, ?_⟩)))))
  simp only [slotOf, isMut, Bool.and_self, if_true, List.set_cons_succ, List.set_cons_zero]
  refine q (ds ++ ds2) (by rw [List.length_append]; omega) fun d h => ?_
  rcases List.mem_append.mp h with h | h
  · exact hd d h
  · exact hd2 d h
theorem spoilt_fn {b sch : D} (hb : Bx b) (h : SchO sch) : FSat (_law_spoilt_S [b, sch]) (fun r fl outs => fl = false ∧ G3 r ∧ ∃ b', Bx b' ∧ outs = [b', .none]) (fun _ => False) := by
  refine fsat_run rfl ?_
  show SSat (_law_spoilt_F [.ino b, .val sch, .non, .non, .non, .non, .non, .non]) _
  rw [spoilt_split]
  obtain ⟨vs, e, rfl, h1, h2, ⟨es, rfl, h3, h4, h5⟩, h6⟩ := h
  have hv : TP G1 9 (.tuple (vs.map PyData.int)) := ⟨_, rfl, by rw [List.length_map]; omega, fun x hx => leaf_g1 (ints_leaf (fun n hn => by have := h6 n hn; omega) x hx)⟩
  have he1 : ∀ d ∈ es.map encT, G1 d := enc_g1 h2 h3
  have he : TP G1 10 (.tuple (es.map encT)) := ⟨_, rfl, by rw [List.length_map]; omega, he1⟩
  have hf : TP Leaf 9 (.tuple (rgD 0 vs.length)) := ⟨_, rfl, by simp [rgD]; omega, fun x hx => by
    obtain ⟨c, hc, rfl⟩ := List.mem_map.mp hx
    have := List.mem_range.mp hc
    exact leaf_int (by omega) (by omega)⟩
  have hm : Leaf (.int (vs.length : Int)) := leaf_int (by omega) (by omega)
  have hm2 : Leaf (.int ((vs.length : Int) - 1)) := leaf_int (by omega) (by omega)
  have hen : es.map encT ≠ [] := by simpa using h4
  refine ssat_seq (ssat_asgT (sat_var rfl ⟨[.ino b, .val (.tuple [.tuple (vs.map PyData.int), .tuple (es.map encT)]), .val (.tuple (vs.map PyData.int)), .val (.tuple (es.map encT)), .non, .non, .non, .non], rfl, ?_⟩))
  simp only [next_nx]
  refine ssat_seq (ssat_asg (sat_op1 (sat_ovar rfl ⟨rfl, _, rfl, rfl, ?_⟩)))
  simp only [slotOf, Bool.false_and, Bool.false_eq_true, if_false, List.set_cons_succ, List.set_cons_zero, next_nx, List.length_map]
  have e5 := rg1_ok (mk := .tuple) (fl := false) (f := oVar 4) (y := none) (b := (vs.length : Int)) (ρ := [.ino b, .val (.tuple [.tuple (vs.map PyData.int), .tuple (es.map encT)]), .val (.tuple (vs.map PyData.int)), .val (.tuple (es.map encT)), .val (.int (vs.length : Int)), .non, .non, .non]) rfl (rgOk_small (by decide) (by omega) (by omega))
  refine ssat_seq (ssat_asg (Sat.of e5 ⟨rfl, ?_⟩))
  simp only [slotOf, Bool.false_and, Bool.false_eq_true, if_false, List.set_cons_succ, List.set_cons_zero, next_nx]
  refine ssat_seq (ssat_gvl (n := 5) (spL0_ok hv he hf hm hm2 hen he1) rfl rfl fun ds l0 p0 => ?_)
  simp only [next_nx]
  refine ssat_seq (ssat_gva (n := 5) (k := 5) (spL1_ok hv he hf hm hm2 hen he1) rfl l0 (by decide) p0 fun ds l0 p0 => ?_)
  simp only [next_nx]
  refine ssat_seq (ssat_gva (n := 8) (k := 10) (spL2_ok hv he hf hm hm2 hen he1) rfl l0 (by decide) p0 fun ds l0 p0 => ?_)
  simp only [next_nx]
  refine ssat_seq (ssat_gva (n := 8) (k := 18) (spL3_ok hv he hf hm hm2 hen he1) rfl l0 (by decide) p0 fun ds l0 p0 => ?_)
  simp only [next_nx]
  refine ssat_seq (ssat_gva (n := 3) (k := 26) (spL4_ok hv he hf hm hm2 hen he1) rfl l0 (by decide) p0 fun ds l0 p0 => ?_)
  simp only [next_nx]
  refine ssat_ret (sat_bin (sat_oown rfl (sat_oOf (sat_draw0 (m := (ds.length : Int)) (fl := false) hb (len_val (E := .own (.list ds)) rfl (.inr rfl)) (by omega) (by omega) fun n b' h0 h1 hb' => ?_))))
  obtain ⟨x, ex, hx⟩ := atI_lt (l := ds) h0 h1
  refine ⟨by simp [still], (x, false), by simp [dIx, ex], by simp [inoStill, List.range_succ, isIno], rfl, p0 x hx, b', hb', by simp [outsOf, List.range_succ, inoD]⟩
end Ow

namespace Ow
open PySem PyProof.Rows PySem.Spec L2
theorem join_le : ∀ ts : List Str, (Str.join ", " ts).length ≤ (ts.map Str.length).sum + 2 * ts.length
  | [] => by show (Str.empty).length ≤ _; exact Nat.zero_le _
  | [x] => by show x.length ≤ _; simp
  | x :: y :: r => by
    have ih := join_le (y :: r)
    have e : Str.join ", " (x :: y :: r) = x ++ ", " ++ Str.join ", " (y :: r) := rfl
    have e2 : ((", " : String) : Str).length = 2 := rfl
    rw [e, strLen_append, strLen_append, e2]
    simp only [List.map_cons, List.sum_cons, List.length_cons] at ih ⊢
    omega
theorem tupleText_le (ts : List Str) : (tupleText ts).length ≤ (ts.map Str.length).sum + 2 * ts.length + 3 := by
  unfold tupleText
  have j := join_le ts
  have e1 : (("(" : String) : Str).length = 1 := rfl
  have e3 : ((if ts.length == 1 then ",)" else ")" : String) : Str).length ≤ 2 := by split <;> decide
  rw [strLen_append, strLen_append, e1]
  omega
/-- what can be shown, in so many signs -/
def OkR (k : Nat) (B : Nat) (d : D) : Prop := d.plain = true ∧ d.hasDict = false ∧ d.showable = true ∧ d.depth ≤ k ∧ d.shown.length ≤ B
theorem okR_leaf {d : D} (h : Leaf d) : OkR 0 10 d := by
  cases d with
  | none => exact ⟨by simp [PyData.plain], by simp [PyData.hasDict], by simp [PyData.showable], by simp [PyData.depth], by simp only [PyData.shown]; decide⟩
  | int i =>
    have h1 : i.natAbs < 10 ^ 8 := by have := h.1; have := h.2; omega
    have h2 : i.natAbs.log2 < 1920 := by
      rcases Nat.eq_zero_or_pos i.natAbs with h0 | h0
      · rw [h0]; decide
      · rw [Nat.log2_lt (by omega)]
        calc i.natAbs < 2 ^ 27 := by omega
          _ ≤ 2 ^ 1920 := Nat.pow_le_pow_right (by decide) (by decide)
    refine ⟨by simp [PyData.plain], by simp [PyData.hasDict], by simp only [PyData.showable]; exact decide_eq_true h2, by simp [PyData.depth], ?_⟩
    simp only [PyData.shown]
    have := int_text_length_le10 (k := 8) (by decide) h1
    show (Str.ofString (toString i)).length ≤ 10
    rw [PySem.ofString_length]
    omega
  | str x =>
    rcases h with rfl | rfl | rfl | rfl <;> exact ⟨by simp [PyData.plain], by simp [PyData.hasDict], by simp [PyData.showable], by simp [PyData.depth], by simp only [PyData.shown]; decide +kernel⟩
  | _ => exact h.elim
theorem okR_all {k B : Nat} : ∀ {ds : List D}, (∀ d ∈ ds, OkR k B d) → PyData.plainAll ds = true ∧ PyData.hasDictAll ds = false ∧ PyData.showableAll ds = true ∧ PyData.depthAll ds ≤ k ∧ ((PyData.shownAll ds).map Str.length).sum ≤ ds.length * B ∧ (PyData.shownAll ds).length = ds.length
  | [], _ => ⟨by simp [PyData.plainAll], by simp [PyData.hasDictAll], by simp [PyData.showableAll], by simp [PyData.depthAll], by simp [PyData.shownAll], by simp [PyData.shownAll]⟩
  | d :: ds, h => by
    obtain ⟨a1, a2, a3, a4, a5⟩ := h d (by simp)
    obtain ⟨b1, b2, b3, b4, b5, b6⟩ := okR_all fun d hd => h d (List.mem_cons_of_mem _ hd)
    refine ⟨by simp [PyData.plainAll, a1, b1], by simp [PyData.hasDictAll, a2, b2], by simp [PyData.showableAll, a3, b3], by simp only [PyData.depthAll]; omega, ?_, by simp [PyData.shownAll, b6]⟩
    simp only [PyData.shownAll, List.map_cons, List.sum_cons, List.length_cons, Nat.succ_mul]
    omega
theorem okR_tuple {k B n : Nat} {ds : List D} (hn : ds.length ≤ n) (h : ∀ d ∈ ds, OkR k B d) : OkR (k + 1) (n * (B + 2) + 3) (.tuple ds) := by
  obtain ⟨b1, b2, b3, b4, b5, b6⟩ := okR_all h
  refine ⟨by simp [PyData.plain, b1], by simp [PyData.hasDict, b2], by simp [PyData.showable, b3], by simp only [PyData.depth]; omega, ?_⟩
  simp only [PyData.shown]
  have t := tupleText_le (PyData.shownAll ds)
  have m1 : ds.length * B ≤ n * B := Nat.mul_le_mul_right _ hn
  rw [b6] at t
  rw [Nat.mul_add]
  omega
theorem OkR.imp {k k' B B' : Nat} {d : D} (h : OkR k B d) (hk : k ≤ k') (hB : B ≤ B') : OkR k' B' d := ⟨h.1, h.2.1, h.2.2.1, Nat.le_trans h.2.2.2.1 hk, Nat.le_trans h.2.2.2.2 hB⟩
theorem okR_1 {d : D} (h : G1 d) : OkR 1 759 d := by
  by_cases ht : ∃ ds, d = .tuple ds
  · obtain ⟨ds, rfl⟩ := ht
    exact okR_tuple (n := 63) (by have := h.1; omega) fun d hd => okR_leaf (h.2 d hd)
  · have : Leaf d := by cases d <;> first | exact h | exact absurd ⟨_, rfl⟩ ht
    exact (okR_leaf this).imp (by decide) (by decide)
theorem okR_2 {d : D} (h : G2 d) : OkR 2 47946 d := by
  by_cases ht : ∃ ds, d = .tuple ds
  · obtain ⟨ds, rfl⟩ := ht
    exact okR_tuple (n := 63) (by have := h.1; omega) fun d hd => okR_1 (h.2 d hd)
  · have : Leaf d := by cases d <;> first | exact h | exact absurd ⟨_, rfl⟩ ht
    exact (okR_leaf this).imp (by decide) (by decide)
theorem okR_3 {d : D} (h : G3 d) : OkR 3 3020727 d := by
  by_cases ht : ∃ ds, d = .tuple ds
  · obtain ⟨ds, rfl⟩ := ht
    exact okR_tuple (n := 63) (by have := h.1; omega) fun d hd => okR_2 (h.2 d hd)
  · have : Leaf d := by cases d <;> first | exact h | exact absurd ⟨_, rfl⟩ ht
    exact (okR_leaf this).imp (by decide) (by decide)
theorem repr_ok {d : D} (h : G3 d) : ∃ x, dRepr [d] = some (.str x, false) := by
  obtain ⟨a1, a2, a3, a4, a5⟩ := okR_3 h
  have hs : 3020727 ≤ sizeLine := by decide
  cases d with
  | none => exact ⟨_, rfl⟩
  | int i =>
    refine ⟨toString i, if_pos ?_⟩
    simpa [PyData.showable] using a3
  | str x =>
    refine ⟨reprText x, if_pos ?_⟩
    simp only [PyData.shown] at a5
    omega
  | tuple ds =>
    refine ⟨PyData.shown (.tuple ds), if_pos ?_⟩
    simp only [noDicts, a1, a2, a3, Bool.not_false, Bool.and_self, Bool.true_and, Bool.and_eq_true, decide_eq_true_eq]
    exact ⟨by omega, by omega⟩
  | _ => exact h.elim
end Ow

namespace Ow
open PySem PyProof.Rows PySem.Spec L2
/-- what a call of one value tells -/
def callR (ρ : AE) : Option FR → Res (D × Bool)
  | some (.ret d fl _) => .ok (d, fl) ρ
  | some (.exc c) => .exc c
  | none => .stuck
theorem call1_R {sem : Fun} {f : EvE} {ρ : AE} {p : D × Bool} (h : f ρ = .ok p ρ) : eCall sem [.val f] ρ = callR ρ (sem [p.1]) := by
  unfold eCall
  simp only [evArgs, h, bind_ok]
  have h1 : refsOk [(p.1, none)] ρ = true := by simp [refsOk, List.range_succ]
  have h2 : nowD [(p.1, none)] ρ = [p.1] := rfl
  rw [if_pos h1, h2]
  cases sem [p.1] with
  | none => rfl
  | some r =>
    cases r with
    | ret d fl outs =>
      show Res.ok (d, fl) (putOuts [(p.1, none)] outs ρ) = _
      rw [putOuts_none (by simp)]
      rfl
    | exc c => rfl
/-- what is due -/
def dueD (b : Bool) : D := if b then .tuple [.int 0, .none] else .tuple [.int 1, .str "schema"]
theorem toldS_ok {ρ : AE} {d : D} (h5 : ρ[5]? = some (.val d)) (h : G3 d) : eTold readD toldWord (eCall check_schema_S [.val (eVar 5)]) ρ = .ok (dueD (schB d), false) ρ := by
  have hm : (maskA ρ)[5]? = some (.val d) := by simp [maskA, h5]
  have c := call1_R (sem := check_schema_S) (f := eVar 5) (ρ := maskA ρ) (p := (d, false)) (by simp [eVar, hm])
  have q := check_ok h
  unfold eTold
  rw [c]
  revert q
  simp only
  generalize check_schema_S [d] = r
  intro q
  cases r with
  | none => exact q.elim
  | some r =>
    cases r with
    | ret a fl outs =>
      obtain ⟨h1, rfl, rfl⟩ := q
      rw [h1]
      rfl
    | exc e =>
      obtain ⟨h1, rfl⟩ := q
      rw [h1]
      have hw : toldWord "BadSchema" = some "schema" := by decide
      simp only [callR, hw]
      rfl
theorem ne_due (b : Bool) : dNe (dueD b) (dueD b) = some (.bool false, false) := by
  cases b <;> simp [dueD, dNe, okC, PyData.plain, PyData.plainAll, PyData.depth, PyData.depthAll, PyData.eqv, PyData.eqvAll]
theorem ne_str (x : Str) : dNe (.str x) (.str x) = some (.bool false, false) := by
  simp [dNe, okC, PyData.plain, PyData.depth, PyData.eqv]
def lwB : StF := (sSeq (sAsg 6 (eOps dRepr [(oVar 5)])) (sSeq (sAsg 7 (eIte (tVal (eCall _law_is_schema_S [.val (eVar 5)])) (eTup [(eCon (.int 0)), (eCon .none)]) (eTup [(eCon (.int 1)), (eCon (.str "schema"))]))) (sIf (tOr2 (tVal (eBin dNe (oOf (eTold readD toldWord (eCall check_schema_S [.val (eVar 5)]))) (oVar 7))) (tVal (eBin dNe (oOf (eOps dRepr [(oVar 5)])) (oVar 6)))) (sRet (eCon (.bool false))) sNx)))
theorem lwB_ok {w : Wp} {s0 s1 s2 s3 s4 s6 s7 : Slot} {d : D} (h : G3 d) (h6 : quiet (some s6)) (h7 : quiet (some s7)) (q : ∀ a b, w.nx [s0, s1, s2, s3, s4, .val d, .val a, .val b]) : SSat (lwB [s0, s1, s2, s3, s4, .val d, s6, s7]) w := by
  unfold lwB
  obtain ⟨x, hx⟩ := repr_ok h
  refine ssat_seq (ssat_asg (sat_op1 (sat_ovar rfl ⟨rfl, _, hx, quiet_no h6, ?_⟩)))
  simp only [slotOf, Bool.false_and, Bool.false_eq_true, if_false, List.set_cons_succ, List.set_cons_zero, next_nx]
  have c := call1_eq (sem := _law_is_schema_S) (f := eVar 5) (ρ := [s0, s1, s2, s3, s4, .val d, .val (.str x), s7]) (p := (d, false)) (by simp [eVar]) (lawschema_ok h)
  have e7 : eIte (tVal (eCall _law_is_schema_S [.val (eVar 5)])) (eTup [(eCon (.int 0)), (eCon .none)]) (eTup [(eCon (.int 1)), (eCon (.str "schema"))]) [s0, s1, s2, s3, s4, .val d, .val (.str x), s7] = .ok (dueD (schB d), false) [s0, s1, s2, s3, s4, .val d, .val (.str x), s7] := by
    simp only [eIte, tVal, c, bind_ok]
    cases schB d <;> rfl
  refine ssat_seq (ssat_asg (Sat.of e7 ⟨quiet_no h7, ?_⟩))
  simp only [slotOf, Bool.false_and, Bool.false_eq_true, if_false, List.set_cons_succ, List.set_cons_zero, next_nx]
  refine ssat_if (sat_or (sat_tval (sat_bin (sat_oOf (Sat.of (toldS_ok rfl h) (sat_ovar rfl ⟨rfl, _, ne_due _, _, rfl, ?_⟩))))))
  simp only [Bool.false_eq_true, if_false]
  refine sat_tval (sat_bin (sat_oOf (sat_op1 (sat_ovar rfl ⟨rfl, _, hx, sat_ovar rfl ⟨rfl, _, ne_str _, _, rfl, ?_⟩⟩))))
  exact q _ _
end Ow

namespace Ow
open PySem PyProof.Rows PySem.Spec L2
/-! ### the box lies in the third slot -/
theorem sat_draw2 {f : EvE} {s0 s1 : Slot} {r : AE} {d : D} {m : Int} {fl : Bool} {P : D × Bool → AE → Prop} (hb : Bx d) (hf : f (s0 :: s1 :: .own d :: r) = .ok (.int m, fl) (s0 :: s1 :: .own d :: r)) (h0 : 0 < m) (h1 : m < 2 ^ 30)
    (h : ∀ (n : Int) (d' : D), 0 ≤ n → n < m → Bx d' → P (.int n, false) (s0 :: s1 :: .own d' :: r)) : Sat (eCall _law_draw_S [.ref 2, .val f] (s0 :: s1 :: .own d :: r)) P :=
  sat_draw hf rfl rfl hb h0 h1 h
theorem sat_schema2 {f : EvE} {s0 s1 : Slot} {r : AE} {d : D} {P : D × Bool → AE → Prop} (hf : Sat (f (s0 :: s1 :: .own d :: r)) fun p ρ1 => ∃ (m : Int) (d' : D), p.1 = .int m ∧ 1 ≤ m ∧ m ≤ 1000 ∧ Bx d' ∧ ρ1 = s0 :: s1 :: .own d' :: r)
    (h : ∀ (e : D) (d' : D), SchO e → Bx d' → P (e, false) (s0 :: s1 :: .own d' :: r)) : Sat (eCall _law_schema_S [.ref 2, .val f] (s0 :: s1 :: .own d :: r)) P := by
  refine sat_call2 rfl (hf.imp ?_)
  rintro ⟨p, fl⟩ ρ1 ⟨m, d', rfl, h1, h2, hb, rfl⟩
  refine ⟨.own d', d', rfl, rfl, (schema_fn h1 h2 hb).imp (fun r fl outs q => ?_) fun _ h => h⟩
  obtain ⟨rfl, h2, d', h4, rfl⟩ := q
  exact h r d' h2 h4
theorem sat_spoilt2 {f : EvE} {s0 s1 : Slot} {r : AE} {d sch : D} {fl : Bool} {P : D × Bool → AE → Prop} (hb : Bx d) (hf : f (s0 :: s1 :: .own d :: r) = .ok (sch, fl) (s0 :: s1 :: .own d :: r)) (hs : SchO sch)
    (h : ∀ (e : D) (d' : D), G3 e → Bx d' → P (e, false) (s0 :: s1 :: .own d' :: r)) : Sat (eCall _law_spoilt_S [.ref 2, .val f] (s0 :: s1 :: .own d :: r)) P := by
  refine sat_call2 rfl ?_
  rw [hf]
  refine ⟨.own d, d, rfl, rfl, (spoilt_fn hb hs).imp (fun r fl outs q => ?_) fun _ h => h⟩
  obtain ⟨rfl, h2, d', h4, rfl⟩ := q
  exact h r d' h2 h4
theorem pick_most {n : Int} (h0 : 0 ≤ n) (h1 : n < 2) : ∃ v : Int, dIx (.list [.int 512, .int 64]) (.int n) = some (.int v, false) ∧ 1 ≤ v ∧ v ≤ 1000 := by
  obtain ⟨v, e, hv⟩ := atI_lt (l := [512, (64 : Int)]) h0 h1
  have e2 := atI_map (fun v : Int => PyData.int v) [512, (64 : Int)] n
  rw [e] at e2
  refine ⟨v, ?_, ?_⟩
  · show (atI ([512, (64 : Int)].map fun v : Int => PyData.int v) n).map (fun d => (d, false)) = _
    rw [e2]; rfl
  · simp at hv
    omega
theorem sat_stream {ns : List Int} {k : Int} {r : AE} {P : D × Bool → AE → Prop} (hk : 0 ≤ k) (h : ∀ d, Bx d → P (d, true) (.val (.list (ns.map PyData.int)) :: .val (.int k) :: r)) : Sat (eCall _law_stream_S [.val (eVar 0), .val (eVar 1)] (.val (.list (ns.map PyData.int)) :: .val (.int k) :: r)) P := by
  refine sat_callV (evArgs_val (sat_var rfl (evArgs_val (sat_var rfl ?_))))
  simp only [evArgs, sat_ok]
  refine ⟨by simp, ?_⟩
  refine (stream_ok (ns := ns) hk).imp (fun r fl outs q => ?_) fun _ h => h
  obtain ⟨h1, rfl⟩ := q
  exact h r h1
theorem bx_mut {d : D} (h : Bx d) : isMut d = true := by
  obtain ⟨a, b, _, _, rfl⟩ := h
  rfl
def lwT : StF := (sSeq (sAsg 4 (eCall _law_schema_S [.ref 2, .val (eBin dIx (oOf (eLst [(eCon (.int 512)), (eCon (.int 64))])) (oOf (eCall _law_draw_S [.ref 2, .val (eCon (.int 2))])))])) (sFor [0, 1, 2, 3, 4, 5, 6, 7] (iSeq (oOf (eLst [(eVar 4), (eCall _law_spoilt_S [.ref 2, .val (eVar 4)]), (eCall _law_spoilt_S [.ref 2, .val (eVar 4)]), (eCall _law_spoilt_S [.ref 2, .val (eVar 4)])]))) (.name 5) lwB))
def lwK : StF := (sFor [0, 1, 2, 3, 4, 5, 6, 7] (iRange1 (oOf (eCon (.int 4)))) (.name 3) lwT)
theorem law_split : law_F = (sSeq (sFor [0, 1, 2, 3, 4, 5, 6, 7] (iRange1 (oOf (eCon (.int 3)))) (.name 1) (sSeq (sAsg 2 (eCall _law_stream_S [.val (eVar 0), .val (eVar 1)])) lwK)) (sRet (eCon (.bool true)))) := rfl
theorem lwT_ok {w : Wp} {s0 s1 s3 s4 s5 s6 s7 : Slot} {d : D} (hb : Bx d) (h4 : quiet (some s4)) (h5 : quiet (some s5)) (h6 : quiet (some s6)) (h7 : quiet (some s7))
    (q : ∀ d s4 s5 s6 s7, Bx d → quiet (some s4) → quiet (some s5) → quiet (some s6) → quiet (some s7) → w.nx [s0, s1, .own d, s3, s4, s5, s6, s7]) : SSat (lwT [s0, s1, .own d, s3, s4, s5, s6, s7]) w := by
  unfold lwT
  refine ssat_seq (ssat_asg (sat_schema2 ?_ fun sch d hs hb => ⟨quiet_no h4, ?_⟩))
  · have el : eLst [(eCon (.int 512)), (eCon (.int 64))] [s0, s1, .own d, s3, s4, s5, s6, s7] = .ok (.list [.int 512, .int 64], true) [s0, s1, .own d, s3, s4, s5, s6, s7] := rfl
    refine sat_bin (sat_oOf (Sat.of el (sat_oOf (sat_draw2 (m := 2) (fl := false) hb rfl (by decide) (by decide) fun n b' h0 h1 hb' => ?_))))
    obtain ⟨v, ev, v1, v2⟩ := pick_most h0 h1
    exact ⟨rfl, _, ev, v, b', rfl, v1, v2, hb', rfl⟩
  · simp only [slotOf, Bool.false_and, Bool.false_eq_true, if_false, List.set_cons_succ, List.set_cons_zero, next_nx]
    refine ssat_forS (Sat.bind (sat_oOf (sat_lst (sat_el (sat_var rfl (sat_el (sat_spoilt2 (fl := false) hb (by simp [eVar]) hs fun x1 b1 g1 hb1 => sat_el (sat_spoilt2 (fl := false) hb1 (by simp [eVar]) hs fun x2 b2 g2 hb2 => sat_el (sat_spoilt2 (fl := false) hb2 (by simp [eVar]) hs fun x3 b3 g3 hb3 => sat_el_nil ?_)))))))))
    have gs : ∀ x ∈ [sch, x1, x2, x3], G3 x := by
      intro x hx
      simp only [List.mem_cons, List.not_mem_nil, or_false] at hx
      rcases hx with rfl | rfl | rfl | rfl
      · exact hs.g3
      · exact g1
      · exact g2
      · exact g3
    show Sat (Res.ok ([sch, x1, x2, x3], [(PyData.list [sch, x1, x2, x3], none)]) _) _
    rw [sat_ok]
    refine ⟨rfl, ?_⟩
    refine ssat_for (fun ds ρ => ∃ s5 s6 s7, (∀ x ∈ ds, G3 x) ∧ quiet (some s5) ∧ quiet (some s6) ∧ quiet (some s7) ∧ ρ = [s0, s1, .own b3, s3, .val sch, s5, s6, s7]) ?_ ?_ _ _ ⟨s5, s6, s7, gs, h5, h6, h7, rfl⟩
    · rintro x ds ρ ⟨s5, s6, s7, hg, h5, h6, h7, rfl⟩
      refine ⟨rfl, _, bind_q h5, ?_⟩
      simp only [List.set_cons_succ, List.set_cons_zero]
      refine lwB_ok (hg x (by simp)) h6 h7 fun a b => ?_
      exact ⟨.val x, .val a, .val b, fun y hy => hg y (List.mem_cons_of_mem _ hy), trivial, trivial, trivial, rfl⟩
    · rintro ρ ⟨s5, s6, s7, hg, h5, h6, h7, rfl⟩
      exact ⟨rfl, q _ _ _ _ _ hb3 trivial h5 h6 h7⟩
theorem law_ok (ns : List Int) : FSat (law_S [.list (ns.map PyData.int)]) (fun r fl outs => r = .bool true) (fun _ => False) := by
  refine fsat_run rfl ?_
  show SSat (law_F [.val (.list (ns.map PyData.int)), .non, .non, .non, .non, .non, .non, .non]) _
  rw [law_split]
  have fin : ∀ ρ : AE, inoStill [false] ρ = true := fun ρ => by simp [inoStill, List.range_succ]
  refine ssat_seq (ssat_forS (Sat.of (rng_nat (n := 3) (b := none) rfl (by decide)) ⟨rfl, ?_⟩))
  refine ssat_for (fun ds ρ => ∃ s1 s2 s3 s4 s5 s6 s7, (∀ x ∈ ds, ∃ c : Nat, x = .int c ∧ c < 3) ∧ quiet (some s1) ∧ isNoIno (some s2) = true ∧ quiet (some s3) ∧ quiet (some s4) ∧ quiet (some s5) ∧ quiet (some s6) ∧ quiet (some s7) ∧ ρ = [.val (.list (ns.map PyData.int)), s1, s2, s3, s4, s5, s6, s7]) ?_ ?_ _ _
    ⟨.non, .non, .non, .non, .non, .non, .non, fun x hx => range_mem hx, trivial, rfl, trivial, trivial, trivial, trivial, trivial, rfl⟩
  · rintro x ds ρ ⟨s1, s2, s3, s4, s5, s6, s7, hx, h1, h2, h3, h4, h5, h6, h7, rfl⟩
    refine ⟨rfl, _, bind_q h1, ?_⟩
    obtain ⟨c, rfl, hc⟩ := hx x (by simp)
    simp only [List.set_cons_succ, List.set_cons_zero]
    refine ssat_seq (ssat_asg (sat_stream (by omega) fun d hb => ⟨h2, ?_⟩))
    simp only [slotOf, bx_mut hb, Bool.and_self, if_true, List.set_cons_succ, List.set_cons_zero, next_nx]
    unfold lwK
    refine ssat_forS (Sat.of (rng_nat (n := 4) (b := none) rfl (by decide)) ⟨rfl, ?_⟩)
    refine ssat_for (fun ds' ρ => ∃ b s3 s4 s5 s6 s7, Bx b ∧ quiet (some s3) ∧ quiet (some s4) ∧ quiet (some s5) ∧ quiet (some s6) ∧ quiet (some s7) ∧ ρ = [.val (.list (ns.map PyData.int)), .val (.int c), .own b, s3, s4, s5, s6, s7]) ?_ ?_ _ _
      ⟨d, s3, s4, s5, s6, s7, hb, h3, h4, h5, h6, h7, rfl⟩
    · rintro y ds' ρ ⟨b, s3, s4, s5, s6, s7, hb, h3, h4, h5, h6, h7, rfl⟩
      refine ⟨rfl, _, bind_q h3, ?_⟩
      simp only [List.set_cons_succ, List.set_cons_zero]
      refine lwT_ok hb h4 h5 h6 h7 fun d s4 s5 s6 s7 hb h4 h5 h6 h7 => ?_
      exact ⟨d, .val y, s4, s5, s6, s7, hb, trivial, h4, h5, h6, h7, rfl⟩
    · rintro ρ ⟨b, s3, s4, s5, s6, s7, hb, h3, h4, h5, h6, h7, rfl⟩
      exact ⟨rfl, .val (.int c), .own b, s3, s4, s5, s6, s7, fun x h => hx x (List.mem_cons_of_mem _ h), trivial, rfl, h3, h4, h5, h6, h7, rfl⟩
  · rintro ρ ⟨s1, s2, s3, s4, s5, s6, s7, hx, h1, h2, h3, h4, h5, h6, h7, rfl⟩
    refine ⟨rfl, ?_⟩
    simp only [next_nx]
    exact ssat_ret (sat_con ⟨fin _, rfl⟩)
theorem read_ok : ∀ ds r, readSem readD ds = some r → _law_read_S 8 ds = some r := by
  intro ds r h
  unfold readSem at h
  split at h
  · rename_i d
    cases d with
    | none => cases h; rfl
    | _ => simp [readD] at h
  · cases h
theorem plain : ∀ ns : List Int, ns.length ≤ 63 → (∀ z ∈ ns, Builtin.Int.intBits z ≤ 1048576) → ∃ fl outs, law_S [.list (ns.map PyData.int)] = some (.ret (.bool true) fl outs) := by
  intro ns _ _
  have h := law_ok ns
  revert h
  cases law_S [.list (ns.map PyData.int)] with
  | none => exact fun h => h.elim
  | some r =>
    cases r with
    | exc c => exact fun h => h.elim
    | ret d fl outs =>
      intro h
      have h : d = .bool true := h
      subst h
      exact ⟨fl, outs, rfl⟩
end Ow

namespace Hd
open PySem PyProof.Rows PySem.Spec L2
def d__law_draw : He.DefD := ⟨("_law_draw", none), "_law_draw", "_law_draw", defArgs s__law_draw, defBody s__law_draw, defScope s__law_draw, [], []⟩
def d__law_is_schema : He.DefD := ⟨("_law_is_schema", none), "_law_is_schema", "_law_is_schema", defArgs s__law_is_schema, defBody s__law_is_schema, defScope s__law_is_schema, [], []⟩
def d__law_ordered : He.DefD := ⟨("_law_ordered", none), "_law_ordered", "_law_ordered", defArgs s__law_ordered, defBody s__law_ordered, defScope s__law_ordered, [], []⟩
def d__law_edges : He.DefD := ⟨("_law_edges", none), "_law_edges", "_law_edges", defArgs s__law_edges, defBody s__law_edges, defScope s__law_edges, [], []⟩
def d__law_schema : He.DefD := ⟨("_law_schema", none), "_law_schema", "_law_schema", defArgs s__law_schema, defBody s__law_schema, defScope s__law_schema, [], []⟩
def d__law_spoilt : He.DefD := ⟨("_law_spoilt", none), "_law_spoilt", "_law_spoilt", defArgs s__law_spoilt, defBody s__law_spoilt, defScope s__law_spoilt, [], []⟩
def d__law_cell : He.DefD := ⟨("_law_cell", none), "_law_cell", "_law_cell", defArgs s__law_cell, defBody s__law_cell, defScope s__law_cell, [], []⟩
def d__law_stream : He.DefD := ⟨("_law_stream", none), "_law_stream", "_law_stream", defArgs s__law_stream, defBody s__law_stream, defScope s__law_stream, [], []⟩
def d_is_rising : He.DefD := ⟨("is_rising", none), "is_rising", "is_rising", defArgs s_is_rising, defBody s_is_rising, defScope s_is_rising, [], []⟩
def d_are_columns : He.DefD := ⟨("are_columns", none), "are_columns", "are_columns", defArgs s_are_columns, defBody s_are_columns, defScope s_are_columns, [], []⟩
def d_are_edges : He.DefD := ⟨("are_edges", none), "are_edges", "are_edges", defArgs s_are_edges, defBody s_are_edges, defScope s_are_edges, [], []⟩
def d_how_many : He.DefD := ⟨("how_many", none), "how_many", "how_many", defArgs s_how_many, defBody s_how_many, defScope s_how_many, [], []⟩
def d_is_schema : He.DefD := ⟨("is_schema", none), "is_schema", "is_schema", defArgs s_is_schema, defBody s_is_schema, defScope s_is_schema, [], []⟩
def d_check_schema : He.DefD := ⟨("check_schema", none), "check_schema", "check_schema", defArgs s_check_schema, defBody s_check_schema, defScope s_check_schema, [], []⟩
def d_law : He.DefD := ⟨("law", none), "law", "law", defArgs s_law, defBody s_law, defScope s_law, [], []⟩
def d__law_read : He.DefD := ⟨("_law_read", none), "_law_read", "_law_read", defArgs s__law_read, defBody s__law_read, defScope s__law_read, [], []⟩
def d__law_told : He.DefD := ⟨("_law_told", none), "_law_told", "_law_told", defArgs s__law_told, defBody s__law_told, defScope s__law_told, [], []⟩
def fn : List He.DefD := [d__law_draw, d__law_is_schema, d__law_ordered, d__law_edges, d__law_schema, d__law_spoilt, d__law_cell, d__law_stream, d_is_rising, d_are_columns, d_are_edges, d_how_many, d_is_schema, d_check_schema, d_law, d__law_read, d__law_told]
def fa : List He.Fa := [.glo "_law_draw", .glo "_law_is_schema", .glo "_law_ordered", .glo "_law_edges", .glo "_law_schema", .glo "_law_spoilt", .glo "_law_cell", .glo "_law_stream", .glo "is_rising", .glo "are_columns", .glo "are_edges", .glo "how_many", .glo "is_schema", .glo "check_schema", .glo "law", .glo "_law_read", .glo "_law_told", .glo "WholeError", .glo "BadSchema", .glo "BadKind", .glo "BadTable", .glo "BadPaper", .glo "BadState", .glo "NotAgreeing", .glo "OutOfRange", .exc "WholeError", .exc "BadSchema", .exc "BadKind", .exc "BadTable", .exc "BadPaper", .exc "BadState", .exc "NotAgreeing", .exc "OutOfRange", .int "MOST_COLUMNS" 9, .int "MOST_VALUES" 4, .int "MOST_ROWS" 512, .int "MOST_EDGES" 10] ++ Ow.bnames.map He.Fa.free
def tf : List He.Defn := [("law", none)]
def ex (K : PySem.W.Frag) : Bool := Ow.kindsB "WholeError" Ow.toldCs K
abbrev R : PySem.W.OpenRow := PySem.W.OpenLaw.row PySem.Challenge.rw_oncewhole_k01_schemas_checked
def loose0 : List PySem.Str := ["WholeError", "BadSchema", "BadKind", "BadTable", "BadPaper", "BadState", "NotAgreeing", "OutOfRange", "MOST_COLUMNS", "MOST_VALUES", "MOST_ROWS", "MOST_EDGES", "is_rising", "are_columns", "are_edges", "is_schema", "how_many", "check_schema", "_law_read", "_law_cell", "_law_stream", "_law_draw", "_law_told", "_law_ordered", "_law_edges", "_law_schema", "_law_is_schema", "_law_spoilt"]
def loose : List PySem.Str := loose0
abbrev hk : PySem.W.Hook := He.hookX 4 fa fn [] tf ex
def ob (s : PySem.W.SharedT) : He.AlX := He.obsX 4 fa fn [] tf ex (HandSHeadRun.getT s)
theorem ob_eq (s : PySem.W.SharedT) : ob s = hk.obs s.abs := He.obsX_eq (HandSHeadRun.getT_eq s)
theorem run (w : World) : HandSHeadRun.RunEq R (PySem.W.view R.prog [31]) hk ob 6000 loose w := by
  intro os
  kernel_rfl
end Hd
namespace Ow
open PySem PyProof.Rows PySem.Spec L2 LamX
theorem the_law {w : World} {mg : Str → Option Value} {fa : Addr} {h : Heap} {K : PySem.W.Frag} (KX : K.In h) (G : h.Ns mainGlobals mg) (hmg : mg ("law" : Str) = some (.ref fa)) (c : He.SaysX Hd.fa Hd.fn [] Hd.tf Hd.ex w h K)
    (plain : ∀ ns : List Int, ns.length ≤ 63 → (∀ z ∈ ns, Builtin.Int.intBits z ≤ 1048576) → ∃ fl outs, law_S [.list (ns.map PyData.int)] = some (.ret (.bool true) fl outs)) : LawG PySem.Challenge.rw_oncewhole_k01_schemas_checked w K 10 63 "script" mg fa h := by
  have cd := c.t.d
  have glo : ∀ x : Str, He.Fa.glo x ∈ Hd.fa → mg x = some (.ref (He.ga K x)) := fun x hx => He.glo_ok KX G (cd.facts hx)
  have e := hmg.symm.trans (glo "law" (by simp [Hd.fa]))
  cases e
  obtain ⟨fd, Fd⟩ := cd.defs (d := Hd.d_law) (by simp [Hd.fn])
  refine ⟨fd, Hd.tf.map (He.cT K), [((He.cT K ("law", none)).2, ("law" ++ ".<locals>." ++ "<lambda>" : Str))], fun x => .ref (He.ga K x), law_S, fun p hp => ?_, fun p hp => ?_, fun p hp => ?_, fun p hp => ?_, fun s u => FunD.bindsA (ps := ["script"]) Fd (fun _ _ _ _ _ _ us hl => match us, hl with | [_], _ => rfl) s [u] rfl, plain, fun base KB nB TB => ?_⟩
  · obtain ⟨q, hq, rfl⟩ := List.mem_map.mp hp; exact c.empty q hq
  · obtain ⟨q, hq, rfl⟩ := List.mem_map.mp hp; exact c.out q hq
  · obtain ⟨q, hq, rfl⟩ := List.mem_map.mp hp; exact PySem.W.codeHd_of_K KX (c.hd q hq)
  · obtain rfl := List.mem_singleton.mp hp; simp [Hd.tf]
  have B : Bare (Ctx.top (PySem.Challenge.rw_oncewhole_k01_schemas_checked).prog w K mg base [((He.cT K ("law", none)).2, ("law" ++ ".<locals>." ++ "<lambda>" : Str))] (fun x => .ref (He.ga K x))) := fun x hx => He.free_ok KX G (cd.facts (f := .free x) (List.mem_append_right _ (List.mem_map.mpr ⟨x, hx, rfl⟩)))
  have C : Ints (Ctx.top (PySem.Challenge.rw_oncewhole_k01_schemas_checked).prog w K mg base [((He.cT K ("law", none)).2, ("law" ++ ".<locals>." ++ "<lambda>" : Str))] (fun x => .ref (He.ga K x))) := ⟨He.int_ok KX G (cd.facts (f := .int "MOST_COLUMNS" 9) (by simp [Hd.fa])), He.int_ok KX G (cd.facts (f := .int "MOST_VALUES" 4) (by simp [Hd.fa])), He.int_ok KX G (cd.facts (f := .int "MOST_ROWS" 512) (by simp [Hd.fa])), He.int_ok KX G (cd.facts (f := .int "MOST_EDGES" 10) (by simp [Hd.fa]))⟩
  have er : ∀ x : Str, He.Fa.glo x ∈ Hd.fa → He.Fa.exc x ∈ Hd.fa → ErrAt (Ctx.top (PySem.Challenge.rw_oncewhole_k01_schemas_checked).prog w K mg base [((He.cT K ("law", none)).2, ("law" ++ ".<locals>." ++ "<lambda>" : Str))] (fun x => .ref (He.ga K x))) x := fun x h1 h2 => by
    obtain ⟨a1, a2, a3, a4⟩ := He.exc_ok (cd.facts h2)
    exact ⟨He.ga K x, rfl, glo x h1, a1, a2, a3, a4⟩
  have R : Errs (Ctx.top (PySem.Challenge.rw_oncewhole_k01_schemas_checked).prog w K mg base [((He.cT K ("law", none)).2, ("law" ++ ".<locals>." ++ "<lambda>" : Str))] (fun x => .ref (He.ga K x))) := ⟨er "WholeError" (by simp [Hd.fa]) (by simp [Hd.fa]), er "BadSchema" (by simp [Hd.fa]) (by simp [Hd.fa]), er "BadKind" (by simp [Hd.fa]) (by simp [Hd.fa]), er "BadTable" (by simp [Hd.fa]) (by simp [Hd.fa]), er "BadPaper" (by simp [Hd.fa]) (by simp [Hd.fa]), er "BadState" (by simp [Hd.fa]) (by simp [Hd.fa]), er "NotAgreeing" (by simp [Hd.fa]) (by simp [Hd.fa]), er "OutOfRange" (by simp [Hd.fa]) (by simp [Hd.fa])⟩
  have h__law_draw := f__law_draw (cd.defs (d := Hd.d__law_draw) (by simp [Hd.fn])) (glo "_law_draw" (by simp [Hd.fa])) B
  have h__law_is_schema := f__law_is_schema (cd.defs (d := Hd.d__law_is_schema) (by simp [Hd.fn])) (glo "_law_is_schema" (by simp [Hd.fa])) B
  have h__law_ordered := f__law_ordered (cd.defs (d := Hd.d__law_ordered) (by simp [Hd.fn])) (glo "_law_ordered" (by simp [Hd.fa])) B
  have h__law_edges := f__law_edges h__law_draw h__law_ordered (cd.defs (d := Hd.d__law_edges) (by simp [Hd.fn])) (glo "_law_edges" (by simp [Hd.fa])) B
  have h__law_schema := f__law_schema h__law_draw h__law_edges (cd.defs (d := Hd.d__law_schema) (by simp [Hd.fn])) (glo "_law_schema" (by simp [Hd.fa])) B
  have h__law_spoilt := f__law_spoilt h__law_draw (cd.defs (d := Hd.d__law_spoilt) (by simp [Hd.fn])) (glo "_law_spoilt" (by simp [Hd.fa])) B
  have h__law_cell := f__law_cell (cd.defs (d := Hd.d__law_cell) (by simp [Hd.fn])) (glo "_law_cell" (by simp [Hd.fa])) B
  have h__law_stream := f__law_stream h__law_cell (cd.defs (d := Hd.d__law_stream) (by simp [Hd.fn])) (glo "_law_stream" (by simp [Hd.fa])) B
  have h_is_rising := f_is_rising (cd.defs (d := Hd.d_is_rising) (by simp [Hd.fn])) (glo "is_rising" (by simp [Hd.fa])) B
  have h_are_columns := f_are_columns h_is_rising (cd.defs (d := Hd.d_are_columns) (by simp [Hd.fn])) (glo "are_columns" (by simp [Hd.fa])) B
  have h_are_edges := f_are_edges h_are_columns (cd.defs (d := Hd.d_are_edges) (by simp [Hd.fn])) (glo "are_edges" (by simp [Hd.fa])) B C
  have h_how_many := f_how_many (cd.defs (d := Hd.d_how_many) (by simp [Hd.fn])) (glo "how_many" (by simp [Hd.fa])) B
  have h_is_schema := f_is_schema h_are_edges h_how_many (cd.defs (d := Hd.d_is_schema) (by simp [Hd.fn])) (glo "is_schema" (by simp [Hd.fa])) B C
  have h_check_schema := f_check_schema h_is_schema (cd.defs (d := Hd.d_check_schema) (by simp [Hd.fn])) (glo "check_schema" (by simp [Hd.fa])) B R
  have Kd : Kinds (Ctx.top (PySem.Challenge.rw_oncewhole_k01_schemas_checked).prog w K mg base [((He.cT K ("law", none)).2, ("law" ++ ".<locals>." ++ "<lambda>" : Str))] (fun x => .ref (He.ga K x))) "WholeError" toldCs := kinds_ok c.more (fun _ => rfl) (glo "WholeError" (by simp [Hd.fa])) (fun x hx => glo x (by simp only [toldCs, List.mem_cons, List.not_mem_nil, or_false] at hx; rcases hx with h | h | h | h | h | h | h <;> subst h <;> simp [Hd.fa]))
  have h__law_read := f__law_read (cd.defs (d := Hd.d__law_read) (by simp [Hd.fn])) (glo "_law_read" (by simp [Hd.fa])) B 8
  have Td := told_ok (cd.defs (d := Hd.d__law_told) (by simp [Hd.fn])) (glo "_law_told" (by simp [Hd.fa])) B Kd (h__law_read.imp (sem' := readSem readD) read_ok)
  exact f_law h__law_draw h__law_is_schema h__law_schema h__law_spoilt h__law_stream h_check_schema Fd B Td (TB _ (List.mem_map.mpr ⟨_, List.mem_singleton.mpr rfl, rfl⟩)) (List.mem_singleton.mpr rfl) (fun p hp _ => by rw [List.mem_singleton.mp hp])
end Ow
open PySem PySem.W PySem.Calls PyProof.Rows
theorem PySem.Challenge.cw_oncewhole_k01_schemas_checked_holds : PySem.Challenge.rw_oncewhole_k01_schemas_checked.Holds := by
  w_on; o_law
  refine HandSHeadRun.head_any (r := OpenLaw.row PySem.Challenge.rw_oncewhole_k01_schemas_checked) (q := view (OpenLaw.row PySem.Challenge.rw_oncewhole_k01_schemas_checked).prog [31]) (H := Hd.hk) (ob := Hd.ob) (M := 6000) (loose := Hd.loose) (d := HandSHeadRun.topDef (OpenLaw.row PySem.Challenge.rw_oncewhole_k01_schemas_checked).prog 31) (kwd := []) Hd.ob_eq
    (by kernel_rfl) (fun s => by kernel_rfl) Hd.run (by kernel_rfl) (by kernel_rfl) (by kernel_rfl) (by rfl) (by first | assumption | decide +kernel) (by decide +kernel) ⟨rfl, rfl, rfl, rfl, rfl, by decide +kernel⟩ ?hw ?hc
  case hw => w_witness2
  case hc =>
    refine Ow.walk_G (l := PySem.Challenge.rw_oncewhole_k01_schemas_checked) (n := 63) (k := 10) (x := "script") rfl (by decide) (by kernel_rfl) ⟨rfl, by decide, by decide⟩ ?F
    intro w mg fa h Y G hmg0
    obtain ⟨K, KX, c⟩ := Y
    have hmg : mg ("law" : PySem.Str) = some (.ref fa) := by
      have e : (HandSHeadRun.topDef (OpenLaw.row PySem.Challenge.rw_oncewhole_k01_schemas_checked).prog 31).name = ("law" : PySem.Str) := by kernel_rfl
      rw [← e]
      exact hmg0
    exact ⟨K, KX, Ow.the_law KX G hmg c Ow.plain⟩
